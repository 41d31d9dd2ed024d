import PyProof.Rows.All
import Wide.All
import OpenK.AllK
import Wide.FinOn
import KE.KStateDown
import HandS.ForMost
import HandS.Exc
import HandS.More
import HandS.Defaults
import HandS.Star
import HandS.Wide
import HandS.IsInst
import HandS.Walk
import HandS.Head0
import HandS.Head1
import HandS.Head2
import HandS.HeadEnd
import HandS.HeadHook1
import HandS.HeadHook2
import HandS.HeadHook3
import HandS.HeadHook4
import KE.KCallOwn
import HandS.FStr
import HandS.NoneIn
import HandS.MakeKw
import HandS.Style
import KE.KSuper
import KE.KExcSuper
import HandS.ExcInit
import HandS.ExcField
import HandS.MakeKwOnly
import HandS.Conv
import PySem.Challenge.RW_everydoor_k11_whole_orders_keep_orders
set_option Elab.async false
set_option linter.all false
set_option maxRecDepth 100000
set_option maxHeartbeats 4000000
set_option synthInstance.maxSize 100000
set_option synthInstance.maxHeartbeats 4000000
/-! ## Ed: what is owned. F: what stays as it is; M: cells that may change; H: the heap at hand (F, M and perhaps more). -/
namespace Ed
open PySem PySem.Spec PyProof.Rows L2
abbrev Cells := List (Addr × HO)
structure Own (F : Hp) (M : Cells) (H : Hp) : Prop where
  fr : Same F H
  mu : ∀ p ∈ M, H p.1 = some p.2
  ap : ∀ p ∈ M, F p.1 = none
  nd : (M.map Prod.fst).Nodup
section
variable {F F0 F1 H H' : Hp} {M A B : Cells} {p q : Addr} {x y : HO} {i : Nat}
theorem same_upd (h : F p = none) : Same F (upd F p x) := fun b o e => by
  rw [upd_ne (ne_of_none e h)]
  exact e
theorem Own.start (H : Hp) : Own H [] H := ⟨Same.refl H, fun _ h => (nomatch h), fun _ h => (nomatch h), List.nodup_nil⟩
theorem Own.free (o : Own F M H) (hp : H p = none) : F p = none := o.fr.free hp
theorem Own.notIn (o : Own F M H) (hp : H p = none) : p ∉ M.map Prod.fst := fun h => by
  obtain ⟨c, hc, e⟩ := List.mem_map.mp h
  have z := o.mu c hc
  rw [e, hp] at z
  cases z
theorem Own.newM (o : Own F M H) (hp : H p = none) : Own F ((p, x) :: M) (upd H p x) where
  fr := fun b u e => by
    rw [upd_ne (ne_of_none (o.fr b u e) hp)]
    exact o.fr b u e
  mu := fun c hc => by
    rcases List.mem_cons.mp hc with rfl | hc
    · exact upd_same
    · rw [upd_ne (ne_of_none (o.mu c hc) hp)]
      exact o.mu c hc
  ap := fun c hc => by
    rcases List.mem_cons.mp hc with rfl | hc
    · exact o.free hp
    · exact o.ap c hc
  nd := List.nodup_cons.mpr ⟨o.notIn hp, o.nd⟩
theorem Own.newF (o : Own F M H) (hp : H p = none) : Own (upd F p x) M (upd H p x) where
  fr := fun b u e => by
    by_cases hb : b = p
    · subst hb
      rw [upd_same] at e ⊢
      exact e
    · rw [upd_ne hb] at e ⊢
      exact o.fr b u e
  mu := fun c hc => by
    rw [upd_ne (ne_of_none (o.mu c hc) hp)]
    exact o.mu c hc
  ap := fun c hc => by
    rw [upd_ne (ne_of_none (o.mu c hc) hp)]
    exact o.ap c hc
  nd := o.nd
theorem Own.newM' (o : Own F M H) (e : upd H p x = H') (hp : H p = none) : Own F ((p, x) :: M) H' := e ▸ o.newM hp
theorem Own.newF' (o : Own F M H) (e : upd H p x = H') (hp : H p = none) : Own (upd F p x) M H' := e ▸ o.newF hp
/-- made and forgotten -/
theorem Own.lose (o : Own F M H) (hp : H p = none) : Own F M (upd H p x) := ⟨(o.newM (x := x) hp).fr, fun c hc => (o.newM (x := x) hp).mu c (List.mem_cons_of_mem _ hc), o.ap, o.nd⟩
theorem Own.lose' (o : Own F M H) (e : upd H p x = H') (hp : H p = none) : Own F M H' := e ▸ o.lose hp
theorem Own.get (o : Own F M H) (i : Nat) (h : M[i]? = some (p, x) := by rfl) : H p = some x := o.mu (p, x) (List.mem_of_getElem? h)
theorem Own.apart (o : Own F M H) (i : Nat) (h : M[i]? = some (p, x) := by rfl) : F p = none := o.ap (p, x) (List.mem_of_getElem? h)
theorem mem_set {c d : Addr × HO} : ∀ {M : Cells} {i : Nat}, d ∈ M.set i c → d = c ∨ d ∈ M
  | [], _, h => by cases h
  | a :: r, 0, h => by
    rcases List.mem_cons.mp h with h | h
    · exact .inl h
    · exact .inr (List.mem_cons_of_mem _ h)
  | a :: r, i + 1, h => by
    rcases List.mem_cons.mp h with h | h
    · exact .inr (h ▸ List.mem_cons_self)
    · rcases mem_set (M := r) (i := i) h with h | h
      · exact .inl h
      · exact .inr (List.mem_cons_of_mem _ h)
theorem set_fst : ∀ {M : Cells} {i : Nat} {p : Addr} {x y : HO}, M[i]? = some (p, x) → (M.set i (p, y)).map Prod.fst = M.map Prod.fst
  | [], _, _, _, _, h => by cases h
  | a :: r, 0, p, x, y, h => by
    have e : a = (p, x) := Option.some.inj h
    subst e
    rfl
  | a :: r, i + 1, p, x, y, h => by
    show a.1 :: (r.set i (p, y)).map Prod.fst = a.1 :: r.map Prod.fst
    rw [set_fst (M := r) (i := i) (x := x) h]
theorem Own.set (o : Own F M H) (i : Nat) (h : M[i]? = some (p, x) := by rfl) : Own F (M.set i (p, y)) (upd H p y) where
  fr := fun b u e => by
    rw [upd_ne (ne_of_none e (o.apart i h))]
    exact o.fr b u e
  mu := fun c hc => by
    by_cases hp : c.1 = p
    · obtain ⟨a, b⟩ := c
      have hp : a = p := hp
      subst hp
      have nd := o.nd
      rw [← set_fst (y := y) h] at nd
      have h1 : (M.set i (a, y))[i]? = some (a, y) := by
        rw [List.getElem?_set_self (List.getElem?_eq_some_iff.mp h).1]
      obtain ⟨j, hj⟩ := List.getElem?_of_mem hc
      have n1 : ((M.set i (a, y)).map Prod.fst)[i]? = some a := by rw [List.getElem?_map, h1]; rfl
      have n2 : ((M.set i (a, y)).map Prod.fst)[j]? = some a := by rw [List.getElem?_map, hj]; rfl
      have e := nd_ix nd n1 n2
      subst e
      rw [h1] at hj
      cases hj
      exact upd_same
    · rw [upd_ne hp]
      rcases mem_set hc with e | hm
      · rw [e] at hp
        exact absurd rfl hp
      · exact o.mu c hm
  ap := fun c hc => by
    rcases mem_set hc with e | hm
    · rw [e]
      exact o.apart i h
    · exact o.ap c hm
  nd := by
    rw [set_fst h]
    exact o.nd
theorem Own.set' (o : Own F M H) (i : Nat) (e : upd H p y = H') (h : M[i]? = some (p, x) := by rfl) : Own F (M.set i (p, y)) H' := e ▸ o.set i h
/-- a cell is kept as it is from now on -/
theorem Own.fz (o : Own F M H) (i : Nat) (h : M[i]? = some (p, x) := by rfl) : Own (upd F p x) (M.eraseIdx i) H where
  fr := fun b u e => by
    by_cases hb : b = p
    · subst hb
      rw [upd_same] at e
      cases e
      exact o.get i h
    · rw [upd_ne hb] at e
      exact o.fr b u e
  mu := fun c hc => o.mu c (List.mem_of_mem_eraseIdx hc)
  ap := fun c hc => by
    have hm := List.mem_of_mem_eraseIdx hc
    have ne : c.1 ≠ p := fun e => by
      have h1 : (M.map Prod.fst)[i]? = some p := by rw [List.getElem?_map, h]; rfl
      obtain ⟨j, hj, hn⟩ : ∃ j, M[j]? = some c ∧ j ≠ i := by
        obtain ⟨j, hj⟩ := List.getElem?_of_mem hc
        rw [List.getElem?_eraseIdx] at hj
        split at hj
        · exact ⟨j, hj, by omega⟩
        · exact ⟨j + 1, hj, by omega⟩
      have h2 : (M.map Prod.fst)[j]? = some p := by rw [List.getElem?_map, hj, ← e]; rfl
      exact hn (nd_ix o.nd h2 h1)
    rw [upd_ne ne]
    exact o.ap c hm
  nd := o.nd.sublist ((List.eraseIdx_sublist M i).map _)
theorem Own.tail {c : Addr × HO} (o : Own F (c :: M) H) : Own F M H := ⟨o.fr, fun c hc => o.mu c (List.mem_cons_of_mem _ hc), fun c hc => o.ap c (List.mem_cons_of_mem _ hc), (List.nodup_cons.mp o.nd).2⟩
theorem Own.sub (o : Own F M H) (s : A.Sublist M) : Own F A H := ⟨o.fr, fun c hc => o.mu c (s.subset hc), fun c hc => o.ap c (s.subset hc), o.nd.sublist (s.map _)⟩
theorem Own.perm (o : Own F M H) (s : M.Perm A) : Own F A H := ⟨o.fr, fun c hc => o.mu c (s.symm.subset hc), fun c hc => o.ap c (s.symm.subset hc), (s.map _).nodup_iff.mp o.nd⟩
theorem Own.less (o : Own F M H) (s : Same F0 F) : Own F0 M H := ⟨s.trans o.fr, o.mu, fun c hc => s.free (o.ap c hc), o.nd⟩
end
/-! ### a def by its module name, its promise by positional values -/
def Ok1 (P : Program) (w : World) (K : PySem.W.Frag) (mg : Str → Option Value) (base : Heap) (x : Str) (k : Nat) (sp : Sp) : Prop :=
  ∃ f, mg x = some (.ref f) ∧ PySem.W.keepIn K (.ref f) = true ∧ FnR P w K mg base CX0 k f sp
def tOwn (sp : Sp) (t : TA) : TE := fun σ H Q => t σ H fun vs H1 => sp vs H1 Q E0
theorem pe_own {X : Cx} {k : Nat} {sp : Sp} {x : Str} {p pos : Pos} {e : Expr} {es : List Expr} {t : TA} (G : Ok1 X.prog X.w X.K X.mg X.base x k sp) (hr : Room k X.A) (hg : Gl X x)
    (ha : PA X (e :: es) t) (hdb : (x == ("__debug__" : Str)) = false := by decide) (he : starEach (e :: es) X.env = (false, eval e X.env) :: starEach es X.env := by rfl) (hpl : (backTo pos (starEach es X.env)).any (·.1) = false := by rfl) :
    PE X (.Call (.Name x p) (e :: es) [] pos) (tOwn sp t) := by
  obtain ⟨f, hm, hk, F⟩ := G
  refine ⟨fun pins s σ H Q I h => ?_⟩
  refine wpAny_Call_Name_kw (ld_glob I hg hm ?_ hdb)
  refine PySem.W.callWith_K (h₀ := X.base) I.ok.mod.kin hk (thn (ha.run pos pins s σ H _ I h) fun us s1 ⟨vs, H1, I1, r, q⟩ => ⟨I1.kIn, ?_⟩) he hpl
  exact wpAny_call (run_fnR F hr pass0 I1 r q)
theorem pe_own0 {X : Cx} {k : Nat} {sp : Sp} {x : Str} {p pos : Pos} (G : Ok1 X.prog X.w X.K X.mg X.base x k sp) (hr : Room k X.A) (hg : Gl X x) (hdb : (x == ("__debug__" : Str)) = false := by decide) :
    PE X (.Call (.Name x p) [] [] pos) (tOwn sp tNil) := by
  obtain ⟨f, hm, hk, F⟩ := G
  refine ⟨fun pins s σ H Q I h => ?_⟩
  refine wpAny_Call_Name_kw (ld_glob I hg hm ?_ hdb)
  exact PySem.W.callWith_K0 I.kIn hk (wpAny_call (run_fnR (us := []) F hr pass0 I .nil h))
/-- a def without defaults, by its body -/
theorem ok1_of {P : Program} {w : World} {K : PySem.W.Frag} {mg : Str → Option Value} {base : Heap} {x qual : Str} {params : Arguments} {body : List Stmt} {scope : Scope} {kws : List (Str × V)} {f : Addr} {fd : FuncData} {N ps : List Str} {k : Nat} {sp : Sp}
    (F : FunD K x qual params body scope [] kws f fd) (hm : mg x = some (.ref f)) (S : FnScope N ps scope) (len : ∀ vs H Q E, sp vs H Q E → vs.length = ps.length)
    (hb : ∀ (kV doc pm : Value) (an : Option Addr) (cdv ct : Value) (us : List Value), us.length = ps.length → bindArgs (PySem.W.fnOf x qual params body scope .none kV doc pm an cdv ct) ⟨us, []⟩ = pure (ps.zip us))
    (hbody : ∀ (cdv : Value) (A : Around) (outer : List Env) (s : Shared) (H : Hp) (vs : List V) (Q : VK) (E : XK), Room k (A.deeper (envOfC qual scope s.heap.objs.size f cdv)) → sp vs H Q E →
      ∃ t, PSs (cxOf CX0 P w K mg base N qual scope f cdv A outer s H E).nox body t ∧ t { nx := fun _ H' => Q .non H', rt := Q } (start N vs) H) : Ok1 P w K mg base x (k + 1) sp := by
  refine ⟨f, hm, F.kp, ?_⟩
  have G := F.ok (P := P) (w := w) (mg := mg) (base := base) (CX := CX0) S len fun cdv A outer s H vs Q E hr hsp => by
    obtain ⟨t, h, q⟩ := hbody cdv A outer s H vs Q E hr hsp
    exact ⟨t, h.nox, q⟩
  exact (G.raw (F.bindsN hb) .nil).imp fun vs H Q E h => by
    rw [List.append_nil]
    exact h
/-! ### promises by the number of their arguments -/
def sp0 (C : Hp → VK → Prop) : Sp := fun vs H Q _ => vs = [] ∧ C H Q
def sp1 (C : V → Hp → VK → Prop) : Sp := fun vs H Q _ => ∃ a, vs = [a] ∧ C a H Q
def sp2 (C : V → V → Hp → VK → Prop) : Sp := fun vs H Q _ => ∃ a b, vs = [a, b] ∧ C a b H Q
def sp3 (C : V → V → V → Hp → VK → Prop) : Sp := fun vs H Q _ => ∃ a b c, vs = [a, b, c] ∧ C a b c H Q
def sp4 (C : V → V → V → V → Hp → VK → Prop) : Sp := fun vs H Q _ => ∃ a b c d, vs = [a, b, c, d] ∧ C a b c d H Q
def sp5 (C : V → V → V → V → V → Hp → VK → Prop) : Sp := fun vs H Q _ => ∃ a b c d e, vs = [a, b, c, d, e] ∧ C a b c d e H Q
def sp6 (C : V → V → V → V → V → V → Hp → VK → Prop) : Sp := fun vs H Q _ => ∃ a b c d e f, vs = [a, b, c, d, e, f] ∧ C a b c d e f H Q
section
variable {vs : List V} {H : Hp} {Q : VK} {E : XK}
theorem sp0_len {C} (h : sp0 C vs H Q E) : vs.length = 0 := by
  obtain ⟨rfl, _⟩ := h
  rfl
theorem sp1_len {C} (h : sp1 C vs H Q E) : vs.length = 1 := by
  obtain ⟨_, rfl, _⟩ := h
  rfl
theorem sp2_len {C} (h : sp2 C vs H Q E) : vs.length = 2 := by
  obtain ⟨_, _, rfl, _⟩ := h
  rfl
theorem sp3_len {C} (h : sp3 C vs H Q E) : vs.length = 3 := by
  obtain ⟨_, _, _, rfl, _⟩ := h
  rfl
theorem sp4_len {C} (h : sp4 C vs H Q E) : vs.length = 4 := by
  obtain ⟨_, _, _, _, rfl, _⟩ := h
  rfl
theorem sp5_len {C} (h : sp5 C vs H Q E) : vs.length = 5 := by
  obtain ⟨_, _, _, _, _, rfl, _⟩ := h
  rfl
theorem sp6_len {C} (h : sp6 C vs H Q E) : vs.length = 6 := by
  obtain ⟨_, _, _, _, _, _, rfl, _⟩ := h
  rfl
end
/-! ### the source of draws -/
def iL (l : List Int) : List V := l.map V.int
/-- the cells of a source at a -/
def Src (a : Addr) (S : Cells) : Prop := ∃ (ag al : Addr) (g l : List Int) (c t : Int), S = [(a, .lst [.ref ag, .ref al, .int c, .int t]), (ag, .lst (iL g)), (al, .lst (iL l))]
def spSource (K : PySem.W.Frag) : Sp := sp1 fun v H Q => ∃ (a : Addr) (ns : List Int) (F : Hp) (M : Cells), v = .ref a ∧ SqL K F a (iL ns) ∧ ns.length ≤ 63 ∧ Own F M H ∧
  ∀ b S H', Src b S → Own F (S ++ M) H' → Q (.ref b) H'
/-- some number below the limit -/
def spDraw : Sp := sp2 fun v n H Q => ∃ (a : Addr) (m : Int) (F : Hp) (S M : Cells), v = .ref a ∧ n = .int m ∧ 0 < m ∧ m < 2 ^ 120 ∧ Src a S ∧ Own F (S ++ M) H ∧
  ∀ (r : Int) S' H', 0 ≤ r → r < m → Src a S' → Own F (S' ++ M) H' → Q (.int r) H'
/-! ### data -/
theorem Same.tup {K : PySem.W.Frag} {H H' : Hp} {a : Addr} {xs : List V} (e : Same H H') (h : SqT K H a xs) : SqT K H' a xs := by
  rcases h with (h | ⟨o, h⟩) | h
  · exact .inl (.inl (e _ _ h))
  · exact .inl (.inr ⟨o, e _ _ h⟩)
  · exact .inr h
mutual
theorem dp_mono {K : PySem.W.Frag} {H H' : Hp} (s : Same H H') : ∀ {v : V} {d : PyData}, Dp K H v d → Dp K H' v d
  | _, _, .non => .non
  | _, _, .bl b => .bl b
  | _, _, .int i => .int i
  | _, _, .str x => .str x
  | _, _, .lst h a => .lst (s.seq h) (dpAll_mono s a)
  | _, _, .tup h a => .tup (Same.tup s h) (dpAll_mono s a)
theorem dpAll_mono {K : PySem.W.Frag} {H H' : Hp} (s : Same H H') : ∀ {v : List V} {d : List PyData}, DpAll K H v d → DpAll K H' v d
  | _, _, .nil => .nil
  | _, _, .cons h t => .cons (dp_mono s h) (dpAll_mono s t)
end
theorem dpAll_iL {K : PySem.W.Frag} {H : Hp} : ∀ (l : List Int), DpAll K H (l.map V.int) (l.map PyData.int)
  | [] => .nil
  | n :: r => .cons (.int n) (dpAll_iL r)
theorem dpAll_strs {K : PySem.W.Frag} {H : Hp} : ∀ (l : List Str), DpAll K H (l.map V.str) (l.map PyData.str)
  | [] => .nil
  | n :: r => .cons (.str n) (dpAll_strs r)
end Ed

/-! ## Ed: readings, step by step -/
namespace Ed
open PySem PySem.Spec PyProof.Rows L2
/-! ### a statement, then the rest, with a word between them -/
def tCut (t u : TS) : TS := fun D σ H => ∃ Mid : L2.St → Hp → Prop, t { D with nx := Mid } σ H ∧ ∀ σ' H', Mid σ' H' → u D σ' H'
theorem pss_cut {X : Cx} {st : Stmt} {rest : List Stmt} {t u : TS} (h1 : PS X st t) (h2 : PSs X rest u) : PSs X (st :: rest) (tCut t u) := by
  refine ⟨fun pins s σ H D I h => ?_⟩
  obtain ⟨Mid, hm, hu⟩ := h
  refine wpAny_execs_cons (thn (h1.run pins s σ H { D with nx := Mid } I hm) fun f s1 q => ?_)
  cases f with
  | next =>
    obtain ⟨σ', H', I', q⟩ := q
    exact h2.run pins s1 σ' H' D I' (hu σ' H' q)
  | ret v => exact q
  | brk => exact q
  | cont => exact q
theorem r_cut {t u : TS} {D : Ends} {σ : L2.St} {H : Hp} (Mid : L2.St → Hp → Prop) (h : t { D with nx := Mid } σ H) (k : ∀ σ' H', Mid σ' H' → u D σ' H') : tCut t u D σ H := ⟨Mid, h, k⟩
/-! ### named readings of built-ins -/
def rInt1 : List V → Hp → VK → Prop := fun xs H Q => (∃ i, xs = [.int i] ∧ Q (.int i) H) ∨ ∃ k, xs = [.bl k] ∧ Q (.int (if k then 1 else 0)) H
def rLenQ (K : PySem.W.Frag) : List V → Hp → VK → Prop := fun xs H Q => ∃ p ys, xs = [.ref p] ∧ (SqL K H p ys ∨ SqT K H p ys) ∧ Q (.int ys.length) H
def rLenS : List V → Hp → VK → Prop := fun xs H Q => ∃ a : Str, xs = [.str a] ∧ a.length ≤ sizeLine ∧ Q (.int a.length) H
def rListOf (K : PySem.W.Frag) : List V → Hp → VK → Prop := fun xs H Q => ∃ p ys, xs = [.ref p] ∧ (SqL K H p ys ∨ SqT K H p ys) ∧ ∀ l, H l = none → Q (.ref l) (upd H l (.lst ys))
def rTupleOf (K : PySem.W.Frag) : List V → Hp → VK → Prop := fun xs H Q => ∃ p ys, xs = [.ref p] ∧ ((SqL K H p ys ∧ ∀ l, H l = none → Q (.ref l) (upd H l (.tup ys))) ∨ (SqT K H p ys ∧ Q (.ref p) H))
def rMin2 : List V → Hp → VK → Prop := fun xs H Q => ∃ i j, xs = [.int i, .int j] ∧ Q (.int (if j < i then j else i)) H
def rMax2 : List V → Hp → VK → Prop := fun xs H Q => ∃ i j, xs = [.int i, .int j] ∧ Q (.int (if j > i then j else i)) H
section
variable {X : Cx}
theorem c_int1 : CallR X (.type "int") rInt1 := call_int1
theorem c_len : CallR X (.builtin "len") (rLenQ X.K) := call_len_seq
theorem c_listOf : CallR X (.type "list") (rListOf X.K) := call_list_of
theorem c_tupleOf : CallR X (.type "tuple") (rTupleOf X.K) := call_tuple_of
theorem c_min2 (hc : X.calm = true) : CallR X (.builtin "min") rMin2 := call_min2 hc
theorem c_max2 (hc : X.calm = true) : CallR X (.builtin "max") rMax2 := call_max2 hc
end
theorem sz0 {xs : List V} (h : xs.length.ble 1000 = true := by rfl) : xs.length ≤ sizeLine := Nat.le_of_lt (small1000 (Nat.le_of_ble_eq_true h))
theorem sz1 {n : Nat} (h : n ≤ 1000) : n ≤ sizeLine := Nat.le_of_lt (small1000 h)
/-! ### rules that name the written part K -/
def tTruth (K : PySem.W.Frag) (ta : TE) : TT := fun σ H Q => ta σ H fun x H' => ∃ k, TruV K x H' k ∧ Q k H'
section
variable {X : Cx} {e a tg l : Expr} {ta tl : TE} {f : Str} {pos : Pos}
theorem kFld (K : PySem.W.Frag) (he : PE X e ta) (hb : attributeBase e f X.env (eval e X.env) = eval e X.env := by rfl) (hK : X.K = K := by rfl) : PE X (.Attribute e f pos) (tFld K ta f) := by
  subst hK
  exact pe_fld he hb
theorem kIxL (K : PySem.W.Frag) (hK : X.K = K := by rfl) : IxR X (rIxL K) := by
  subst hK
  exact ix_list
theorem kIxT (K : PySem.W.Frag) (hK : X.K = K := by rfl) : IxR X (rIxT K) := by
  subst hK
  exact ix_tup
theorem kSlL (K : PySem.W.Frag) (hK : X.K = K := by rfl) : SlR X (rSlL K) := by
  subst hK
  exact sl_list
theorem kSlT (K : PySem.W.Frag) (hK : X.K = K := by rfl) : SlR X (rSlT K) := by
  subst hK
  exact sl_tup
theorem kIn (K : PySem.W.Frag) (hK : X.K = K := by rfl) : OpR X (compareOp .In) (rIn K false) := by
  subst hK
  exact op_in_seq
theorem kNotIn (K : PySem.W.Frag) (hK : X.K = K := by rfl) : OpR X (compareOp .NotIn) (rIn K true) := by
  subst hK
  exact op_notIn_seq
theorem kEqD (K : PySem.W.Frag) (hu : X.A.units + 64 < cLine) (hK : X.K = K := by rfl) : OpR X (compareOp .Eq) (rEqD K) := by
  subst hK
  exact op_eqD hu
theorem kNeD (K : PySem.W.Frag) (hu : X.A.units + 64 < cLine) (hK : X.K = K := by rfl) : OpR X (compareOp .NotEq) (rNeD K) := by
  subst hK
  exact op_neD hu
theorem kPiL (K : PySem.W.Frag) (hl : PE X l tl) (hK : X.K = K := by rfl) : PI X tg l (iList K tl) := by
  subst hK
  exact pi_list hl
theorem kPiT (K : PySem.W.Frag) (hl : PE X l tl) (hK : X.K = K := by rfl) : PI X tg l (iTup K tl) := by
  subst hK
  exact pi_tup hl
theorem kLen (K : PySem.W.Frag) (hK : X.K = K := by rfl) : CallR X (.builtin "len") (rLenQ K) := by
  subst hK
  exact c_len
theorem kListOf (K : PySem.W.Frag) (hK : X.K = K := by rfl) : CallR X (.type "list") (rListOf K) := by
  subst hK
  exact c_listOf
theorem kTupleOf (K : PySem.W.Frag) (hK : X.K = K := by rfl) : CallR X (.type "tuple") (rTupleOf K) := by
  subst hK
  exact c_tupleOf
theorem kIsi (K : PySem.W.Frag) (hK : X.K = K := by rfl) : CallR X (.builtin "isinstance") (rIsi K) := by
  subst hK
  exact call_isi
theorem kIdx (K : PySem.W.Frag) (hK : X.K = K := by rfl) : MtR X "list.index" (rIndex K) := by
  subst hK
  exact mt_index
theorem kTruth (K : PySem.W.Frag) (ha : PE X a ta) (he : ∀ whole, isTrue a X.env whole = (do let v ← whole; standAt a.pos; holding [v] (truthy v)) := by intro _; rfl) (hK : X.K = K := by rfl) : PT X a (tTruth K ta) := by
  subst hK
  exact pt_truth ha he
end
/-- a new tuple, a new list of xs -/
def NewT (xs : List V) (H : Hp) (Q : VK) : Prop := xs.length ≤ sizeLine ∧ ∀ p, H p = none → Q (.ref p) (upd H p (.tup xs))
def NewL (xs : List V) (H : Hp) (Q : VK) : Prop := xs.length ≤ sizeLine ∧ ∀ p, H p = none → Q (.ref p) (upd H p (.lst xs))
section
variable {K : PySem.W.Frag} {σ : L2.St} {H : Hp} {Q : VK} {D : Ends} {t u : TS} {te ta tb tc : TE} {tt tu : TT} {tr : TA} {g : TG} {i : Nat} {v x y : V} {r r' : R2} {F : Hp} {M : Cells} {p q l : Addr} {xs ys vs : List V} {n m : Int} {b : Bool}
  {QA : List V → Hp → Prop} {QB : Bool → Hp → Prop} {QS : L2.St → Hp → Prop}
theorem r_seq (h : t { D with nx := u D } σ H) : tSeq t u D σ H := h
theorem r_next (h : D.nx σ H) : tNext D σ H := h
theorem r_asg (h : te σ H fun x H1 => g x σ H1 D.nx) : tAsg te g D σ H := h
theorem r_drop (h : te σ H fun _ H1 => D.nx σ H1) : tDrop te D σ H := h
theorem r_ret (h : te σ H D.rt) : tRet te D σ H := h
theorem r_retN (h : D.rt .non H) : tRetN D σ H := h
theorem r_brk (h : D.bk σ H) : tBreak D σ H := h
theorem r_cont (h : D.ct σ H) : tCont D σ H := h
theorem r_if (h : tt σ H fun b H1 => if b = true then t D σ H1 else u D σ H1) : tIfS tt t u D σ H := h
theorem r_ifE (h : tt σ H fun b H1 => if b = true then ta σ H1 Q else tb σ H1 Q) : tIf tt ta tb σ H Q := h
theorem r_name (h : QS (σ.set i (some v)) H) : gName i v σ H QS := h
theorem r_sub {to ti : TE} {s : TSet} (h : to σ H fun o H1 => ti σ H1 fun i H2 => s o i v H2 fun H3 => QS σ H3) : gSub to ti s v σ H QS := h
theorem r_gtup {gs : TGs} {k : Nat} (h : SqT K H p xs) (hl : xs.length = k) (hq : gs xs σ H QS) : gTup K k gs (.ref p) σ H QS := ⟨p, xs, rfl, h, hl, hq⟩
theorem r_gcons {gs : TGs} (h : g v σ H fun σ' H' => gs xs σ' H' QS) : gCons g gs (v :: xs) σ H QS := ⟨v, xs, rfl, h⟩
theorem r_gnil (h : QS σ H) : gNil [] σ H QS := ⟨rfl, h⟩
theorem r_var (h : σ[i]? = some (some v)) (q : Q v H) : tVar i σ H Q := ⟨v, h, q⟩
theorem r_c (q : Q v H) : tC v σ H Q := q
theorem r_op (h : ta σ H fun x H1 => tb σ H1 fun y H2 => r x y H2 Q) : tOp r ta tb σ H Q := h
theorem r_un {r : V → Hp → VK → Prop} (h : ta σ H fun x H1 => r x H1 Q) : tUn r ta σ H Q := h
theorem r_I0 {g : Int → Int → V} (q : Q (g n m) H) : rI0 g (.int n) (.int m) H Q := ⟨n, m, rfl, rfl, q⟩
theorem r_I {C : Int → Int → Prop} {g : Int → Int → V} (c : C n m) (q : Q (g n m) H) : rI C g (.int n) (.int m) H Q := ⟨n, m, rfl, rfl, c, q⟩
theorem r_U {g : Int → V} (q : Q (g n) H) : rU g (.int n) H Q := ⟨n, rfl, q⟩
theorem r_eq (h : scal x y = true) (q : Q (.bl (decide (x = y))) H) : rEq x y H Q := ⟨h, q⟩
theorem r_ne (h : scal x y = true) (q : Q (.bl (!decide (x = y))) H) : rNe x y H Q := ⟨h, q⟩
theorem r_test (h : te σ H fun x H' => ∃ k, x = .bl k ∧ QB k H') : tTest te σ H QB := h
theorem r_B (h : te σ H fun x H' => ∃ k, x = .bl k ∧ QB k H') : tB te σ H QB := h
theorem r_isbl (q : QB b H) : ∃ k, V.bl b = .bl k ∧ QB k H := ⟨b, rfl, q⟩
theorem r_and (h : tt σ H fun c H1 => if c = true then tu σ H1 QB else QB false H1) : tAnd tt tu σ H QB := h
theorem r_or (h : tt σ H fun c H1 => if c = true then QB true H1 else tu σ H1 QB) : tOr tt tu σ H QB := h
theorem r_yes (q : QB true H) : tYes σ H QB := q
theorem r_not (h : tt σ H fun c H1 => QB (!c) H1) : tNot tt σ H QB := h
theorem r_andV (h : ta σ H fun x H1 => ∃ c, x = .bl c ∧ if c = true then tb σ H1 Q else Q (.bl false) H1) : tAndV ta tb σ H Q := h
theorem r_orV (h : ta σ H fun x H1 => ∃ c, x = .bl c ∧ if c = true then Q (.bl true) H1 else tb σ H1 Q) : tOrV ta tb σ H Q := h
theorem r_notV (h : ta σ H fun x H1 => ∃ c, x = .bl c ∧ Q (.bl (!c)) H1) : tNotV ta σ H Q := h
theorem r_chain (h : ta σ H fun x H1 => tb σ H1 fun y H2 => r x y H2 fun z H3 => ∃ k, z = .bl k ∧ (if k = true then tc σ H3 fun w' H4 => r' y w' H4 Q else Q (.bl false) H3)) : tChain r r' ta tb tc σ H Q := h
theorem r_nil (q : QA [] H) : tNil σ H QA := q
theorem r_cons (h : ta σ H fun x H1 => tr σ H1 fun xs H2 => QA (x :: xs) H2) : tCons ta tr σ H QA := h
theorem r_cb {r : List V → Hp → VK → Prop} (h : tr σ H fun vs H1 => r vs H1 Q) : tCB r tr σ H Q := h
theorem r_own {sp : Sp} (h : tr σ H fun vs H1 => sp vs H1 Q E0) : tOwn sp tr σ H Q := h
theorem r_int (q : Q (.int n) H) : rInt1 [.int n] H Q := .inl ⟨n, rfl, q⟩
theorem r_intB (q : Q (.int (if b then 1 else 0)) H) : rInt1 [.bl b] H Q := .inr ⟨b, rfl, q⟩
theorem r_len (h : SqL K H p xs) (q : Q (.int xs.length) H) : rLenQ K [.ref p] H Q := ⟨p, xs, rfl, .inl h, q⟩
theorem r_lenT (h : SqT K H p xs) (q : Q (.int xs.length) H) : rLenQ K [.ref p] H Q := ⟨p, xs, rfl, .inr h, q⟩
theorem r_min2 (q : Q (.int (if m < n then m else n)) H) : rMin2 [.int n, .int m] H Q := ⟨n, m, rfl, q⟩
theorem r_ixL (h : SqL K H p xs) (ha : atI xs n = some v) (q : Q v H) : rIxL K (.ref p) (.int n) H Q := ⟨p, xs, n, v, rfl, rfl, h, ha, q⟩
theorem r_ixT (h : SqT K H p xs) (ha : atI xs n = some v) (q : Q v H) : rIxT K (.ref p) (.int n) H Q := ⟨p, xs, n, v, rfl, rfl, h, ha, q⟩
theorem r_fld {C dx : Addr} {f : Str} {fs : List (Str × V)} (h : H p = some (.ins C dx fs)) (hc : Cls K C) (hn : NoAttr K C f) (hl : fs.lookup f = some v) (q : Q v H) : (fun x H1 => ∃ a C dx fs v, x = .ref a ∧ H1 a = some (.ins C dx fs) ∧ Cls K C ∧ NoAttr K C f ∧ fs.lookup f = some v ∧ Q v H1) (V.ref p) H := ⟨p, C, dx, fs, v, rfl, h, hc, hn, hl, q⟩
theorem r_tfld {f : Str} (h : ta σ H fun x H1 => (fun x H1 => ∃ a C dx fs v, x = .ref a ∧ H1 a = some (.ins C dx fs) ∧ Cls K C ∧ NoAttr K C f ∧ fs.lookup f = some v ∧ Q v H1) x H1) : tFld K ta f σ H Q := h
/-! allocations -/
theorem r_tup (h : tr σ H fun xs H1 => NewT xs H1 Q) : tTup tr σ H Q := h
theorem r_lst (h : tr σ H fun xs H1 => NewL xs H1 Q) : tLst tr σ H Q := h
theorem newT (o : Own F M H) (k : ∀ p H', F p = none → Own (upd F p (.tup xs)) M H' → Q (.ref p) H') (hl : xs.length ≤ sizeLine := by exact sz0) : NewT xs H Q := ⟨hl, fun p hp => k p _ (o.free hp) (o.newF hp)⟩
theorem newL (o : Own F M H) (k : ∀ p H', F p = none → Own F ((p, .lst xs) :: M) H' → Q (.ref p) H') (hl : xs.length ≤ sizeLine := by exact sz0) : NewL xs H Q := ⟨hl, fun p hp => k p _ (o.free hp) (o.newM hp)⟩
/-- a list that is kept as it is -/
theorem newLF (o : Own F M H) (k : ∀ p H', F p = none → Own (upd F p (.lst xs)) M H' → Q (.ref p) H') (hl : xs.length ≤ sizeLine := by exact sz0) : NewL xs H Q := ⟨hl, fun p hp => k p _ (o.free hp) (o.newF hp)⟩
theorem r_listOf (o : Own F M H) (h : SqL K H p xs ∨ SqT K H p xs) (k : ∀ l H', F l = none → Own F ((l, .lst xs) :: M) H' → Q (.ref l) H') : rListOf K [.ref p] H Q := ⟨p, xs, rfl, h, fun l hl => k l _ (o.free hl) (o.newM hl)⟩
theorem r_tupleOf (o : Own F M H) (h : SqL K H p xs) (k : ∀ l H', F l = none → Own (upd F l (.tup xs)) M H' → Q (.ref l) H') : rTupleOf K [.ref p] H Q := ⟨p, xs, rfl, .inl ⟨h, fun l hl => k l _ (o.free hl) (o.newF hl)⟩⟩
theorem r_slL {lo hi : Option Int} (o : Own F M H) (h : SqL K H p xs) (k : ∀ l H', F l = none → Own F ((l, .lst (cutV xs lo hi)) :: M) H' → Q (.ref l) H') : rSlL K (.ref p) lo hi H Q := ⟨p, xs, rfl, h, fun l hl => k l _ (o.free hl) (o.newM hl)⟩
theorem r_sl {r : V → Option Int → Option Int → Hp → VK → Prop} {tl th : TO} (h : te σ H fun x H1 => tl σ H1 fun l H2 => th σ H2 fun u H3 => r x l u H3 Q) : tSl r te tl th σ H Q := h
theorem r_nopart {Qo : Option Int → Hp → Prop} (q : Qo none H) : tNoPart σ H Qo := q
theorem r_part {Qo : Option Int → Hp → Prop} (h : te σ H fun x H1 => ∃ i, x = .int i ∧ Qo (some i) H1) : tPart te σ H Qo := h
theorem r_isint {Qo : Option Int → Hp → Prop} (q : Qo (some n) H) : ∃ i, V.int n = .int i ∧ Qo (some i) H := ⟨n, rfl, q⟩
theorem r_cat (o : Own F M H) (h1 : H p = some (.lst xs)) (h2 : H q = some (.lst ys)) (hl : xs.length + ys.length ≤ sizeLine) (k : ∀ l H', F l = none → Own F ((l, .lst (xs ++ ys)) :: M) H' → Q (.ref l) H') : rCat (.ref p) (.ref q) H Q :=
  ⟨p, q, xs, ys, rfl, rfl, h1, h2, hl, fun l hl => k l _ (o.free hl) (o.newM hl)⟩
/-! stores -/
theorem r_bm {T : String} {r : V → List V → Hp → VK → Prop} (h : ta σ H fun x H1 => tyV K T x H1 ∧ tr σ H1 fun xs H2 => r x xs H2 Q) : tBM K T r ta tr σ H Q := h
theorem r_bm0 {T : String} {r : V → List V → Hp → VK → Prop} (h : ta σ H fun x H1 => tyV K T x H1 ∧ r x [] H1 Q) : tBM0 K T r ta σ H Q := h
theorem r_tyL {R : Prop} (h : SqL K H p xs) (k : R) : tyV K "list" (.ref p) H ∧ R := ⟨.inl ⟨rfl, xs, h⟩, k⟩
theorem r_append (o : Own F M H) (i : Nat) (h : M[i]? = some (l, .lst xs)) (hl : xs.length < sizeLine) (k : ∀ H', Own F (M.set i (l, .lst (xs ++ [y]))) H' → Q .non H') : rAppend (.ref l) [y] H Q := ⟨l, xs, y, rfl, rfl, o.get i h, hl, k _ (o.set i h)⟩
theorem r_popAt (o : Own F M H) (i : Nat) (h : M[i]? = some (l, .lst xs)) {j : Nat} (h1 : -(2 ^ 63) ≤ n) (h2 : n < 2 ^ 63) (hj : seqIndex? n xs.length = some j) (hy : xs[j]? = some y) (k : ∀ H', Own F (M.set i (l, .lst (xs.eraseIdx j))) H' → Q y H') : rPopAt (.ref l) [.int n] H Q :=
  ⟨l, xs, n, j, y, rfl, rfl, o.get i h, h1, h2, hj, hy, k _ (o.set i h)⟩
theorem r_setL (o : Own F M H) (i : Nat) (h : M[i]? = some (l, .lst xs)) {j : Nat} (hj : ixN xs.length n = some j) {R : Hp → Prop} (k : ∀ H', Own F (M.set i (l, .lst (xs.set j v))) H' → R H') : rSetL (.ref l) (.int n) v H R :=
  ⟨l, xs, n, j, rfl, rfl, o.get i h, hj, k _ (o.set i h)⟩
theorem r_neD {d e : PyData} (h1 : Dp K H x d) (h2 : Dp K H y e) (s1 : SeqAt.shaped d = true) (s2 : SeqAt.shaped e = true) (q : Q (.bl (!PyData.eqv d e)) H) : rNeD K x y H Q := ⟨d, e, h1, h2, s1, s2, q⟩
theorem r_eqD {d e : PyData} (h1 : Dp K H x d) (h2 : Dp K H y e) (s1 : SeqAt.shaped d = true) (s2 : SeqAt.shaped e = true) (q : Q (.bl (PyData.eqv d e)) H) : rEqD K x y H Q := ⟨d, e, h1, h2, s1, s2, q⟩
end
/-! ### loops -/
def ForB (J : It) (g : TG) (tb : TS) (D : Ends) (σ : L2.St) (H1 : Hp) : Prop := ∃ W : Nat → Nat → L2.St → Hp → Prop, (∃ m, W 0 m σ H1) ∧ ∀ i m σ H, W i m σ H →
  (J.stop i H ∧ D.nx σ H) ∨ (J.go i H ∧ ∃ N : L2.St → Hp → Prop, (∀ σ' H', N σ' H' → ∃ m', m' < m ∧ W (i + 1) m' σ' H') ∧ ∀ x H', J.yld i H x H' → g x σ H' fun σ2 H2 => tb { D with nx := N, ct := N, bk := D.nx } σ2 H2)
def LcB (J : It) (g : TG) (tt : TT) (te : TE) (vs : List Nat) (σ : L2.St) (Q : VK) (H1 : Hp) : Prop := ∀ D, H1 D = none → ∃ W : Nat → Nat → Hp → Prop, (∃ m, W 0 m (upd H1 D (.lst []))) ∧ ∀ i m H, W i m H →
  (J.stop i H ∧ Q (.ref D) H) ∨ (J.go i H ∧ ∃ Nx : Hp → Prop, (∀ H', Nx H' → ∃ m', m' < m ∧ W (i + 1) m' H') ∧ ∀ x H', J.yld i H x H' → g x (wipe σ vs) H' fun σ2 H2 => wipe σ2 vs = wipe σ vs ∧ tt σ2 H2 fun b H3 =>
    if b = true then te σ2 H3 fun y H4 => ∃ acc, H4 D = some (.lst acc) ∧ acc.length < sizeLine ∧ Nx (upd H4 D (.lst (acc ++ [y]))) else Nx H3)
section
variable {K : PySem.W.Frag} {σ : L2.St} {H : Hp} {Q : VK} {D : Ends} {tb : TS} {te ta : TE} {tt : TT} {tr : TA} {g : TG} {wi : TI} {vs : List Nat} {F : Hp} {M : Cells} {J : It} {n : Nat} {G : Hp → Prop} {Y : Nat → Hp → V → Hp → Prop}
theorem r_for (h : wi σ H fun J H1 => ForB J g tb D σ H1) : tFor wi g tb D σ H := h
theorem r_lc (h : wi σ H fun J H1 => LcB J g tt te vs σ Q H1) : tLc wi g tt te vs σ H Q := h
theorem r_iList {R : It → Hp → Prop} (h : te σ H fun x H1 => ∃ a, x = .ref a ∧ (∃ xs, SqL K H1 a xs) ∧ R (Itl K a) H1) : iList K te σ H R := h
theorem r_iTup {R : It → Hp → Prop} (h : te σ H fun x H1 => ∃ a, x = .ref a ∧ (∃ xs, SqT K H1 a xs) ∧ R (Itt K a) H1) : iTup K te σ H R := h
theorem r_iRng1 {R : It → Hp → Prop} (h : tr σ H fun vs H1 => ∃ j : Int, vs = [.int j] ∧ -(2 ^ 62) ≤ j ∧ j < 2 ^ 62 ∧ R (Itr 0 j.toNat) H1) : iRng1 tr σ H R := h
theorem r_iRng2 {R : It → Hp → Prop} (h : tr σ H fun vs H1 => ∃ i j : Int, vs = [.int i, .int j] ∧ (-(2 ^ 62) ≤ i ∧ i < 2 ^ 62 ∧ -(2 ^ 62) ≤ j ∧ j < 2 ^ 62) ∧ R (Itr i (j - i).toNat) H1) : iRng2 tr σ H R := h
theorem r_exL {R : Prop} {p : Addr} {xs : List V} (h : SqL K H p xs) (k : R) : (∃ xs, SqL K H p xs) ∧ R := ⟨⟨xs, h⟩, k⟩
theorem r_exT {R : Prop} {p : Addr} {xs : List V} (h : SqT K H p xs) (k : R) : (∃ xs, SqT K H p xs) ∧ R := ⟨⟨xs, h⟩, k⟩
theorem r_wipe {R : Prop} {σ2 : L2.St} (h : wipe σ2 vs = wipe σ vs) (k : R) : wipe σ2 vs = wipe σ vs ∧ R := ⟨h, k⟩
theorem r_bnd {R : Prop} {j : Int} (h1 : -(2 ^ 62) ≤ j) (h2 : j < 2 ^ 62) (k : R) : -(2 ^ 62) ≤ j ∧ j < 2 ^ 62 ∧ R := ⟨h1, h2, k⟩
theorem forb (w : Walk J n G Y) (Pv : Nat → L2.St → Hp → Prop) (h0 : Pv 0 σ H) (hG : ∀ i σ H, i ≤ n → Pv i σ H → G H)
    (hs : ∀ i x σ H H', i < n → Pv i σ H → Y i H x H' → g x σ H' fun σ2 H2 => tb { D with nx := Pv (i + 1), ct := Pv (i + 1), bk := D.nx } σ2 H2) (hd : ∀ σ H, Pv n σ H → D.nx σ H) : ForB J g tb D σ H := for_it w Pv h0 hG hs hd
theorem forb_range {lo : Int} (Pv : Nat → L2.St → Hp → Prop) (h0 : Pv 0 σ H)
    (hs : ∀ i σ H, i < n → Pv i σ H → g (.int (lo + i)) σ H fun σ2 H2 => tb { D with nx := Pv (i + 1), ct := Pv (i + 1), bk := D.nx } σ2 H2) (hd : ∀ σ H, Pv n σ H → D.nx σ H) : ForB (Itr lo n) g tb D σ H := for_range Pv h0 hs hd
theorem forb_list {a : Addr} {xs : List V} (Pv : Nat → L2.St → Hp → Prop) (h0 : Pv 0 σ H) (hl : ∀ i σ H, i ≤ xs.length → Pv i σ H → SqL K H a xs)
    (hs : ∀ i x σ H, xs[i]? = some x → Pv i σ H → g x σ H fun σ2 H2 => tb { D with nx := Pv (i + 1), ct := Pv (i + 1), bk := D.nx } σ2 H2) (hd : ∀ σ H, Pv xs.length σ H → D.nx σ H) : ForB (Itl K a) g tb D σ H := for_list Pv h0 hl hs hd
theorem forb_tup {a : Addr} {xs : List V} (Pv : Nat → L2.St → Hp → Prop) (h0 : Pv 0 σ H) (hl : ∀ i σ H, i ≤ xs.length → Pv i σ H → SqT K H a xs)
    (hs : ∀ i x σ H, xs[i]? = some x → Pv i σ H → g x σ H fun σ2 H2 => tb { D with nx := Pv (i + 1), ct := Pv (i + 1), bk := D.nx } σ2 H2) (hd : ∀ σ H, Pv xs.length σ H → D.nx σ H) : ForB (Itt K a) g tb D σ H := for_tup Pv h0 hl hs hd
/-- a comprehension's list grows at D; I: what holds of the items gone through, the list so far, what is kept and what is owned beside -/
abbrev LcI := Nat → List V → Hp → Cells → Prop
def LcN (I : LcI) (D : Addr) (i : Nat) (y : V) (H : Hp) : Prop := ∃ acc F M, acc.length < sizeLine ∧ I (i + 1) (acc ++ [y]) F M ∧ Own F ((D, .lst acc) :: M) H
def LcS (I : LcI) (D : Addr) (i : Nat) (H : Hp) : Prop := ∃ acc F M, I (i + 1) acc F M ∧ Own F ((D, .lst acc) :: M) H
theorem lcb (w : Walk J n G Y) (o : Own F M H) (I : LcI) (h0 : I 0 [] F M) (hG : ∀ D i acc F' M' H', i ≤ n → I i acc F' M' → Own F' ((D, .lst acc) :: M') H' → G H')
    (hs : ∀ D i x acc F' M' H H', i < n → I i acc F' M' → Own F' ((D, .lst acc) :: M') H → Y i H x H' → g x (wipe σ vs) H' fun σ2 H2 => wipe σ2 vs = wipe σ vs ∧ tt σ2 H2 fun b H3 => if b = true then te σ2 H3 fun y H4 => ∃ acc, H4 D = some (.lst acc) ∧ acc.length < sizeLine ∧ LcS I D i (upd H4 D (.lst (acc ++ [y]))) else LcS I D i H3)
    (hd : ∀ D acc F' M' H', F D = none → I n acc F' M' → Own F' ((D, .lst acc) :: M') H' → Q (.ref D) H') : LcB J g tt te vs σ Q H := fun D hD =>
  lc_it w (fun i H' => ∃ acc F' M', I i acc F' M' ∧ Own F' ((D, .lst acc) :: M') H') ⟨[], F, M, h0, o.newM hD⟩ (fun i H' hi ⟨acc, F', M', h, o'⟩ => hG D i acc F' M' H' hi h o')
    (fun i x H' H'' hi ⟨acc, F', M', h, o'⟩ hy => hs D i x acc F' M' H' H'' hi h o' hy) (fun H' ⟨acc, F', M', h, o'⟩ => hd D acc F' M' H' (o.free hD) h o')
/-- the element is y: it goes to the list -/
theorem lcN {I : LcI} {D0 : Addr} {i : Nat} {y : V} (h : LcN I D0 i y H) : ∃ acc, H D0 = some (.lst acc) ∧ acc.length < sizeLine ∧ LcS I D0 i (upd H D0 (.lst (acc ++ [y]))) := by
  obtain ⟨acc, F, M, hl, hi, o⟩ := h
  exact ⟨acc, o.get 0, hl, _, F, M, hi, o.set 0⟩
end
theorem cdivW_of {i j : Int} (h0 : 0 < j) (h1 : j < 2 ^ 120) : CDivW i j := wide_div (b := 120) h0 (by omega) (by decide) (by decide)
theorem six {k : Int} {n j : Nat} (e : k = (j : Int)) (h : j < n) : seqIndex? k n = some j := by
  subst e
  rw [seqIndex_of (Int.natCast_nonneg j) (by omega), Int.toNat_natCast]
theorem iix {k : Int} {n j : Nat} (e : k = (j : Int)) (h : j < n) : ixN n k = some j := by
  subst e
  unfold ixN
  rw [if_pos (Int.natCast_nonneg j), if_pos (by omega), Int.toNat_natCast]
theorem get_iL {l : List Int} {j : Nat} (h : j < l.length) : (iL l)[j]? = some (.int l[j]) := by
  unfold iL
  rw [List.getElem?_map, List.getElem?_eq_getElem h]
  rfl
theorem len_iL (l : List Int) : (iL l).length = l.length := List.length_map _
def cutL {α : Type} (xs : List α) (lo hi : Option Int) : List α := (xs.drop (HT.sIx xs.length 0 lo)).take (HT.sIx xs.length xs.length hi - HT.sIx xs.length 0 lo)
theorem cutV_eq (xs : List V) (lo hi : Option Int) : cutV xs lo hi = cutL xs lo hi := rfl
theorem cutL_map {α β : Type} (f : α → β) (xs : List α) (lo hi : Option Int) : cutL (xs.map f) lo hi = (cutL xs lo hi).map f := by
  unfold cutL
  rw [List.length_map, List.map_take, List.map_drop]
theorem cutL_len {α : Type} (xs : List α) (lo hi : Option Int) : (cutL xs lo hi).length ≤ xs.length := by
  unfold cutL
  rw [List.length_take, List.length_drop]
  omega
theorem cut_iL (l : List Int) (lo hi : Option Int) : cutV (iL l) lo hi = iL (cutL l lo hi) := cutL_map _ _ _ _
theorem iL_get {l : List Int} {i : Nat} {x : V} (h : (iL l)[i]? = some x) : ∃ n, l[i]? = some n ∧ x = .int n := by
  unfold iL at h
  rw [List.getElem?_map] at h
  cases e : l[i]? with
  | none =>
    rw [e] at h
    cases h
  | some n =>
    rw [e] at h
    exact ⟨n, rfl, (Option.some.inj h).symm⟩
theorem iL_app (l : List Int) (n : Int) : iL l ++ [.int n] = iL (l ++ [n]) := by
  unfold iL
  rw [List.map_append]
  rfl
/-! shapes of data -/
def Shp (n : Nat) (d : PyData) : Prop := d.canLay0 = true ∧ d.depth ≤ n
theorem shp_int (n : Nat) (i : Int) : Shp n (.int i) := ⟨rfl, Nat.zero_le _⟩
theorem shp_bool (n : Nat) (b : Bool) : Shp n (.bool b) := ⟨rfl, Nat.zero_le _⟩
theorem shp_none (n : Nat) : Shp n .none := ⟨rfl, Nat.zero_le _⟩
theorem shp_str (n : Nat) {x : Str} (h : PyData.canLay0 (.str x) = true) : Shp n (.str x) := ⟨h, Nat.zero_le _⟩
theorem shp_all {n : Nat} : ∀ {ds : List PyData}, (∀ d ∈ ds, Shp n d) → PyData.canLayAll0 ds = true ∧ PyData.depthAll ds ≤ n
  | [], _ => ⟨rfl, Nat.zero_le _⟩
  | d :: ds, h => by
    have h1 := h d List.mem_cons_self
    have h2 := shp_all (ds := ds) fun e he => h e (List.mem_cons_of_mem _ he)
    refine ⟨?_, ?_⟩
    · rw [PyData.canLayAll0, h1.1, h2.1]
      rfl
    · rw [PyData.depthAll]
      exact Nat.max_le.mpr ⟨h1.2, h2.2⟩
theorem shp_list {n : Nat} {ds : List PyData} (h : ∀ d ∈ ds, Shp n d) : Shp (n + 1) (.list ds) := by
  have z := shp_all h
  exact ⟨by rw [PyData.canLay0]; exact z.1, by rw [PyData.depth]; exact Nat.succ_le_succ z.2⟩
theorem shp_tuple {n : Nat} {ds : List PyData} (h : ∀ d ∈ ds, Shp n d) : Shp (n + 1) (.tuple ds) := by
  have z := shp_all h
  exact ⟨by rw [PyData.canLay0]; exact z.1, by rw [PyData.depth]; exact Nat.succ_le_succ z.2⟩
theorem Shp.shaped {n : Nat} {d : PyData} (h : Shp n d) (hn : n ≤ 64 := by decide) : SeqAt.shaped d = true := by
  unfold SeqAt.shaped
  rw [h.1, decide_eq_true (Nat.le_trans h.2 hn)]
  rfl
theorem shp_iL (g : List Int) : Shp 1 (.list (g.map .int)) := shp_list fun d hd => by
  obtain ⟨i, _, rfl⟩ := List.mem_map.mp hd
  exact shp_int _ _
theorem eqv_iL_nil (g : List Int) : PyData.eqv (.list (g.map .int)) (.list []) = g.isEmpty := by
  cases g <;> rfl
end Ed

/-! ## Ed: own classes: methods, making, ==, !=, len -/
namespace Ed
open PySem PySem.Spec PyProof.Rows L2
section
variable {prog : Program} {w : World} {A : Around} {E : Value → Shared → Prop} {s : Shared} {K : PySem.W.Frag} {x C f : Addr} {ox : Obj} {od : Option Obj} {b tb : Value}
theorem ifBound_objNe {M : Model} {args : List Value} {Q : Option Value → Shared → Prop} (X : K.In s.heap) (I : PySem.W.InstAt s.heap x ox C od) (hs : PySem.W.findIn K (.ref C) "__ne__" = some (some (.builtin "object.__ne__")))
    (h : wpAny M A (call (.builtin "object.__ne__") (.ref x :: args)) (fun v => Q (some v)) E s) : wpAny M A (callSpecialIfBound? (.ref x) "__ne__" args) Q E s := by
  simp only [callSpecialIfBound?, bindSpecialIfBound?]
  refine wpAny_holding (wpAny_bind (wpAny_bind (wpAny_bind (I.type.here ((PySem.W.looks_findIn X hs).here ?_)))))
  refine wpAny_bind (wpAny_askSetting (wpAny_ite ?_))
  have fin : wpAny M A (call (.builtin "object.__ne__") ([.ref x] ++ args) >>= fun v => pure (some v)) Q E s := wpAny_bind (wpAny_mono h (fun v s' h' => wpAny_pure h') fun _ _ h' => h')
  split
  · exact wpAny_bind (wpAny_of_eq (F.cmp_object.ne.bind _) (wpAny_pure (by exact fin)))
  · exact wpAny_tryCatch (wpAny_bind (wpAny_of_eq (F.cmp_object.ne.bind _) (wpAny_pure (by exact fin))))
theorem objNe_entry (X : K.In s.heap) (I : PySem.W.InstAt s.heap x ox C od) (hu : A.units < cLine) (hs : PySem.W.findIn K (.ref C) "__eq__" = some (some (.ref f))) (hf : PySem.W.isFn K (.ref f) = true) {Q : Fin → Shared → Prop}
    (hcall : wpAny (model prog w) A (call (.ref f) [.ref x, b]) (fun v s' => ∃ k, v = .bool k ∧ Q (.done (.ret (.bool (!k)))) s') E s) :
    wpAny (model prog w) A (Builtin.«object.__ne__» ⟨[.ref x, b], []⟩) Q E s := by
  unfold Builtin.«object.__ne__»
  repeat (first
    | with_reducible refine wpAny_cRoomFor hu ?_
    | (refine wpAny_bind (m := callSpecialIfBound? (.ref x) (Str.ofString "__eq__") [b])
        (PySem.W.ifBound_K X I hs hf (wpAny_mono hcall (fun r s' hr => by
          obtain ⟨k, rfl, hq⟩ := hr
          repeat (first | exact hq | exact wpAny_pure hq | exact wpAny_truthy_bool hq | (refine wpAny_bind (m := truthy (.bool _)) (wpAny_truthy_bool ?_)) | wp_step)) fun _ _ e => e)))
    | wp_step)
/-- x != b, x an instance with its own == and no own != -/
theorem ne_own {Q : Value → Shared → Prop} (hu : A.units + 1 < cLine) (X : K.In s.heap) (I : PySem.W.InstAt s.heap x ox C od) (hb : PySem.W.Looks (model prog w) s.heap (typeOf b) tb) (hn : PySem.W.notFirst K C tb = true)
    (hm : PySem.W.mroIn K C (.type "object") = some true) (hne : PySem.W.findIn K (.ref C) "__ne__" = some (some (.builtin "object.__ne__"))) (hs : PySem.W.findIn K (.ref C) "__eq__" = some (some (.ref f))) (hf : PySem.W.isFn K (.ref f) = true)
    (h : wpAny (model prog w) A.in1 (call (.ref f) [.ref x, b]) (fun v s' => ∃ k, v = .bool k ∧ Q (.bool (!k)) s') E s) : wpAny (model prog w) A (richCompare .NotEq (.ref x) b) Q E s := by
  have one : wpAny (model prog w) A (tryCompare (.ref x) "__ne__" b) (fun r s' => ∃ v, r = some v ∧ Q v s') E s := by
    unfold tryCompare
    refine wpAny_bind (ifBound_objNe X I hne (wpAny_call (codeAny_call_builtin F.cmp_object.ne.plain F.cmpEntry_ne (PySem.W.check_slot F.cmpKind_ne F.cmpSplit_ne (I.type.andThen (PySem.W.looks_mroIn X hm)) (F.cmpArgs_ne _ _)
      (objNe_entry (A := A.in1) X I hu hs hf (wpAny_mono h (fun v s' hv => ?_) fun _ _ e => e))))))
    obtain ⟨k, rfl, hq⟩ := hv
    refine ⟨k, rfl, ?_⟩
    first | exact wpAny_pure ⟨_, rfl, hq⟩ | exact ⟨_, rfl, hq⟩
  simp only [richCompare, cmpInfo_NotEq, oneThing_ref]
  refine wpAny_holding (wpAny_bind (wpAny_cRoomFor (Nat.lt_of_succ_lt hu) ?_))
  refine wpAny_bind (I.type.here (wpAny_bind (hb.here ?_)))
  split
  · rename_i q
    have e : PySem.W.subIn K tb (.ref C) = some false := by
      rcases Bool.or_eq_true_iff.mp hn with e | e
      · rw [beq_iff_eq.mp e] at q; simp at q
      · exact beq_iff_eq.mp e
    refine wpAny_bind ((PySem.W.looks_subIn X e).here ?_)
    simp only [Bool.false_eq_true, if_false]
    refine wpAny_bind (wpAny_mono one (fun r s' z => ?_) fun _ _ e => e)
    obtain ⟨v, rfl, hq⟩ := z
    exact wpAny_pure hq
  · refine wpAny_bind (wpAny_pure ?_)
    simp only [Bool.false_eq_true, if_false]
    refine wpAny_bind (wpAny_mono one (fun r s' z => ?_) fun _ _ e => e)
    obtain ⟨v, rfl, hq⟩ := z
    exact wpAny_pure hq
end
/-- a class with its own ==, at f -/
structure OwnEq (K : PySem.W.Frag) (C f : Addr) : Prop where
  eq : PySem.W.findIn K (.ref C) "__eq__" = some (some (.ref f))
  fn : PySem.W.isFn K (.ref f) = true
  ne : PySem.W.findIn K (.ref C) "__ne__" = some (some (.builtin "object.__ne__"))
  ob : PySem.W.mroIn K C (.type "object") = some true
def ownEqB (K : PySem.W.Frag) (x : Str) : Bool := decide (PySem.W.findIn K (.ref (He.ga K x)) "__eq__" = some (some (.ref (He.ma K (He.ga K x) "__eq__")))) && PySem.W.isFn K (.ref (He.ma K (He.ga K x) "__eq__")) &&
  decide (PySem.W.findIn K (.ref (He.ga K x)) "__ne__" = some (some (.builtin "object.__ne__"))) && decide (PySem.W.mroIn K (He.ga K x) (.type "object") = some true)
theorem ownEq_of {K : PySem.W.Frag} {x : Str} (h : ownEqB K x = true) : OwnEq K (He.ga K x) (He.ma K (He.ga K x) "__eq__") := by
  unfold ownEqB at h
  simp only [Bool.and_eq_true, decide_eq_true_eq] at h
  exact ⟨h.1.1.1, h.1.1.2, h.1.2, h.2⟩
/-- what isinstance asks of an own class -/
structure InsTy (K : PySem.W.Frag) (C : Addr) : Prop where
  ha : PySem.W.findIn K (.ref C) "__class__" = some (some (.builtin "object.__class__"))
  hn : PySem.W.specialIn K (.builtin "object.__class__") "__get__" = some (some (.builtin "getset_descriptor.__get__"))
  htk : PySem.W.takesIn K (.builtin "object.__class__") = some true
  hm : PySem.W.mroIn K C (.type "object") = some true
def insTyB (K : PySem.W.Frag) (C : Addr) : Bool := decide (PySem.W.findIn K (.ref C) "__class__" = some (some (.builtin "object.__class__"))) && decide (PySem.W.specialIn K (.builtin "object.__class__") "__get__" = some (some (.builtin "getset_descriptor.__get__"))) &&
  decide (PySem.W.takesIn K (.builtin "object.__class__") = some true) && decide (PySem.W.mroIn K C (.type "object") = some true)
theorem insTy_of {K : PySem.W.Frag} {C : Addr} (h : insTyB K C = true) : InsTy K C := by
  unfold insTyB at h
  simp only [Bool.and_eq_true, decide_eq_true_eq] at h
  exact ⟨h.1.1.1, h.1.1.2, h.1.2, h.2⟩
theorem InsTy.ty {K : PySem.W.Frag} {C a dx : Addr} {H : Hp} {fs : List (Str × V)} (i : InsTy K C) (c : Cls K C) (e : H a = some (.ins C dx fs)) : TyX K H (.ref a) (.ref C) := .base (.ins e c i.ha i.hn i.htk i.hm)
/-- x == y by the own == of x's class: its promise sp, a truth value -/
def rOwn (K : PySem.W.Frag) (C : Addr) (sp : Sp) (neg : Bool) : R2 := fun x y H Q => ∃ a dx fs t, x = .ref a ∧ H a = some (.ins C dx fs) ∧ TyX K H y t ∧ PySem.W.notFirst K C t = true ∧
  sp [x, y] H (fun v H' => ∃ b, v = .bl b ∧ Q (.bl (if neg then !b else b)) H') E0
section
variable {X : Cx} {C f : Addr} {k : Nat} {sp : Sp}
theorem op_eqO (q : OwnEq X.K C f) (F : FnR X.prog X.w X.K X.mg X.base CX0 k f sp) (hr : Room k X.A) : OpR X (compareOp .Eq) (rOwn X.K C sp false) := by
  intro pins s σ H x y u v Q I rx ry h
  obtain ⟨a, dx, fs, t, rfl, ha, ty, hn, hsp⟩ := h
  obtain rfl : u = Value.ref a := rx
  obtain ⟨mA, J, _⟩ := ins_get I.hok ha
  obtain ⟨od, J, _⟩ := J.look
  obtain ⟨m, hF⟩ := I.fr
  obtain ⟨Pt, kx, hP, _⟩ := kit_of I ry ty
  show wpAny (model X.prog X.w) X.A (richCompare .Eq (.ref a) v) (EP X pins σ Q) X.xe s
  refine PySem.W.cmp_K (op := .Eq) hr.units0 hF I.ok.mod.kin J (kx.ty _ _ I.kIn hP) hn q.eq q.fn ?_
  refine wpAny_call (codeAny_mono (run_fnR (vs := [.ref a, y]) F hr pass0 I (.cons rfl (.cons ry .nil)) hsp) fun r s' hq => ?_)
  cases r with
  | error e => exact hq
  | ok fl =>
    cases fl with
    | ret z =>
      obtain ⟨v', H', I', rv, b, rfl, hq⟩ := hq
      obtain rfl : z = Value.bool b := rv
      exact ⟨.bl b, H', I', rfl, hq⟩
    | next => exact False.elim hq
    | brk => exact False.elim hq
    | cont => exact False.elim hq
theorem in1_env0 {P : Program} {w : World} {K : PySem.W.Frag} {mg : Str → Option Value} {base : Heap} {A : Around} {outer : List Env} {s : Shared} {H : Hp} (e : Env0 P w K mg base A outer s H) : Env0 P w K mg base A.in1 outer s H := e.in1
/-- the callee runs one C frame deeper -/
theorem run_in1 {pins : List (Addr × Obj)} {σ : L2.St} {H : Hp} {s : Shared} {Q : VK} {us : List Value} {vs : List V} (F : FnR X.prog X.w X.K X.mg X.base CX0 k f sp) (hr : Room (k + 1) X.A) (I : Inv X pins σ H s) (r : Vals vs us) (h : sp vs H Q E0) :
    wpAny (model X.prog X.w) X.A.in1 (call (.ref f) us) (EP X pins σ Q) X.xe s := by
  refine wpAny_call (codeAny_mono (F X.A.in1 X.stack s H us vs Q E0 hr.in1 I.env0.in1 r h) fun r s' hq => ?_)
  cases r with
  | error e => exact False.elim hq
  | ok fl =>
    cases fl with
    | ret u => exact I.after hq
    | next => exact False.elim hq
    | brk => exact False.elim hq
    | cont => exact False.elim hq
theorem op_neO (q : OwnEq X.K C f) (F : FnR X.prog X.w X.K X.mg X.base CX0 k f sp) (hr : Room (k + 1) X.A) : OpR X (compareOp .NotEq) (rOwn X.K C sp true) := by
  intro pins s σ H x y u v Q I rx ry h
  obtain ⟨a, dx, fs, t, rfl, ha, ty, hn, hsp⟩ := h
  obtain rfl : u = Value.ref a := rx
  obtain ⟨mA, J, _⟩ := ins_get I.hok ha
  obtain ⟨od, J, _⟩ := J.look
  obtain ⟨Pt, kx, hP, _⟩ := kit_of I ry ty
  show wpAny (model X.prog X.w) X.A (richCompare .NotEq (.ref a) v) (EP X pins σ Q) X.xe s
  refine ne_own (hu_of hr) I.kIn J (kx.ty _ _ I.kIn hP) hn q.ob q.ne q.eq q.fn ?_
  refine thn (run_in1 (vs := [.ref a, y]) F hr I (.cons rfl (.cons ry .nil)) hsp) fun z s' hq => ?_
  obtain ⟨v', H', I', rv, b, rfl, hq⟩ := hq
  obtain rfl : z = Value.bool b := rv
  exact ⟨b, rfl, .bl (!b), H', I', rfl, hq⟩
/-- len(x) by the own __len__ of x's class -/
def rLenO (C : Addr) (sp : Sp) : List V → Hp → VK → Prop := fun xs H Q => ∃ a dx fs, xs = [.ref a] ∧ H a = some (.ins C dx fs) ∧ sp xs H (fun v H' => ∃ n : Int, v = .int n ∧ 0 ≤ n ∧ n < 2 ^ 63 ∧ Q (.int n) H') E0
theorem c_lenO (hs : PySem.W.findIn X.K (.ref C) "__len__" = some (some (.ref f))) (hf : PySem.W.isFn X.K (.ref f) = true) (F : FnR X.prog X.w X.K X.mg X.base CX0 k f sp) (hr : Room (k + 1) X.A) : CallR X (.builtin "len") (rLenO C sp) := by
  intro pins s σ H xs us Q I r h
  obtain ⟨a, dx, fs, rfl, ha, hsp⟩ := h
  obtain ⟨u, rfl, ru⟩ := vals1 r
  obtain rfl : u = Value.ref a := ru
  obtain ⟨mA, J, _⟩ := ins_get I.hok ha
  obtain ⟨od, J, _⟩ := J.look
  obtain ⟨m, hF⟩ := I.fr
  refine PySem.W.len_K hF I.ok.mod.kin J hs hf ?_
  refine thn (run_in1 (vs := [.ref a]) F hr I (.cons rfl .nil) hsp) fun z s' hq => ?_
  obtain ⟨v', H', I', rv, n, rfl, h0, h1, hq⟩ := hq
  obtain ⟨t, rfl⟩ := rv
  exact ⟨⟨h0, h1⟩, .int n, H', I'.tok _, ⟨_, rfl⟩, hq⟩
end
/-! ### more of data -/
section
variable {K : PySem.W.Frag} {F F' : Hp} {v : V} {vs : List V} {d : PyData} {ds es : List PyData}
theorem dpAll_len : ∀ {vs : List V} {ds : List PyData}, DpAll K F vs ds → vs.length = ds.length
  | _, _, .nil => rfl
  | _, _, .cons _ t => congrArg Nat.succ (dpAll_len t)
theorem dpAll_get : ∀ {vs : List V} {ds : List PyData} {i : Nat} {v : V}, DpAll K F vs ds → vs[i]? = some v → ∃ d, ds[i]? = some d ∧ Dp K F v d
  | _, _, _, _, .nil, h => by cases h
  | _, _, 0, _, .cons a _, h => by
    cases h
    exact ⟨_, rfl, a⟩
  | _, _, i + 1, v, .cons _ t, h => dpAll_get (i := i) (v := v) t h
theorem dpAll_at : ∀ {vs : List V} {ds : List PyData} {i : Nat} {d : PyData}, DpAll K F vs ds → ds[i]? = some d → ∃ v, vs[i]? = some v ∧ Dp K F v d
  | _, _, _, _, .nil, h => by cases h
  | _, _, 0, _, .cons a _, h => by
    cases h
    exact ⟨_, rfl, a⟩
  | _, _, i + 1, v, .cons _ t, h => dpAll_at (i := i) (d := v) t h
theorem dpAll_app : ∀ {vs ws : List V} {ds es : List PyData}, DpAll K F vs ds → DpAll K F ws es → DpAll K F (vs ++ ws) (ds ++ es)
  | _, _, _, _, .nil, h => h
  | _, _, _, _, .cons a t, h => .cons a (dpAll_app t h)
theorem dpAll_snoc (h : DpAll K F vs ds) (a : Dp K F v d) : DpAll K F (vs ++ [v]) (ds ++ [d]) := dpAll_app h (.cons a .nil)
theorem dp_list_inv (h : Dp K F v (.list ds)) : ∃ a xs, v = .ref a ∧ SqL K F a xs ∧ DpAll K F xs ds := by
  cases h with
  | lst h a => exact ⟨_, _, rfl, h, a⟩
theorem dp_tup_inv (h : Dp K F v (.tuple ds)) : ∃ a xs, v = .ref a ∧ SqT K F a xs ∧ DpAll K F xs ds := by
  cases h with
  | tup h a => exact ⟨_, _, rfl, h, a⟩
theorem dp_int_inv {i : Int} (h : Dp K F v (.int i)) : v = .int i := by
  cases h
  rfl
theorem dp_bool_inv {i : Bool} (h : Dp K F v (.bool i)) : v = .bl i := by
  cases h
  rfl
theorem dp_str_inv {i : Str} (h : Dp K F v (.str i)) : v = .str i := by
  cases h
  rfl
theorem dpAll_cons_inv (h : DpAll K F vs (d :: ds)) : ∃ v ws, vs = v :: ws ∧ Dp K F v d ∧ DpAll K F ws ds := by
  cases h with
  | cons a t => exact ⟨_, _, rfl, a, t⟩
theorem dpAll_nil_inv (h : DpAll K F vs []) : vs = [] := by
  cases h
  rfl
theorem dp_newT {p : Addr} (hp : F p = none) (h : DpAll K F vs ds) : Dp K (upd F p (.tup vs)) (.ref p) (.tuple ds) := .tup (SqT.of upd_same) (dpAll_mono (same_upd hp) h)
theorem dp_newL {p : Addr} (hp : F p = none) (h : DpAll K F vs ds) : Dp K (upd F p (.lst vs)) (.ref p) (.list ds) := .lst (SqL.of upd_same) (dpAll_mono (same_upd hp) h)
end
theorem take_snoc {α : Type} {l : List α} {i : Nat} {x : α} (h : l[i]? = some x) : l.take (i + 1) = l.take i ++ [x] := by
  rw [List.take_add_one, h]
  rfl
theorem map_get {α β : Type} {f : α → β} {l : List α} {i : Nat} {y : β} (h : (l.map f)[i]? = some y) : ∃ x, l[i]? = some x ∧ y = f x := by
  rw [List.getElem?_map] at h
  cases e : l[i]? with
  | none =>
    rw [e] at h
    cases h
  | some x =>
    rw [e] at h
    exact ⟨x, rfl, (Option.some.inj h).symm⟩
theorem kit_self {K : PySem.W.Frag} (t : Value) : PySem.W.kitOne K t t = some true := by
  unfold PySem.W.kitOne
  rw [if_pos (by simp)]
/-! ### methods by their bodies -/
theorem fnR_by {P : Program} {w : World} {K : PySem.W.Frag} {mg : Str → Option Value} {base : Heap} {x qual : Str} {params : Arguments} {body : List Stmt} {scope : Scope} {dvs dv : List V} {kws : List (Str × V)} {f : Addr} {fd : FuncData} {N ps : List Str} {k : Nat} {sp : Sp}
    (F : FunD K x qual params body scope dvs kws f fd) (S : FnScope N ps scope) (len : ∀ vs H Q E, sp vs H Q E → vs.length = ps.length) (hb : ∃ ds, Vals dv ds ∧ Binds K fd ps ds)
    (hbody : ∀ (cdv : Value) (A : Around) (outer : List Env) (s : Shared) (H : Hp) (vs : List V) (Q : VK) (E : XK), Room k (A.deeper (envOfC qual scope s.heap.objs.size f cdv)) → sp vs H Q E →
      ∃ t, PSs (cxOf CX0 P w K mg base N qual scope f cdv A outer s H E).nox body t ∧ t { nx := fun _ H' => Q .non H', rt := Q } (start N vs) H) : FnR P w K mg base CX0 (k + 1) f (fun vs H Q E => sp (vs ++ dv) H Q E) := by
  have G := F.ok (P := P) (w := w) (mg := mg) (base := base) (CX := CX0) S len fun cdv A outer s H vs Q E hr hsp => by
    obtain ⟨t, h, q⟩ := hbody cdv A outer s H vs Q E hr hsp
    exact ⟨t, h.nox, q⟩
  obtain ⟨ds, hd, hb⟩ := hb
  exact G.raw hb hd
theorem fnR_nil {P : Program} {w : World} {K : PySem.W.Frag} {mg : Str → Option Value} {base : Heap} {k : Nat} {f : Addr} {sp : Sp} (F : FnR P w K mg base CX0 k f (fun vs H Q E => sp (vs ++ []) H Q E)) : FnR P w K mg base CX0 k f sp :=
  F.imp fun vs H Q E h => by
    rw [List.append_nil]
    exact h
/-- def m(a, .., *v) -/
theorem fnR_star {P : Program} {w : World} {K : PySem.W.Frag} {mg : Str → Option Value} {base : Heap} {x qual : Str} {params : Arguments} {body : List Stmt} {scope : Scope} {kws : List (Str × V)} {f : Addr} {fd : FuncData} {N ps : List Str} {pv : Str} {k : Nat} {sp : Sp}
    (F : FunD K x qual params body scope [] kws f fd) (S : FnScope N (ps ++ [pv]) scope)
    (hb : ∀ (kV doc pm : Value) (an : Option Addr) (cdv ct : Value) (us rest : List Value), us.length = ps.length → bindArgs (PySem.W.fnOf x qual params body scope .none kV doc pm an cdv ct) ⟨us ++ rest, []⟩ = (newTuple rest >>= fun t => pure (ps.zip us ++ [(pv, t)])))
    (hbody : ∀ (cdv : Value) (A : Around) (outer : List Env) (s : Shared) (H : Hp) (vs : List V) (Q : VK) (E : XK), Room k (A.deeper (envOfC qual scope s.heap.objs.size f cdv)) → sp vs H Q E →
      ∃ t, PSs (cxOf CX0 P w K mg base N qual scope f cdv A outer s H E).nox body t ∧ t { nx := fun _ H' => Q .non H', rt := Q } (start N vs) H) :
    FnR P w K mg base CX0 (k + 1) f (fun vs H Q E => ∃ ws rest, vs = ws ++ rest ∧ ws.length = ps.length ∧ rest.length ≤ sizeLine ∧ ∀ p, H p = Option.none → sp (ws ++ [V.ref p]) (upd H p (.tup rest)) Q E) := by
  obtain ⟨oc, od, dV, kV, doc, pm, an, cdv, ct, osl, rfl, lk, hcd, hD, _⟩ := F.ex
  rcases hD with ⟨_, rfl⟩ | ⟨e, _⟩
  · exact StX.fn_star lk hcd S StX.cxUp_none (hb kV doc pm an cdv ct) fun A outer s H vs Q E hr hsp => by
      obtain ⟨t, h, q⟩ := hbody cdv A outer s H vs Q E hr hsp
      exact ⟨t, h.nox, q⟩
  · exact absurd rfl e
theorem lt1k {n : Nat} (h : (n + 1).ble 1000 = true := by rfl) : n < 1000 := Nat.le_of_ble_eq_true h
/-! ### readings -/
def MkB (C : Addr) (sp : Sp) (E : XK) (vs : List V) (H : Hp) (Q : VK) : Prop := ∀ x dx, H x = none → H dx = none → dx ≠ x → sp (V.ref x :: vs) (upd (upd H dx (.own x)) x (.ins C dx [])) (fun v H2 => v = .non ∧ Q (.ref x) H2) E
section
variable {K : PySem.W.Frag} {σ : L2.St} {H : Hp} {Q : VK} {D : Ends} {te ta tv : TE} {tr : TA} {F : Hp} {M : Cells} {p C dx : Addr} {vs : List V} {sp : Sp} {E : XK} {v y : V} {f m : Str} {fs : List (Str × V)}
theorem r_make (h : tr σ H fun vs H1 => MkB C sp E vs H1 Q) : StX.tMakeR C sp E tr σ H Q := h
theorem mkb (o : Own F M H) (k : ∀ x dx H', F x = none → F dx = none → dx ≠ x → Own F ((x, .ins C dx []) :: (dx, .own x) :: M) H' → sp (.ref x :: vs) H' (fun v H2 => v = .non ∧ Q (.ref x) H2) E) : MkB C sp E vs H Q := fun x dx hx hd ne =>
  k x dx _ (o.free hx) (o.free hd) ne ((o.newM hd).newM (by rw [upd_ne (Ne.symm ne)]; exact hx))
theorem r_methR (h : ta σ H fun x H1 => ∃ a dx fs, x = .ref a ∧ H1 a = some (.ins C dx fs) ∧ fs.lookup m = none ∧ tr σ H1 fun vs H2 => sp (x :: vs) H2 Q E) : tMethR C m sp E ta tr σ H Q := h
theorem r_recv {R : Prop} (h : H p = some (.ins C dx fs)) (hl : fs.lookup m = none) (k : R) : ∃ a dx fs, V.ref p = .ref a ∧ H a = some (.ins C dx fs) ∧ fs.lookup m = none ∧ R := ⟨p, dx, fs, rfl, h, hl, k⟩
theorem r_sfld (h : tv σ H fun y H1 => ta σ H1 fun x H2 => ∃ a C dx fs, x = .ref a ∧ H2 a = some (.ins C dx fs) ∧ Cls K C ∧ NoAttr K C f ∧ fs.length < 1000 ∧ D.nx σ (upd H2 a (.ins C dx (putF f y fs)))) : sFld K ta tv f D σ H := h
theorem r_setF {R : Hp → Prop} (o : Own F M H) (i : Nat) (h : M[i]? = some (p, .ins C dx fs)) (hc : Cls K C) (hn : NoAttr K C f) (k : ∀ H', Own F (M.set i (p, .ins C dx (putF f y fs))) H' → R H') (hl : fs.length < 1000 := by exact lt1k) :
    ∃ a C dx fs, V.ref p = .ref a ∧ H a = some (.ins C dx fs) ∧ Cls K C ∧ NoAttr K C f ∧ fs.length < 1000 ∧ R (upd H a (.ins C dx (putF f y fs))) := ⟨p, C, dx, fs, rfl, o.get i h, hc, hn, hl, k _ (o.set i h)⟩
theorem r_getF (h : H p = some (.ins C dx fs)) (hc : Cls K C) (hn : NoAttr K C f) (hl : fs.lookup f = some v) (q : Q v H) : ∃ a C dx fs v, V.ref p = .ref a ∧ H a = some (.ins C dx fs) ∧ Cls K C ∧ NoAttr K C f ∧ fs.lookup f = some v ∧ Q v H := ⟨p, C, dx, fs, v, rfl, h, hc, hn, hl, q⟩
theorem r_tfld' (h : ta σ H fun x H1 => ∃ a C dx fs v, x = .ref a ∧ H1 a = some (.ins C dx fs) ∧ Cls K C ∧ NoAttr K C f ∧ fs.lookup f = some v ∧ Q v H1) : tFld K ta f σ H Q := h
end
end Ed

/-! ## Ed: texts -/
namespace Ed
open PySem PySem.Spec PyProof.Rows L2
def rJoin (K : PySem.W.Frag) : V → List V → Hp → VK → Prop := fun x xs H Q => ∃ a p, ∃ ys : List Str, x = .str a ∧ xs = [.ref p] ∧ (SqL K H p (ys.map V.str) ∨ SqT K H p (ys.map V.str)) ∧ (ys.map (·.length)).sum + ys.length * a.length ≤ 16777216 ∧ Q (.str (Txt.join a ys)) H
def rSplit : V → List V → Hp → VK → Prop := fun x xs H Q => ∃ a b, x = .str a ∧ xs = [.str b] ∧ (b.length == 0) = false ∧ a.length + 2 ≤ sizeLine ∧ rNewStrs (Txt.split a b) H Q
def rPart : V → List V → Hp → VK → Prop := fun x xs H Q => ∃ a b, x = .str a ∧ xs = [.str b] ∧ (b.length == 0) = false ∧ a.length ≤ sizeLine ∧ ∀ p, H p = none → Q (.ref p) (upd H p (.tup [.str (Txt.partition a b).1, .str (Txt.partition a b).2.1, .str (Txt.partition a b).2.2]))
def rStarts : V → List V → Hp → VK → Prop := fun x xs H Q => ∃ a b, x = .str a ∧ xs = [.str b] ∧ Q (.bl (Txt.startswith a b)) H
def rEnds : V → List V → Hp → VK → Prop := fun x xs H Q => ∃ a b, x = .str a ∧ xs = [.str b] ∧ Q (.bl (Txt.endswith a b)) H
def rCatS : R2 := fun x y H Q => ∃ i j, x = .str i ∧ y = .str j ∧ i.length + j.length ≤ sizeLine ∧ Q (.str (i ++ j)) H
def rStrI : List V → Hp → VK → Prop := fun xs H Q => ∃ i, xs = [.int i] ∧ i.natAbs.log2 < 1920 ∧ Q (.str (toString i)) H
def rLenS' : List V → Hp → VK → Prop := fun xs H Q => ∃ a : Str, xs = [.str a] ∧ a.length ≤ sizeLine ∧ Q (.int a.length) H
section
variable {X : Cx} {o e : Expr} {to te : TE} {apos pos : Pos}
theorem kJoin (K : PySem.W.Frag) (ho : PE X o to) (he : PE X e te) (hs : starEach [e] X.env = [(false, eval e X.env)] := by rfl) (hbase : attributeBase o "join" X.env (eval o X.env) = eval o X.env := by rfl) (hline : (apos.endLine == pos.line) = true := by rfl) (hK : X.K = K := by rfl) :
    PE X (.Call (.Attribute o "join" apos) [e] [] pos) (tM1 (rJoin K) to te) := by
  subst hK
  exact pe_join ho he hs hbase hline
theorem kSplit (ho : PE X o to) (he : PE X e te) (hs : starEach [e] X.env = [(false, eval e X.env)] := by rfl) (hbase : attributeBase o "split" X.env (eval o X.env) = eval o X.env := by rfl) (hline : (apos.endLine == pos.line) = true := by rfl) :
    PE X (.Call (.Attribute o "split" apos) [e] [] pos) (tM1 rSplit to te) := pe_split ho he hs hbase hline
theorem kPart (ho : PE X o to) (he : PE X e te) (hs : starEach [e] X.env = [(false, eval e X.env)] := by rfl) (hbase : attributeBase o "partition" X.env (eval o X.env) = eval o X.env := by rfl) (hline : (apos.endLine == pos.line) = true := by rfl) :
    PE X (.Call (.Attribute o "partition" apos) [e] [] pos) (tM1 rPart to te) := pe_partition ho he hs hbase hline
theorem m_starts : MtR X "str.startswith" rStarts := mt_startswith
theorem m_ends : MtR X "str.endswith" rEnds := mt_endswith
theorem o_catS : OpR X (binaryOp .Add) rCatS := op_add_str
theorem c_strI : CallR X (.type "str") rStrI := call_str_int
theorem c_lenS : CallR X (.builtin "len") rLenS' := call_len_str
end
section
variable {K : PySem.W.Frag} {σ : L2.St} {H : Hp} {Q : VK} {F : Hp} {M : Cells} {p : Addr} {to te : TE} {a b z : Str} {n : Int}
theorem r_m1 {r : V → List V → Hp → VK → Prop} (h : to σ H fun x H1 => (∃ a, x = .str a) ∧ te σ H1 fun y H2 => r x [y] H2 Q) : tM1 r to te σ H Q := h
theorem r_isS {R : Prop} (k : R) : (∃ a, V.str z = .str a) ∧ R := ⟨⟨z, rfl⟩, k⟩
theorem r_join {ys : List Str} (h : SqL K H p (ys.map V.str)) (hb : (ys.map (·.length)).sum + ys.length * a.length ≤ 16777216) (q : Q (.str (Txt.join a ys)) H) : rJoin K (.str a) [.ref p] H Q := ⟨a, p, ys, rfl, rfl, .inl h, hb, q⟩
theorem r_starts (q : Q (.bl (Txt.startswith a b)) H) : rStarts (.str a) [.str b] H Q := ⟨a, b, rfl, rfl, q⟩
theorem r_ends (q : Q (.bl (Txt.endswith a b)) H) : rEnds (.str a) [.str b] H Q := ⟨a, b, rfl, rfl, q⟩
theorem r_catS (h : a.length + b.length ≤ sizeLine) (q : Q (.str (a ++ b)) H) : rCatS (.str a) (.str b) H Q := ⟨a, b, rfl, rfl, h, q⟩
theorem r_strI (h : n.natAbs.log2 < 1920) (q : Q (.str (toString n)) H) : rStrI [.int n] H Q := ⟨n, rfl, h, q⟩
theorem r_lenS (h : a.length ≤ sizeLine) (q : Q (.int a.length) H) : rLenS' [.str a] H Q := ⟨a, rfl, h, q⟩
theorem r_ixS {c : Nat} (h : z.length ≤ sizeLine) (ha : atI z.cps.toList n = some c) (q : Q (.str ⟨#[c]⟩) H) : rIxS (.str z) (.int n) H Q := ⟨z, n, c, rfl, rfl, h, ha, q⟩
theorem r_slS {lo hi : Option Int} (h : z.length ≤ sizeLine) (q : Q (.str (cutS z lo hi)) H) : rSlS (.str z) lo hi H Q := ⟨z, rfl, h, q⟩
theorem r_split (o : Own F M H) (hb : (b.length == 0) = false) (ha : a.length + 2 ≤ sizeLine) (k : ∀ l H', F l = none → Own F ((l, .lst ((Txt.split a b).map V.str)) :: M) H' → Q (.ref l) H') : rSplit (.str a) [.str b] H Q := ⟨a, b, rfl, rfl, hb, ha, fun l hl => k l _ (o.free hl) (o.newM hl)⟩
theorem r_partn (o : Own F M H) (hb : (b.length == 0) = false) (ha : a.length ≤ sizeLine) (k : ∀ l H', F l = none → Own (upd F l (.tup [.str (Txt.partition a b).1, .str (Txt.partition a b).2.1, .str (Txt.partition a b).2.2])) M H' → Q (.ref l) H') : rPart (.str a) [.str b] H Q :=
  ⟨a, b, rfl, rfl, hb, ha, fun l hl => k l _ (o.free hl) (o.newF hl)⟩
end
theorem perm_mid (A S M : Cells) : (A ++ (S ++ M)).Perm (S ++ (A ++ M)) := by
  rw [← List.append_assoc, ← List.append_assoc]
  exact List.perm_append_comm.append_right M
/-- draw(source, n), other cells A ahead -/
theorem use_draw {F : Hp} {S M : Cells} {H : Hp} {a : Addr} {n : Int} {Q : VK} {E : XK} (A : Cells) (o : Own F (A ++ (S ++ M)) H) (hs : Src a S) (h0 : 0 < n) (h1 : n < 2 ^ 120)
    (k : ∀ r S' H', 0 ≤ r → r < n → Src a S' → Own F (A ++ (S' ++ M)) H' → Q (.int r) H') : spDraw [.ref a, .int n] H Q E :=
  ⟨_, _, rfl, a, n, F, S, A ++ M, rfl, rfl, h0, h1, hs, o.perm (perm_mid A S M), fun r S' H' r0 r1 hs' o' => k r S' H' r0 r1 hs' (o'.perm (perm_mid A S' M).symm)⟩
/-- the signs of a text -/
abbrev cps (z : Str) : List Nat := z.cps.toList
theorem at_lt {α : Type} {xs : List α} {n : Int} (h0 : 0 ≤ n) (h1 : n < xs.length) : ∃ c, atI xs n = some c ∧ c ∈ xs := by
  have h : n.toNat < xs.length := by omega
  refine ⟨xs[n.toNat], ?_, List.getElem_mem h⟩
  have e := atI_nat (List.getElem?_eq_getElem h)
  rw [Int.toNat_of_nonneg h0] at e
  exact e
end Ed

/-! ## Ed: str of own things, f-texts, lists unpacked, making by keywords -/
namespace Ed
open PySem PySem.Spec PyProof.Rows L2
/-- either of two targets -/
def gOr (g h : TG) : TG := fun v σ H Q => g v σ H Q ∨ h v σ H Q
theorem pg_or {X : Cx} {e : Expr} {g h : TG} (a : PG X e g) (b : PG X e h) : PG X e (gOr g h) := ⟨fun pins s σ H v u Q I r hw => hw.elim (a.run pins s σ H v u Q I r) (b.run pins s σ H v u Q I r)⟩
/-- str(x), x with its own __str__ -/
def rStrO (C : Addr) (sp : Sp) : List V → Hp → VK → Prop := fun xs H Q => ∃ a dx fs, xs = [.ref a] ∧ H a = some (.ins C dx fs) ∧ sp xs H (fun v H' => ∃ z : Str, v = .str z ∧ Q (.str z) H') E0
theorem run_in2 {X : Cx} {f : Addr} {k : Nat} {sp : Sp} {pins : List (Addr × Obj)} {σ : L2.St} {H : Hp} {s : Shared} {Q : VK} {us : List Value} {vs : List V} (F : FnR X.prog X.w X.K X.mg X.base CX0 k f sp) (hr : Room (k + 2) X.A) (I : Inv X pins σ H s) (r : Vals vs us) (h : sp vs H Q E0) :
    wpAny (model X.prog X.w) X.A.in1.in1 (call (.ref f) us) (EP X pins σ Q) X.xe s := by
  refine wpAny_call (codeAny_mono (F X.A.in1.in1 X.stack s H us vs Q E0 hr.in1.in1 I.env0.in1.in1 r h) fun r s' hq => ?_)
  cases r with
  | error e => exact False.elim hq
  | ok fl =>
    cases fl with
    | ret u => exact I.after hq
    | next => exact False.elim hq
    | brk => exact False.elim hq
    | cont => exact False.elim hq
theorem c_strO {X : Cx} {C f : Addr} {k : Nat} {sp : Sp} (hs : PySem.W.findIn X.K (.ref C) "__str__" = some (some (.ref f))) (hf : PySem.W.isFn X.K (.ref f) = true) (F : FnR X.prog X.w X.K X.mg X.base CX0 k f sp) (hr : Room (k + 2) X.A) : CallR X (.type "str") (rStrO C sp) := by
  intro pins s σ H xs us Q I r h
  obtain ⟨a, dx, fs, rfl, ha, hsp⟩ := h
  obtain ⟨u, rfl, ru⟩ := vals1 r
  obtain rfl : u = Value.ref a := ru
  obtain ⟨mA, J, _⟩ := ins_get I.hok ha
  obtain ⟨od, J, _⟩ := J.look
  refine PySem.W.kso_call (hr.in1.in1.units0) I.kIn J hs hf ?_
  refine thn (run_in2 (vs := [.ref a]) F hr I (.cons rfl .nil) hsp) fun z s' hq => ?_
  obtain ⟨v', H', I', rv, n, rfl, hq⟩ := hq
  obtain ⟨t, rfl⟩ := rv
  exact ⟨.str n, H', I', ⟨_, rfl⟩, hq⟩
theorem kRev {X : Cx} (K : PySem.W.Frag) {e : Expr} {te : TE} {k : Nat} {p1 p2 p3 pos : Pos} (he : PE X e te) (hK : X.K = K := by rfl) : PE X (.Subscript e (.Slice none none (some (.UnaryOp .USub (.Constant (.int 1) k p1) p2)) p3) pos) (tRevL K te) := by
  subst hK
  exact pe_revL he
theorem pg_unlK {X : Cx} {pos : Pos} (K : PySem.W.Frag) {es : List Expr} {k : Nat} {t : TGs} {n : Nat} (hc : X.calm = true) (h : PGs X es t) (hn : (assignEach es X.env).length = n := by rfl) (hst : (assignEach es X.env).findIdx? (·.1) = none := by rfl) (hK : X.K = K := by rfl) : PG X (.Tuple es k pos) (gUnl K n t) := by
  subst hK
  exact pg_unl hc h hn hst
def MkA (C : Addr) (sp : V → Hp → VK → XK → Prop) (E : XK) (H : Hp) (Q : VK) : Prop := ∀ x dx, H x = none → H dx = none → dx ≠ x → sp (.ref x) (upd (upd H dx (.own x)) x (.ins C dx [])) (fun v H3 => v = .non ∧ Q (.ref x) H3) E
def RvB (K : PySem.W.Frag) (x : V) (H : Hp) (Q : VK) : Prop := ∃ a xs, x = .ref a ∧ SqL K H a xs ∧ ∀ p, H p = none → Q (.ref p) (upd H p (.lst xs.reverse))
def tJn (ts : List TE) : TE := fun σ H Q => tJs ts Str.empty σ H fun out H1 => Q (.str out) H1
theorem kJn {X : Cx} {v1 v2 : Expr} {rest : List Expr} {ts : List TE} {pos : Pos} (h : PJ X (v1 :: v2 :: rest) ts) : PE X (.JoinedStr (v1 :: v2 :: rest) pos) (tJn ts) := pe_joined h
section
variable {K : PySem.W.Frag} {σ : L2.St} {H : Hp} {Q : VK} {F : Hp} {M : Cells} {p l : Addr} {xs ys vs : List V} {te : TE} {tr tk : TA} {z acc : Str} {n : Int} {QS : L2.St → Hp → Prop} {v : V}
theorem r_gunl {gs : TGs} {k : Nat} (h : SqL K H p xs) (hl : xs.length = k) (hq : gs xs σ H QS) : gUnl K k gs (.ref p) σ H QS := ⟨p, xs, rfl, h, hl, hq⟩
theorem r_fmtI (h : n.natAbs.log2 < 1920) (q : Q (.str (toString n)) H) : (∃ y : Str, V.int n = .str y ∧ y.length ≤ sizeLine ∧ Q (.str y) H) ∨ ∃ i : Int, V.int n = .int i ∧ i.natAbs.log2 < 1920 ∧ Q (.str (toString i)) H := .inr ⟨n, rfl, h, q⟩
theorem r_fmtS (h : z.length ≤ sizeLine) (q : Q (.str z) H) : (∃ y : Str, V.str z = .str y ∧ y.length ≤ sizeLine ∧ Q (.str y) H) ∨ ∃ i : Int, V.str z = .int i ∧ i.natAbs.log2 < 1920 ∧ Q (.str (toString i)) H := .inl ⟨z, rfl, h, q⟩
theorem r_fmt (h : te σ H fun x H1 => (∃ y : Str, x = .str y ∧ y.length ≤ sizeLine ∧ Q (.str y) H1) ∨ ∃ i : Int, x = .int i ∧ i.natAbs.log2 < 1920 ∧ Q (.str (toString i)) H1) : tFmt te σ H Q := h
theorem r_jn {ts : List TE} (h : tJs ts Str.empty σ H fun out H1 => Q (.str out) H1) : tJn ts σ H Q := h
theorem r_js1 {t : TE} {ts : List TE} {R : Str → Hp → Prop} (h : t σ H fun x H1 => ∃ y : Str, x = .str y ∧ (acc ++ y).length ≤ sizeLine ∧ tJs ts (acc ++ y) σ H1 R) : tJs (t :: ts) acc σ H R := h
theorem r_js2 {R : Prop} (h : R) : ∃ y : Str, V.str z = .str y ∧ ((acc ++ y).length ≤ sizeLine → R) := ⟨z, rfl, fun _ => h⟩
theorem r_js0 {R : Str → Hp → Prop} (h : R acc H) : tJs [] acc σ H R := h
theorem r_rev (h : te σ H fun x H1 => RvB K x H1 Q) : tRevL K te σ H Q := h
theorem revB (o : Own F M H) (h : SqL K H p xs) (k : ∀ l H', F l = none → Own (upd F l (.lst xs.reverse)) M H' → Q (.ref l) H') : RvB K (.ref p) H Q := ⟨p, xs, rfl, h, fun l hl => k l _ (o.free hl) (o.newF hl)⟩
theorem r_listOfF (o : Own F M H) (h : SqL K H p xs ∨ SqT K H p xs) (k : ∀ l H', F l = none → Own (upd F l (.lst xs)) M H' → Q (.ref l) H') : rListOf K [.ref p] H Q := ⟨p, xs, rfl, h, fun l hl => k l _ (o.free hl) (o.newF hl)⟩
theorem r_slLF {lo hi : Option Int} (o : Own F M H) (h : SqL K H p xs) (k : ∀ l H', F l = none → Own (upd F l (.lst (cutV xs lo hi))) M H' → Q (.ref l) H') : rSlL K (.ref p) lo hi H Q := ⟨p, xs, rfl, h, fun l hl => k l _ (o.free hl) (o.newF hl)⟩
theorem r_catF {q : Addr} (o : Own F M H) (h1 : H p = some (.lst xs)) (h2 : H q = some (.lst ys)) (hl : xs.length + ys.length ≤ sizeLine) (k : ∀ l H', F l = none → Own (upd F l (.lst (xs ++ ys))) M H' → Q (.ref l) H') : rCat (.ref p) (.ref q) H Q :=
  ⟨p, q, xs, ys, rfl, rfl, h1, h2, hl, fun l hl => k l _ (o.free hl) (o.newF hl)⟩
theorem r_makeN {C : Addr} {n m : Nat} {sp : Sp} {gV : List V → List V → List V} {E : XK} (h : tr σ H fun vs H1 => tk σ H1 fun zs H2 => vs.length = n ∧ zs.length = m ∧ MkA C (fun x => sp (gV (x :: vs) zs)) E H2 Q) : tMakeN C n m sp gV E tr tk σ H Q := h
theorem mkA_of {C : Addr} {sp : Sp} {E : XK} (h : MkA C (fun x => sp (x :: vs)) E H Q) : MkB C sp E vs H Q := h
theorem mkA {C : Addr} {sp : V → Hp → VK → XK → Prop} {E : XK} (o : Own F M H) (k : ∀ x dx H', F x = none → F dx = none → dx ≠ x → Own F ((x, .ins C dx []) :: (dx, .own x) :: M) H' → sp (.ref x) H' (fun v H2 => v = .non ∧ Q (.ref x) H2) E) : MkA C sp E H Q := fun x dx hx hd ne =>
  k x dx _ (o.free hx) (o.free hd) ne ((o.newM hd).newM (by rw [upd_ne (Ne.symm ne)]; exact hx))
end
/-! ### own == with a value of another type -/
def oth1 (K : PySem.W.Frag) (C : Addr) (t : Value) : Bool := PySem.W.notFirst K C t && decide (PySem.W.kitOne K t (.ref C) = some false)
def othB (K : PySem.W.Frag) (C : Addr) : Bool := oth1 K C (.type "str") && oth1 K C (.type "tuple") && oth1 K C (.type "NoneType") && oth1 K C (.type "int") && oth1 K C (.type "list")
theorem oth_of {K : PySem.W.Frag} {C : Addr} {t : Value} (h : oth1 K C t = true) : PySem.W.notFirst K C t = true ∧ PySem.W.kitOne K t (.ref C) = some false := by
  unfold oth1 at h
  simp only [Bool.and_eq_true, decide_eq_true_eq] at h
  exact h
theorem tyT {K : PySem.W.Frag} {H : Hp} {a : Addr} {xs : List V} (h : SqT K H a xs) : TyX K H (.ref a) (.type "tuple") := by
  rcases h with (h | ⟨o, h⟩) | ⟨o, its, n, h, hc, _⟩
  · exact .base (.tup h)
  · exact .fTuple h
  · exact .kTuple h hc
theorem tyL {K : PySem.W.Frag} {H : Hp} {a : Addr} {xs : List V} (h : SqL K H a xs) : TyX K H (.ref a) (.type "list") := by
  rcases h with (h | ⟨o, h⟩) | ⟨o, its, n, h, hc, _⟩
  · exact .base (.lst h)
  · exact .base (.frz h)
  · exact .kList h hc
/-- isinstance(x, a built-in type) -/
theorem r_isi {K : PySem.W.Frag} {H : Hp} {Q : VK} {x : V} {n : String} {t : Value} {b : Bool} (ty : TyX K H x t) (hk : PySem.W.kitOne K t (.type n) = some b) (q : Q (.bl b) H) : rIsi K [x, .ty n] H Q := ⟨x, _, t, _, b, rfl, .ty n, ty, hk, q⟩
/-- a list that stays, whether it is kept or owned -/
def RdL (K : PySem.W.Frag) (F : Hp) (M : Cells) (l : Addr) (xs : List V) : Prop := ∀ F' A H', Same F F' → Own F' (A ++ M) H' → SqL K H' l xs
theorem RdL.fr {K : PySem.W.Frag} {F : Hp} {M : Cells} {l : Addr} {xs : List V} (h : SqL K F l xs) : RdL K F M l xs := fun F' A H' s o => (s.trans o.fr).seq h
theorem RdL.mu {K : PySem.W.Frag} {F : Hp} {M : Cells} {l : Addr} {xs : List V} (h : (l, HO.lst xs) ∈ M) : RdL K F M l xs := fun F' A H' s o => SqL.of (o.mu _ (List.mem_append_right _ h))
/-! joined texts -/
theorem join_cons (a x y : Str) (r : List Str) : Txt.join a (x :: y :: r) = x ++ (a ++ Txt.join a (y :: r)) := by
  have key : ∀ (l : List Str) (u v : Array Nat), l.foldl (fun acc p => acc ++ a.cps ++ p.cps) (u ++ v) = u ++ l.foldl (fun acc p => acc ++ a.cps ++ p.cps) v := by
    intro l
    induction l with
    | nil => intro u v; rfl
    | cons z l ih =>
      intro u v
      show l.foldl _ (u ++ v ++ a.cps ++ z.cps) = u ++ l.foldl _ (v ++ a.cps ++ z.cps)
      rw [← ih, Array.append_assoc, Array.append_assoc, Array.append_assoc]
  show (⟨r.foldl _ (x.cps ++ a.cps ++ y.cps)⟩ : Str) = ⟨x.cps ++ (a.cps ++ r.foldl _ y.cps)⟩
  rw [key, Array.append_assoc]
theorem join_one (a x : Str) : Txt.join a [x] = x := rfl
end Ed

/-! ## Ed: own exceptions whose __init__ asks super() first -/
namespace Ed
open PySem PySem.Spec PyProof.Rows L2
/-! ### the head's hook: defs that close over their class -/
structure SupD where
  at_ : Str × Option Str
  name : Str
  qual : Str
  params : Arguments
  body : List Stmt
  scope : Scope
abbrev FnC : Type := Option (Str × Str × Arguments × FuncBody × Scope × Addr × List Str × Addr)
def fnC (K : PySem.W.Frag) (p : Str × Option Str) : FnC := match K.lookup (He.fAd K p) with
  | some ⟨_, _, .func fd, _⟩ => some (fd.name, fd.qualname, fd.params, fd.body, fd.scope, fd.globals, fd.closure.map Prod.fst, fd.builtins)
  | _ => none
def SupD.val (d : SupD) : FnC := some (d.name, d.qual, d.params, .stmts d.body, d.scope, mainGlobals, ["__class__"], builtinsNs)
def frY (g : Addr → Option Obj) (n : Nat) : PySem.W.Frag := He.frT g (He.asD g n ++ [cStatics])
abbrev AlY : Type := He.AlT × (Bool × List FnC)
def obsY (n : Nat) (fa : List He.Fa) (fn : List He.DefD) (su : List SupD) (ex : PySem.W.Frag → Bool) (g : Addr → Option Obj) : AlY := (He.obsT fa fn [] (frY g n), (ex (frY g n), su.map fun d => fnC (frY g n) d.at_))
def valY (fn : List He.DefD) (su : List SupD) (w : World) : AlY := (He.valT fn [] w, (true, su.map SupD.val))
structure SaysY (fa : List He.Fa) (fn : List He.DefD) (su : List SupD) (ex : PySem.W.Frag → Bool) (w : World) (K : PySem.W.Frag) : Prop where
  t : He.SaysT fa fn [] w K
  more : ex K = true
  sup : (su.map fun d => fnC K d.at_) = su.map SupD.val
def hookY (n : Nat) (fa : List He.Fa) (fn : List He.DefD) (su : List SupD) (ex : PySem.W.Frag → Bool) : PySem.W.Hook where
  α := AlY
  obs := fun s => obsY n fa fn su ex s.heap.get?
  val := fun w => valY fn su w
  says := fun w h => ∃ K : PySem.W.Frag, K.In h ∧ SaysY fa fn su ex w K
  of := fun _ _ e => ⟨_, He.frT_in, ⟨congrArg (fun z : AlY => z.1) e, congrArg (fun z : AlY => z.2.1) e, congrArg (fun z : AlY => z.2.2) e⟩⟩
  keeps := fun _ _ _ ⟨K, hK, c⟩ k => ⟨K, PySem.W.Frag.In.keeps hK k, c⟩
theorem obsY_eq {n : Nat} {fa : List He.Fa} {fn : List He.DefD} {su : List SupD} {ex : PySem.W.Frag → Bool} {g : Addr → Option Obj} {s : Shared} (h : ∀ a, g a = s.heap.get? a) : obsY n fa fn su ex g = (hookY n fa fn su ex).obs s := by
  obtain rfl : g = s.heap.get? := funext h
  rfl
theorem SaysY.def_ {fa : List He.Fa} {fn : List He.DefD} {su : List SupD} {ex : PySem.W.Frag → Bool} {w : World} {K : PySem.W.Frag} (c : SaysY fa fn su ex w K) (i : Nat) {d : SupD} (h : su[i]? = some d := by rfl) : fnC K d.at_ = d.val := by
  have e := congrArg (fun l : List FnC => l[i]?) c.sup
  simp only [List.getElem?_map, h, Option.map_some] at e
  exact Option.some.inj e
/-! ### what the written part says of such a class -/
def oexB (K : PySem.W.Frag) (C : Addr) : Bool := (match K.lookup C with
  | some ⟨oc, _, .cls ⟨_, _, mro, _, _, hd, _, _, _, _, del⟩, ⟨sl⟩⟩ => decide (oc = .type "type") && (match mro with
    | .ref c :: bm => decide (c = C) && PySem.HandSPX.refsVE bm
    | _ => false) && hd && !del && (match sl with
    | [_, _, _, _, some v, _] => decide (v = .builtin "ValueError.__new__")
    | _ => false)
  | _ => false) && decide (PySem.W.findIn K (.ref C) "__setattr__" = some (some (.builtin "object.__setattr__"))) && decide (PySem.W.subIn K (.ref C) (.type "BaseException") = some true) && decide (PySem.W.typeIn K (.ref C) = some (.type "type")) && PySem.W.keepIn K (.ref C)
theorem oex_of {K : PySem.W.Frag} {C : Addr} (h : oexB K C = true) : OexC K C := by
  unfold oexB at h
  simp only [Bool.and_eq_true, decide_eq_true_eq] at h
  obtain ⟨⟨⟨⟨h1, h2⟩, h3⟩, h4⟩, h5⟩ := h
  refine ⟨?_, h2, h3, h4, h5⟩
  split at h1
  · rename_i oc dd nm bs mro ns qn hd sn sb ab col del sl lk
    simp only [Bool.and_eq_true, decide_eq_true_eq, Bool.not_eq_true'] at h1
    obtain ⟨⟨⟨⟨rfl, h7⟩, rfl⟩, rfl⟩, h8⟩ := h1
    split at h7
    · rename_i c bm
      simp only [Bool.and_eq_true, decide_eq_true_eq] at h7
      obtain ⟨rfl, h7⟩ := h7
      split at h8
      · rename_i k0 k1 k2 k3 v k5
        have h8 : v = .builtin "ValueError.__new__" := of_decide_eq_true h8
        subst h8
        exact ⟨nm, qn, ns, bs, bm, sn, sb, ab, col, dd, k0, k1, k2, k3, k5, lk, h7⟩
      · cases h8
    · cases h7
  · cases h1
/-- a class of errors, its __init__ d -/
structure SupC (K : PySem.W.Frag) (C f : Addr) (file : Str) (d : SupD) : Prop where
  oex : OexC K C
  ini : PySem.W.findIn K (.ref C) "__init__" = some (some (.ref f))
  tI : PySem.W.typeIn K (.ref f) = some (.type "function")
  ex : ∃ (oc : Value) (od : Option Addr) (kV doc pm : Value) (an : Option Addr) (cda : Addr) (ct : Value) (osl : Array (Option Value)) (cc : Addr) (cl : Value) (cld : Option Addr) (csl : Array (Option Value)) (ccl : Value) (cdd : Option Addr) (vs : Array Value) (ccs : Array (Option Value)) (tf : Tok),
    K.lookup f = some ⟨oc, od, .func (PySem.W.ksFn d.name d.qual d.params d.body d.scope .none kV doc pm an (.ref cda) ct cc), osl⟩ ∧ PySem.W.codeIn K (.ref cda) d.qual = true ∧ K.lookup cc = some ⟨cl, cld, .cell (some (.ref C)), csl⟩ ∧ K.lookup cda = some ⟨ccl, cdd, .fields vs, ccs⟩ ∧ vs[2]? = some (.str file tf)
  sup : PySem.W.ks_superIn K C C "__init__" = some (some (.builtin "ValueError.__init__"))
  st : PySem.W.nsIn K cStatics "thirdparty.any" = some none
  sub : PySem.W.mroIn K C (.ref C) = some true
  ve : PySem.W.subIn K (.ref C) (.type "ValueError") = some true
def supB (K : PySem.W.Frag) (x file : Str) : Bool := oexB K (He.ga K x) && (decide (PySem.W.findIn K (.ref (He.ga K x)) "__init__" = some (some (.ref (He.ma K (He.ga K x) "__init__")))) && (decide (PySem.W.typeIn K (.ref (He.ma K (He.ga K x) "__init__")) = some (.type "function")) &&
  ((match K.lookup (He.ma K (He.ga K x) "__init__") with
  | some ⟨_, _, .func fd, _⟩ => decide (fd.defaults = .none) && (PySem.W.codeIn K fd.code fd.qualname && ((match fd.closure with
    | [(_, cc)] => (match K.lookup cc with
      | some ⟨_, _, .cell (some (.ref D)), _⟩ => decide (D = He.ga K x)
      | _ => false)
    | _ => false) && (match fd.code with
    | .ref cda => (match K.lookup cda with
      | some ⟨_, _, .fields vs, _⟩ => (match (vs[2]? : Option Value) with
        | some (.str z _) => decide (z = file)
        | _ => false)
      | _ => false)
    | _ => false)))
  | _ => false) && (decide (PySem.W.ks_superIn K (He.ga K x) (He.ga K x) "__init__" = some (some (.builtin "ValueError.__init__"))) && (decide (PySem.W.nsIn K cStatics "thirdparty.any" = some none) &&
    (decide (PySem.W.mroIn K (He.ga K x) (.ref (He.ga K x)) = some true) && decide (PySem.W.subIn K (.ref (He.ga K x)) (.type "ValueError") = some true)))))))
theorem sup_of {K : PySem.W.Frag} {x file : Str} {d : SupD} (hd : d.at_ = (x, some ("__init__" : Str))) (e : fnC K d.at_ = d.val) (h : supB K x file = true) : SupC K (He.ga K x) (He.ma K (He.ga K x) "__init__") file d := by
  unfold supB at h
  simp only [Bool.and_eq_true, decide_eq_true_eq] at h
  obtain ⟨h1, h2, h3, h4, h5, h6, h7, h8⟩ := h
  refine ⟨oex_of h1, h2, h3, ?_, h5, h6, h7, h8⟩
  rw [hd] at e
  unfold fnC SupD.val at e
  have ea : He.fAd K (x, some ("__init__" : Str)) = He.ma K (He.ga K x) "__init__" := rfl
  rw [ea] at e
  split at h4
  · rename_i oc od fd osl lk
    rw [lk] at e
    obtain ⟨fnm, fq, fp, fb, fsc, fg, fcl, fdf, fkw, fdoc, fpm, fan, fcode, fct, fbl⟩ := fd
    simp only [Option.some.injEq, Prod.mk.injEq] at e
    obtain ⟨rfl, rfl, rfl, rfl, rfl, rfl, e7, rfl⟩ := e
    simp only [Bool.and_eq_true, decide_eq_true_eq] at h4
    obtain ⟨rfl, k1, k2, k3⟩ := h4
    split at k2
    · rename_i nm cc
      obtain rfl : nm = "__class__" := by simpa using e7
      split at k2
      · rename_i cl cld D csl lc
        have k2 : D = He.ga K x := of_decide_eq_true k2
        subst k2
        split at k3
        · rename_i cda
          split at k3
          · rename_i ccl cdd vs ccs lcd
            split at k3
            · rename_i z tf hv
              have k3 : z = file := of_decide_eq_true k3
              subst k3
              exact ⟨oc, od, fkw, fdoc, fpm, fan, cda, fct, osl, cc, cl, cld, csl, ccl, cdd, vs, ccs, tf, lk, k1, lc, lcd, hv⟩
            · cases k3
          · cases k3
        · cases k3
      · cases k2
    · cases k2
  · cases h4
end Ed

namespace Ed
open PySem PySem.Spec PyProof.Rows L2
/-! ### a def that closes over its class: its body's context -/
structure SupScope (N P : List Str) (sc : Scope) : Prop where
  kind : sc.kind = .function
  co : sc.isCoroutine = false
  gen : sc.isGenerator = false
  nd : N.Nodup
  pre : N.take P.length = P
  par : ∀ x ∈ P, sc.names.lookup x = some .local
  nocell : ∀ y ∈ sc.names, y.2 ≠ .cell
  free : ∀ y ∈ sc.names, y.2 = .free → y.1 = "__class__"
  sup : sc.names.lookup ("super" : Str) = some .globalImplicit
  cls : sc.names.lookup ("__class__" : Str) = some .free
def cxS (CX : CXT) (P : Program) (w : World) (K : PySem.W.Frag) (mg : Str → Option Value) (base : Heap) (N : List Str) (qual : Str) (scope : Scope) (f : Addr) (cd : Value) (cc : Addr) (A : Around) (outer : List Env) (s : Shared) (H : Hp) (E : XK) : Cx where
  prog := P
  w := w
  K := K
  mg := mg
  base := base
  A := A.deeper (PySem.W.ksEnv qual scope s.heap.objs.size f cd cc)
  N := N
  s_0 := s
  H_0 := H
  env := PySem.W.ksEnv qual scope s.heap.objs.size f cd cc
  outer := outer
  stack := PySem.W.ksEnv qual scope s.heap.objs.size f cd cc :: outer
  ex := []
  calm := true
  fn := fun _ => false
  pn := []
  xe := fun e s' => wpAny (model P w) (A.deeper (PySem.W.ksEnv qual scope s.heap.objs.size f cd cc)) (leaving (PySem.W.ksEnv qual scope s.heap.objs.size f cd cc) e) (fun _ s'' => CX outer H s E e s'') (fun e' s'' => CX outer H s E e' s'') s'
theorem fst_zip {α β : Type} : ∀ (l : List α) (m : List β), ((l.zip m).map Prod.fst).Sublist l
  | [], _ => .slnil
  | a :: l, [] => by
    rw [List.zip_nil_right]
    exact List.nil_sublist _
  | a :: l, b :: m => (fst_zip l m).cons_cons a
theorem look_rev {α : Type} {x : Str} {v : α} : ∀ {ps : List Str} {us : List α} {i : Nat}, ps.Nodup → ps[i]? = some x → us[i]? = some v → (ps.zip us).reverse.lookup x = some v := by
  intro ps us i nd h1 h2
  have key : ∀ {l : List (Str × α)}, (l.map Prod.fst).Nodup → (x, v) ∈ l → l.lookup x = some v := by
    intro l
    induction l with
    | nil => intro _ h; cases h
    | cons p l ih =>
      intro nd h
      obtain ⟨y, z⟩ := p
      have nd := List.nodup_cons.mp nd
      rcases List.mem_cons.mp h with h | h
      · cases h
        simp [List.lookup]
      · have hne : x ≠ y := fun e => nd.1 (List.mem_map.mpr ⟨_, h, e⟩)
        have e : (x == y) = false := by simpa using hne
        rw [List.lookup, e]
        exact ih nd.2 h
  refine key ?_ ?_
  · rw [List.map_reverse]
    refine (List.reverse_perm _).nodup_iff.mpr ?_
    exact nd.sublist (fst_zip ps us)
  · refine List.mem_reverse.mpr (List.mem_of_getElem? (i := i) ?_)
    rw [List.getElem?_zip_eq_some.mpr]
    exact ⟨h1, h2⟩
theorem inv_sup {CX : CXT} {P : Program} {w : World} {K : PySem.W.Frag} {mg : Str → Option Value} {base : Heap} {N ps : List Str} {qual : Str} {scope : Scope} {f cc : Addr} {cd cl : Value} {cld : Option Addr} {csl : Array (Option Value)} {C : Addr} {A : Around} {outer : List Env} {s : Shared} {H : Hp} {E : XK} {us : List Value} {vs : List V} {h1 : Heap} {tk : Nat}
    (S : SupScope N ps scope) (hd : A.handled = none) (e0 : Env0 P w K mg base A outer s H) (hl : vs.length = ps.length) (r : Vals vs us) (lc : K.lookup cc = some ⟨cl, cld, .cell (some (.ref C)), csl⟩)
    (hns : h1.Ns s.heap.objs.size (fun x => (ps.zip us).reverse.lookup x)) (hk : ∀ b o, s.heap.get? b = some o → h1.get? b = some o) :
    Inv (cxS CX P w K mg base N qual scope f cd cc A outer s H E) [] (L2.start N vs) H { s with heap := h1, toks := tk } := by
  have hpl : ps.length ≤ N.length := by
    have := congrArg List.length S.pre
    rw [List.length_take] at this
    omega
  have bc := e0.mod.kin _ _ lc
  have one : ∀ x c, (PySem.W.ksEnv qual scope s.heap.objs.size f cd cc).cells.lookup x = some c → x = "__class__" ∧ c = cc := fun x c h => by
    have h : List.lookup x [(("__class__" : Str), cc)] = some c := h
    rw [List.lookup_cons] at h
    by_cases e : x = "__class__"
    · rw [beq_iff_eq.mpr e] at h
      exact ⟨e, (Option.some.inj h).symm⟩
    · rw [beq_eq_false_iff_ne.mpr e] at h
      cases h
  have noA : ∀ b : Addr, b ∉ (cxS CX P w K mg base N qual scope f cd cc A outer s H E).ex := fun b z => absurd (show b ∈ ([] : List Addr) from z) (by simp)
  refine ⟨⟨e0.mod, S.kind, rfl, rfl, Nat.le_refl _, fun y z c q1 q2 => ?_, fun y hy => ?_, fun y c q _ => ?_, fun _ => hd, Around.frames_deeper e0.frames, .inr ⟨rfl, rfl⟩, fun b z => absurd z (noA b), e0.bs, e0.bsz, fun b _ _ => noA b, fun b z => absurd z (noA b), e0.funs, e0.frf⟩,
    rfl, e0.bare, Un.kept hk, ⟨_, hns, fun i y v q1 q2 q3 => ?_⟩, fun y c h => ?_, e0.hok.fresh (Nat.le_refl _), fun y c h => ?_, fun p hp => absurd (show p ∈ ([] : List (Addr × Obj)) from hp) (by simp), e0.hok.kept hk, ?_⟩
  · rw [(one _ _ q1).1, (one _ _ q2).1]
  · have hy : scope.names.lookup y = some .cell ∨ scope.names.lookup y = some .free := hy
    rcases hy with hy | hy
    · exact absurd rfl (S.nocell _ (PySem.mem_of_lookup hy))
    · have e := S.free _ (PySem.mem_of_lookup hy) rfl
      have e : y = "__class__" := e
      subst e
      exact ⟨cc, rfl⟩
  · cases (show false = true from q)
  · have hi : i < vs.length := by
      unfold L2.start at q2
      by_cases hi : i < vs.length
      · exact hi
      · rw [List.getElem?_append_right (by simpa using hi), List.getElem?_replicate] at q2
        split at q2 <;> cases q2
    have ha : vs[i]? = some v := by
      unfold L2.start at q2
      rw [List.getElem?_append_left (by simpa using hi), List.getElem?_map] at q2
      cases e : vs[i]? with
      | none =>
        rw [e] at q2
        cases q2
      | some a =>
        rw [e] at q2
        cases q2
        rfl
    obtain ⟨u, hu, rv⟩ := r.get ha
    have hp : ps[i]? = some y := by
      rw [← S.pre, List.getElem?_take_of_lt (by omega)]
      exact q1
    have ndP : ps.Nodup := by
      rw [← S.pre]
      exact S.nd.sublist (List.take_sublist _ _)
    exact ⟨u, rv, .inl ⟨S.par y (List.mem_of_getElem? hp), look_rev ndP hp hu⟩⟩
  · obtain ⟨_, rfl⟩ := one _ _ h
    exact ⟨_, _, hk _ _ (e0.bs _ _ bc).1, rfl⟩
  · obtain ⟨_, rfl⟩ := one _ _ h
    exact (e0.bs _ _ bc).2
  · unfold L2.start
    show _ = N.length
    rw [List.length_append, List.length_map, List.length_replicate]
    omega
end Ed

namespace Ed
open PySem PySem.Spec PyProof.Rows L2
/-- ValueError.__init__, bound to the exception at a (the wrapper at u), called -/
theorem call_mw {X : Cx} {pins : List (Addr × Obj)} {σ : L2.St} {H : Hp} {s : Shared} {a C u : Addr} {us : List Value} {Q : Value → Shared → Prop} {A : Around} {E : Value → Shared → Prop} (T : OexC X.K C) (I : Inv X pins σ H s) (e : H a = some (exo a C none)) (hl : us.length ≤ sizeLine)
    (hu : s.heap.get? u = some (PySem.W.kxs_mw "ValueError.__init__" a)) (h : ∀ s', Inv X pins σ H s' → Q .none s') : wpAny (model X.prog X.w) A (call (.ref u) us) Q E s := by
  obtain ⟨nm, q, N, bs, bm, sn, sub, ab, col, dd, k0, k1, k2, k3, k5, hC, hbm⟩ := T.cls
  obtain ⟨t1, ho⟩ := exo_at I.hok e
  obtain ⟨hp, g, dr, t, os⟩ := s
  refine wpAny_call (codeAny_of_tree ?_)
  show wpAny _ A.in1 (callAny (.ref u) ⟨us, []⟩) _ _ _
  simp only [callAny]
  refine wpAny_bind (wpAny_load hu ?_)
  simp only [show (Value.type "method-wrapper" == Value.type "method" || Value.type "method-wrapper" == Value.type "builtin_function_or_method" || Value.type "method-wrapper" == Value.type "method-wrapper") = true by decide, if_true]
  refine PySem.W.KFB.if_so (by decide) ?_
  refine wpAny_bind (PySem.W.check_bound_init F.excBase_ValueError.toExcCallFacts (I.kIn _ _ hC) ho rfl ?_)
  refine wpAny_bind (wpAny_pure (wpAny_pure ?_))
  refine ⟨plainId_quiet F.excBase_ValueError.init.plain _, codeAny_builtin F.excBase_ValueError.initEntry ?_⟩
  refine PySem.W.exc_init_tree (cls := .ref C) (t0 := t1) (dv := none) (c2 := .none) (c3 := .none) (b4 := .bool false) ho hl fun h' k hx _ => ?_
  have J := I.write (t' := t) (x := a) (e := a) (o := exo a C none) (by rw [e]; exact True.intro) (.inl rfl) k ⟨_, hx⟩ (exo_ok hx)
  have eu : upd H a (exo a C none) = H := by
    funext b
    by_cases hb : b = a
    · rw [hb, upd_same, e]
    · rw [upd_ne hb]
  rw [eu] at J
  exact h _ J
/-- such an __init__, by its body: super().__init__(e), then the rest -/
theorem fn_sup {CX : CXT} {P : Program} {w : World} {K : PySem.W.Frag} {mg : Str → Option Value} {base : Heap} {k : Nat} {C f : Addr} {file : Str} {d : SupD} {N ps : List Str} {sp : Sp} {e : Expr} {rest : List Stmt} {p0 p1 p2 p3 p4 : Pos} {ar : Arg}
    (SC : SupC K C f file d) (hb0 : d.body = .Expr (.Call (.Attribute (.Call (.Name "super" p0) [] [] p1) "__init__" p2) [e] [] p3) p4 :: rest) (S : SupScope N ps d.scope) (hpar : (d.params.posonlyargs ++ d.params.args).head? = some ar) (hN : N[0]? = some ar.arg) (har : ar.arg ∈ ps)
    (hfile : (P.main.file == file) = true) (htop : (P.main.scope.names.lookup ("super" : Str)).isSome = false) (hsu : mg ("super" : Str) = none) (len : ∀ vs H Q E, sp vs H Q E → vs.length = ps.length)
    (hbind : ∀ (kV doc pm : Value) (an : Option Addr) (cda : Addr) (ct : Value) (cc : Addr) (s : Shared) (us : List Value), us.length = ps.length → BindsTo s (PySem.W.ksFn d.name d.qual d.params d.body d.scope .none kV doc pm an (.ref cda) ct cc) ⟨us, []⟩ (ps.zip us))
    (hbody : ∀ (cdv : Value) (cc : Addr) (A : Around) (outer : List Env) (s : Shared) (H : Hp) (vs : List V) (Q : VK) (E : XK), Room k (A.deeper (PySem.W.ksEnv d.qual d.scope s.heap.objs.size f cdv cc)) → sp vs H Q E →
      ∃ te t a vs', PE (cxS CX P w K mg base N d.qual d.scope f cdv cc A outer s H E) e te ∧ PSs (cxS CX P w K mg base N d.qual d.scope f cdv cc A outer s H E) rest t ∧ vs = .ref a :: vs' ∧ H a = some (exo a C none) ∧
        te (L2.start N vs) H fun x H1 => [x].length = 1 ∧ H1 a = some (exo a C none) ∧ t { nx := fun _ H' => Q .non H', rt := Q } (L2.start N vs) H1)
    (hsw : ∀ L fd cd cc, swapsWith (.Call (.Attribute (.Call (.Name "super" p0) [] [] p1) "__init__" p2) [e] [] p3) none p4.line (PySem.W.ksEnv d.qual d.scope L fd cd cc) = pure false := by intro _ _ _ _; rfl)
    {pl : Addr → Addr → Value → Addr → Sem Bool} (hev : ∀ L fd cd cc, eval (.Call (.Attribute (.Call (.Name "super" p0) [] [] p1) "__init__" p2) [e] [] p3) (PySem.W.ksEnv d.qual d.scope L fd cd cc) = (do
      let ov ← attributeBase (.Call (.Name "super" p0) [] [] p1) "__init__" (PySem.W.ksEnv d.qual d.scope L fd cd cc) (eval (.Call (.Name "super" p0) [] [] p1) (PySem.W.ksEnv d.qual d.scope L fd cd cc))
      standAt p2.atName
      let (f, first) ← holding [ov] (getMethod ov "__init__" (pl L fd cd cc))
      callWith p3 f first (backTo p3 (starEach [e] (PySem.W.ksEnv d.qual d.scope L fd cd cc))) []) := by intro _ _ _ _; rfl)
    (hst : ∀ env, starEach [e] env = (false, eval e env) :: starEach [] env := by intro _; rfl) :
    FnR P w K mg base CX (k + 1) f sp := by
  obtain ⟨oc, od, kV, doc, pm, an, cda, ct, osl, cc, cl, cld, csl, ccl, cdd, vs2, ccs, tf, lk, hcd, lc, lcd, hv2⟩ := SC.ex
  intro A outer s H us vs Q E hr e0 r hsp
  have hl := len _ _ _ _ hsp
  have KX : K.In s.heap := e0.mod.kin.keeps fun b o e => (e0.bs b o e).1
  have lim : s.heap.NoLimit := e0.mod.nolimit.keeps fun b o e => (e0.bs b o e).1
  obtain ⟨te, t, a, vs', he, ht, ev, ea, hq⟩ := hbody (.ref cda) cc A outer s H vs Q E (hr.deeper _) hsp
  refine ks_codeAny_call_defAt (fd := PySem.W.ksFn d.name d.qual d.params d.body d.scope .none kV doc pm an (.ref cda) ct cc) hr.depth (KX _ _ lk) rfl lim (PySem.W.codeRec_of KX hcd) rfl (hbind kV doc pm an cda ct cc s us (r.length.symm.trans hl)) S.nocell (fun y hy => S.par _ (List.of_mem_zip hy).1) (fun h₁ hns hk => ?_) S.co S.gen S.kind
  have I := inv_sup (CX := CX) (E := E) (qual := d.qual) (f := f) (cd := .ref cda) (tk := s.toks + (ps.zip us).length) S hr.hd e0 hl r lc hns hk
  show PySem.wpAt (model P w) (A.deeper (PySem.W.ksEnv d.qual d.scope s.heap.objs.size f (.ref cda) cc)) (.func d.body (PySem.W.ksEnv d.qual d.scope s.heap.objs.size f (.ref cda) cc)) (execs d.body (PySem.W.ksEnv d.qual d.scope s.heap.objs.size f (.ref cda) cc)) _ _ _
  rw [hb0]
  refine ks_wpAt_execs_cons (ks_wpAt_mono (E := (cxS CX P w K mg base N d.qual d.scope f (.ref cda) cc A outer s H E).xe) (Q := fun fl s' => fl = .next ∧ ∃ H1, Inv (cxS CX P w K mg base N d.qual d.scope f (.ref cda) cc A outer s H E) [] (L2.start N vs) H1 s' ∧ t { nx := fun _ H' => Q .non H', rt := Q } (L2.start N vs) H1) ?_ ?_ fun _ _ z => z)
  rotate_left
  · rintro fl s1 ⟨rfl, H1, I1, q⟩
    refine wpAt_of_wpAny (wpAny_mono (ht.run [] s1 _ H1 _ I1 q) (fun fl s' hs => ?_) fun _ _ z => z)
    have fin : ∀ {σ' : L2.St} {H' : Hp} {v : V} {u : Value}, Inv (cxS CX P w K mg base N d.qual d.scope f (.ref cda) cc A outer s H E) [] σ' H' s' → RelV v u → Q v H' → CE outer P w H s Q u s' := fun {σ' H' v u} J rv q => ⟨v, H', J.os, J.bare, J.base, J.hok, rv, q⟩
    cases fl with
    | ret u =>
      obtain ⟨v, σ', H', J, rv, q⟩ := hs
      exact fin J rv q
    | next =>
      obtain ⟨σ', H', J, q⟩ := hs
      exact fin (v := V.non) (u := Value.none) J rfl q
    | brk =>
      obtain ⟨_, _, _, q⟩ := hs
      exact False.elim q
    | cont =>
      obtain ⟨_, _, _, q⟩ := hs
      exact False.elim q
  refine ks_wpAt_Expr_any ?_ I.quiet (hsw _ _ _ _)
  refine ks_wpAt_MethodCall ?_ (hev _ _ _ _)
  have hat : (("__init__" : Str) == ("__class__" : Str)) = false := by decide
  refine ks_wpAt_super_base (fd := PySem.W.ksFn d.name d.qual d.params d.body d.scope .none kV doc pm an (.ref cda) ct cc) S.sup S.cls hat rfl (I.kIn _ _ lk) rfl hpar rfl (I.kIn _ _ lcd) rfl hv2 hfile htop ?_
  obtain ⟨mb, b1, b2⟩ := I.mod.blt
  refine PySem.W.ks_loadName_global S.kind S.sup (Calls.loadGlobal_builtin (I.mod.glob.keeps I.bk) hsu (b1.keeps I.bk) ((b2 _ (by decide)).trans (by decide +kernel)) ⟨rfl, ?_⟩)
  refine wpAny_loadName_free S.kind S.cls rfl ⟨_, I.kIn _ _ lc, rfl⟩ ?_
  obtain ⟨m, hm, hL⟩ := I.loc
  obtain ⟨u0, ru, lk0⟩ := hL 0 ar.arg (.ref a) hN (by rw [ev]; rfl) (.inl (S.par _ har))
  obtain rfl : u0 = Value.ref a := ru
  have hself : m ar.arg = some (.ref a) := by
    rcases lk0 with ⟨_, h⟩ | ⟨h, _⟩
    · exact h
    · have e1 : d.scope.names.lookup ar.arg = some .local := S.par _ har
      have h : d.scope.names.lookup ar.arg = some .cell ∨ d.scope.names.lookup ar.arg = some .free := h
      rw [e1] at h
      rcases h with h | h <;> cases h
  refine wpAny_loadName_local S.kind (S.par _ har) hm hself ?_
  obtain ⟨nm, q, N1, bs, bm, sn, sub, ab, col, dd, k0, k1, k2, k3, k5, hC, hbm⟩ := SC.oex.cls
  have hcl : PySem.W.clsIn K C = some { name := nm, bases := bs, mro := .ref C :: bm, ns := N1, qualname := q, hasDict := true, slotNames := sn, subclasses := sub, abstract := ab, collection := col, hasDel := false } := by
    unfold PySem.W.clsIn
    rw [hC] <;> rfl
  obtain ⟨t1, ho⟩ := exo_at I.hok ea
  refine ks_wpAny_isType_cls (I.kIn _ _ hC) rfl ⟨rfl, ?_⟩
  refine ks_wpAny_call_super (I.kIn _ _ hC) rfl ho rfl (fun c z => by cases z) (PySem.W.looks_mroIn I.kIn SC.sub) fun h2 hso k2' => ?_
  have I1 : Inv (cxS CX P w K mg base N d.qual d.scope f (.ref cda) cc A outer s H E) [] (L2.start N vs) H ⟨h2, s.gens, s.drawn, s.toks + (ps.zip us).length, s.os⟩ := I.kept k2'
  obtain ⟨t2, ho2⟩ := exo_at I1.hok ea
  have IA : PySem.W.InstAt h2 a { cls := .ref C, dict := none, data := .fields #[.ref t2, .none, .none, .none, .bool false, .none] } C none := ⟨ho2, rfl, rfl, trivial⟩
  have hf := SC.sup
  unfold PySem.W.ks_superIn at hf
  rw [hcl] at hf
  refine PySem.W.kxs_getMethod PySem.W.kxs_ValueError hso (PySem.W.looks_opaque I1.kIn SC.st) (l₀ := .ref C :: bm) ((PySem.W.looks_clsIn I1.kIn hcl).andThen .now) rfl I1.kIn hf (IA.type.andThen (PySem.W.looks_subIn I1.kIn SC.ve)) (PySem.W.ks_ne I1.kIn IA hcl) hat ?_
  have I2 : Inv (cxS CX P w K mg base N d.qual d.scope f (.ref cda) cc A outer s H E) [] (L2.start N vs) H ⟨h2.push (PySem.W.kxs_mw "ValueError.__init__" a), s.gens, s.drawn, s.toks + (ps.zip us).length + 1, s.os⟩ := I1.kept fun b o z => Heap.get?_push_of_some _ z
  have gu : (h2.push (PySem.W.kxs_mw "ValueError.__init__" a)).get? h2.objs.size = some (PySem.W.kxs_mw "ValueError.__init__" a) := Heap.get?_push_at rfl rfl
  have I3 := I2.pins_of (pins' := [(h2.objs.size, PySem.W.kxs_mw "ValueError.__init__" a)]) fun p hp => by
    rw [List.mem_singleton.mp hp]
    exact ⟨gu, I1.hok.fresh (Nat.le_refl _), Ne.symm (Nat.ne_of_lt I1.lt), I1.nofs (Nat.le_refl _), fun v z => by cases z⟩
  have run := (pa_cons he pa_nil (hst _)).run p3 [(h2.objs.size, PySem.W.kxs_mw "ValueError.__init__" a)] _ (L2.start N vs) H (fun ws H1 => ws.length = 1 ∧ H1 a = some (exo a C none) ∧ t { nx := fun _ H' => Q .non H', rt := Q } (L2.start N vs) H1) I3 hq
  have run2 := wpAny_mono run (Q' := fun us1 s3 => PySem.W.KxsAt "ValueError.__init__" h2.objs.size a s3.heap ∧ wpAny (model P w) (A.deeper (PySem.W.ksEnv d.qual d.scope s.heap.objs.size f (.ref cda) cc)) (call (.ref h2.objs.size) ([] ++ us1)) (fun _ s' => (Flow.next = .next ∧ ∃ H1, Inv (cxS CX P w K mg base N d.qual d.scope f (.ref cda) cc A outer s H E) [] (L2.start N vs) H1 s' ∧ t { nx := fun _ H' => Q .non H', rt := Q } (L2.start N vs) H1)) (cxS CX P w K mg base N d.qual d.scope f (.ref cda) cc A outer s H E).xe s3) (fun us1 s3 ⟨ws, H1, J, rw1, hl1, ea1, q1⟩ => by
      have hu1 := (J.pin (h2.objs.size, PySem.W.kxs_mw "ValueError.__init__" a) (List.mem_append_right _ List.mem_cons_self)).1
      refine ⟨hu1, call_mw (X := cxS CX P w K mg base N d.qual d.scope f (.ref cda) cc A outer s H E) (C := C) SC.oex J ea1 ?_ hu1 fun s4 J4 => ⟨rfl, H1, J4.pins_of fun p hp => (by cases hp), q1⟩⟩
      rw [List.nil_append, ← Paired.length rw1, hl1, sizeLine_eq]
      decide) fun _ _ z => z
  show wpAny (model P w) (A.deeper (PySem.W.ksEnv d.qual d.scope s.heap.objs.size f (.ref cda) cc)) (callWith p3 (.ref h2.objs.size) [] (backTo p3 (starEach [e] (PySem.W.ksEnv d.qual d.scope s.heap.objs.size f (.ref cda) cc))) []) _ _ _
  have run3 : wpAny (model P w) (A.deeper (PySem.W.ksEnv d.qual d.scope s.heap.objs.size f (.ref cda) cc)) (spliced (backTo p3 (starEach [e] (PySem.W.ksEnv d.qual d.scope s.heap.objs.size f (.ref cda) cc)))) _ _ _ := run2
  rw [hst] at run3 ⊢
  refine PySem.W.kxs_callWith (i := "ValueError.__init__") (x := a) rfl ?_
  exact Calls.evalArgs_plain run3
/-- C(e, ..): a new error of such a class -/
theorem pmk_sup {X : Cx} {x : Str} {C fI : Addr} {k : Nat} {sp : Sp} {e : Expr} {es : List Expr} {ta : TA} {p pos : Pos} (T : OexC X.K C) (iC : PySem.W.findIn X.K (.ref C) "__init__" = some (some (.ref fI))) (tI : PySem.W.typeIn X.K (.ref fI) = some (.type "function"))
    (G : FnR X.prog X.w X.K X.mg X.base CX0 k fI sp) (hr : Room (k + 1) X.A) (hg : Gl X x) (hm : X.mg x = some (.ref C)) (ha : PA X (e :: es) ta)
    (hdb : (x == ("__debug__" : Str)) = false := by decide) (he : starEach (e :: es) X.env = (false, eval e X.env) :: starEach es X.env := by rfl) (hpl : (backTo pos (starEach es X.env)).any (·.1) = false := by rfl) :
    PMk X (.Call (.Name x p) (e :: es) [] pos) (tMkO C sp [] ta) := by
  intro pins s σ H Q I h
  obtain ⟨nm, q, N, bs, bm, sn, sub, ab, col, dd, k0, k1, k2, k3, k5, hC, hbm⟩ := id T.cls
  refine wpAny_Call_Name_kw (ld_glob I hg hm ?_ hdb)
  refine PySem.W.callWith_K (h₀ := X.base) I.ok.mod.kin T.kC (thn (ha.run pos pins s σ H _ I h) fun us1 s1 ⟨ws, H1, I1, rws, hz, hw⟩ => ⟨I1.kIn, ?_⟩) he hpl
  show wpAny _ _ (call (.ref C) us1) _ _ _
  obtain ⟨h1, gs, dw, tk, os⟩ := s1
  have sz1 : h1.objs.size ≤ h1.objs.size + 1 := Nat.le_succ _
  have hq := hw (h1.objs.size + 1) (I1.hok.fresh sz1)
  have kp : ∀ b o, h1.get? b = some o → ((h1.push (PySem.W.kdv_tup us1)).push (PySem.HandSPX.excO C h1.objs.size)).get? b = some o := fun b o z => Heap.get?_push_of_some _ (Heap.get?_push_of_some _ z)
  have ge : ((h1.push (PySem.W.kdv_tup us1)).push (PySem.HandSPX.excO C h1.objs.size)).get? (h1.objs.size + 1) = some (PySem.HandSPX.excO C h1.objs.size) := by heap_get
  have J : Inv X pins σ (upd H1 (h1.objs.size + 1) (exo (h1.objs.size + 1) C none)) ⟨(h1.push (PySem.W.kdv_tup us1)).push (PySem.HandSPX.excO C h1.objs.size), gs, dw, tk, os⟩ :=
    I1.laid (t' := tk) (a := h1.objs.size + 1) (o := exo (h1.objs.size + 1) C none) (h' := (h1.push (PySem.W.kdv_tup us1)).push (PySem.HandSPX.excO C h1.objs.size)) kp sz1 (exo_ok ge)
  have r2 : Vals (V.ref (h1.objs.size + 1) :: (ws ++ [])) (Value.ref (h1.objs.size + 1) :: us1) := by
    rw [List.append_nil]
    exact .cons rfl rws
  have lus : us1.length ≤ sizeLine := by
    rw [← Paired.length rws, sizeLine_eq]
    omega
  refine wpAny_call (PySem.HandSPX.call_own F.excBase_ValueError (fun Y => PySem.HandSPX.refsVE_contains Y bm hbm) (I1.kIn _ _ hC) (PySem.W.looks_findIn I1.kIn iC) (fun self => PySem.W.bind_fn I1.kIn self tI) lus
    (codeAny_mono (G _ X.stack _ _ (Value.ref (h1.objs.size + 1) :: us1) _ _ (fun _ _ _ => False) (hr.make C us1 []) (J.env0.make C us1 []) r2 hq) fun r s' hq' => ?_))
  cases r with
  | error er => exact False.elim hq'
  | ok fl =>
    cases fl with
    | ret u =>
      obtain ⟨v, H2, os2, bare2, un2, hok2, rv, ev, dA, fs, ea, ed, hd1, q2⟩ := hq'
      subst ev
      obtain ⟨h2, g2, d2, t2, os'⟩ := s'
      exact ⟨rv, mk_end (raises_own T.exC T.tyC) I1 sz1 kp un2 hok2 os2 bare2 ea ed hd1 q2⟩
    | next => exact False.elim hq'
    | brk => exact False.elim hq'
    | cont => exact False.elim hq'
end Ed

namespace Ed
open PySem PySem.Spec PyProof.Rows L2
/-! ### defs that may raise -/
def sx1 (C : V → Hp → VK → XK → Prop) : Sp := fun vs H Q E => ∃ a, vs = [a] ∧ C a H Q E
def sx2 (C : V → V → Hp → VK → XK → Prop) : Sp := fun vs H Q E => ∃ a b, vs = [a, b] ∧ C a b H Q E
def sx3 (C : V → V → V → Hp → VK → XK → Prop) : Sp := fun vs H Q E => ∃ a b c, vs = [a, b, c] ∧ C a b c H Q E
def sx4 (C : V → V → V → V → Hp → VK → XK → Prop) : Sp := fun vs H Q E => ∃ a b c d, vs = [a, b, c, d] ∧ C a b c d H Q E
def sx5 (C : V → V → V → V → V → Hp → VK → XK → Prop) : Sp := fun vs H Q E => ∃ a b c d e, vs = [a, b, c, d, e] ∧ C a b c d e H Q E
section
variable {vs : List V} {H : Hp} {Q : VK} {E : XK}
theorem sx1_len {C} (h : sx1 C vs H Q E) : vs.length = 1 := by
  obtain ⟨_, rfl, _⟩ := h
  rfl
theorem sx2_len {C} (h : sx2 C vs H Q E) : vs.length = 2 := by
  obtain ⟨_, _, rfl, _⟩ := h
  rfl
theorem sx3_len {C} (h : sx3 C vs H Q E) : vs.length = 3 := by
  obtain ⟨_, _, _, rfl, _⟩ := h
  rfl
theorem sx4_len {C} (h : sx4 C vs H Q E) : vs.length = 4 := by
  obtain ⟨_, _, _, _, rfl, _⟩ := h
  rfl
theorem sx5_len {C} (h : sx5 C vs H Q E) : vs.length = 5 := by
  obtain ⟨_, _, _, _, _, rfl, _⟩ := h
  rfl
end
def Ok1x (P : Program) (w : World) (K : PySem.W.Frag) (mg : Str → Option Value) (base : Heap) (x : Str) (k : Nat) (sp : Sp) : Prop :=
  ∃ f, mg x = some (.ref f) ∧ PySem.W.keepIn K (.ref f) = true ∧ FnR P w K mg base (CX P w) k f sp
def tOwnW (sp : Sp) (W : WX) (t : TA) : TE := fun σ H Q => t σ H fun vs H1 => sp vs H1 Q fun cls d H' => W cls d σ H'
theorem run_fnW {X : Cx} {k : Nat} {f : Addr} {sp : Sp} {W : WX} {pins : List (Addr × Obj)} {σ : L2.St} {H : Hp} {s : Shared} {Q : VK} {us : List Value} {vs : List V} (F : FnR X.prog X.w X.K X.mg X.base (CX X.prog X.w) k f sp) (hr : Room k X.A) (tk : Takes X W) (I : Inv X pins σ H s) (r : Vals vs us)
    (h : sp vs H Q fun cls d H' => W cls d σ H') : wpAny (model X.prog X.w) X.A (call (.ref f) us) (EP X pins σ Q) X.xe s := by
  refine wpAny_call (codeAny_mono (F X.A X.stack s H us vs Q _ hr I.env0 r h) fun r s' hq => ?_)
  cases r with
  | error e => exact tk e s' (XE.of_call I (fun _ _ _ z => z) hq)
  | ok fl =>
    cases fl with
    | ret u => exact I.after hq
    | next => exact False.elim hq
    | brk => exact False.elim hq
    | cont => exact False.elim hq
theorem pe_ownW {X : Cx} {k : Nat} {sp : Sp} {W : WX} {x : Str} {p pos : Pos} {e : Expr} {es : List Expr} {t : TA} (G : Ok1x X.prog X.w X.K X.mg X.base x k sp) (hr : Room k X.A) (hg : Gl X x) (tk : Takes X W)
    (ha : PA X (e :: es) t) (hdb : (x == ("__debug__" : Str)) = false := by decide) (he : starEach (e :: es) X.env = (false, eval e X.env) :: starEach es X.env := by rfl) (hpl : (backTo pos (starEach es X.env)).any (·.1) = false := by rfl) :
    PE X (.Call (.Name x p) (e :: es) [] pos) (tOwnW sp W t) := by
  obtain ⟨f, hm, hk, F⟩ := G
  refine ⟨fun pins s σ H Q I h => ?_⟩
  refine wpAny_Call_Name_kw (ld_glob I hg hm ?_ hdb)
  refine PySem.W.callWith_K (h₀ := X.base) I.ok.mod.kin hk (thn (ha.run pos pins s σ H _ I h) fun us s1 ⟨vs, H1, I1, r, q⟩ => ⟨I1.kIn, ?_⟩) he hpl
  exact run_fnW F hr tk I1 r q
theorem r_ownW {sp : Sp} {W : WX} {tr : TA} {σ : L2.St} {H : Hp} {Q : VK} (h : tr σ H fun vs H1 => sp vs H1 Q fun cls d H' => W cls d σ H') : tOwnW sp W tr σ H Q := h
abbrev WofE (E : XK) : WX := fun cls d _ H => E cls d H
/-- a def that may raise, by its body -/
theorem ok1x_of {P : Program} {w : World} {K : PySem.W.Frag} {mg : Str → Option Value} {base : Heap} {x qual : Str} {params : Arguments} {body : List Stmt} {scope : Scope} {kws : List (Str × V)} {f : Addr} {fd : FuncData} {N ps : List Str} {k : Nat} {sp : Sp}
    (F : FunD K x qual params body scope [] kws f fd) (hm : mg x = some (.ref f)) (S : FnScope N ps scope) (len : ∀ vs H Q E, sp vs H Q E → vs.length = ps.length)
    (hb : ∀ (kV doc pm : Value) (an : Option Addr) (cdv ct : Value) (us : List Value), us.length = ps.length → bindArgs (PySem.W.fnOf x qual params body scope .none kV doc pm an cdv ct) ⟨us, []⟩ = pure (ps.zip us))
    (hbody : ∀ (cdv : Value) (A : Around) (outer : List Env) (s : Shared) (H : Hp) (vs : List V) (Q : VK) (E : XK), Room k (A.deeper (envOfC qual scope s.heap.objs.size f cdv)) → sp vs H Q E →
      Takes (cxOf (CX P w) P w K mg base N qual scope f cdv A outer s H E) (WofE E) → PassesOwn (model P w) (cxOf (CX P w) P w K mg base N qual scope f cdv A outer s H E).A (cxOf (CX P w) P w K mg base N qual scope f cdv A outer s H E).env (cxOf (CX P w) P w K mg base N qual scope f cdv A outer s H E).xe →
      ∃ t, PSs (cxOf (CX P w) P w K mg base N qual scope f cdv A outer s H E) body t ∧ t { nx := fun _ H' => Q .non H', rt := Q } (L2.start N vs) H) : Ok1x P w K mg base x (k + 1) sp := by
  refine ⟨f, hm, F.kp, ?_⟩
  have G := F.ok (P := P) (w := w) (mg := mg) (base := base) (CX := CX P w) S len fun cdv A outer s H vs Q E hr hsp =>
    hbody cdv A outer s H vs Q E hr hsp (takes_of rfl rfl rfl rfl) (passes_of (X := cxOf (CX P w) P w K mg base N qual scope f cdv A outer s H E) rfl)
  exact (G.raw (F.bindsN hb) .nil).imp fun vs H Q E h => by
    rw [List.append_nil]
    exact h
def tRaise (t : L2.St → Hp → XK → Prop) (W : WX) : TS := fun _ σ H => t σ H fun cls d H' => W cls d σ H'
theorem kRaise {X : Cx} {W : WX} {e : Expr} {t : L2.St → Hp → XK → Prop} {pos : Pos} (hc : X.calm = true) (tk : Takes X W) (he : PMk X e t) : PS X (.Raise (some e) none pos) (tRaise t W) := ps_raise hc tk he
theorem r_raise {t : L2.St → Hp → XK → Prop} {W : WX} {D : Ends} {σ : L2.St} {H : Hp} (h : t σ H fun cls d H' => W cls d σ H') : tRaise t W D σ H := h
theorem takes0 {X : Cx} : Takes X fun _ _ _ _ => False := fun _ _ ⟨_, _, _, _, _, _, _, _, _, _, _, _, _, _, _, _, h⟩ => h.elim
/-! ### errors made: the heap behind -/
theorem err_end {H : Hp} {a d : Addr} {e1 e2 e3 x : HO} (ha : H a = none) (ne : d ≠ a) : upd (del (upd (upd (upd H a e1) d e2) a e3) a) d x = upd H d x := by
  funext b
  by_cases hd : b = d
  · rw [hd, upd_same, upd_same]
  · rw [upd_ne hd, upd_ne hd]
    by_cases hb : b = a
    · rw [hb, del_same, ha]
    · rw [del_ne hb, upd_ne hb, upd_ne hd, upd_ne hb]
theorem upd_com {H : Hp} {a b : Addr} {x y : HO} (h : a ≠ b) : upd (upd H a x) b y = upd (upd H b y) a x := by
  funext c
  by_cases h1 : c = a
  · by_cases h2 : c = b
    · exact absurd (h1.symm.trans h2) h
    · rw [h1, upd_ne h, upd_same, upd_same]
  · by_cases h2 : c = b
    · rw [h2, upd_same, upd_ne (Ne.symm h), upd_same]
    · rw [upd_ne h2, upd_ne h1, upd_ne h1, upd_ne h2]
/-- what the making of an error asks: C's __init__ lays the fields fs in a new dict -/
def MkE (C : Addr) (sp : Sp) (vs : List V) (H : Hp) (Q : XK) : Prop := vs.length ≤ 1000 ∧ ∀ a, H a = none → sp (.ref a :: (vs ++ [])) (upd H a (exo a C none)) (fun v H2 => v = .non ∧ ∃ (d : Addr) (fs : List (Str × V)), H2 a = some (exo a C (some d)) ∧ H2 d = some (exd d fs) ∧ H d = none ∧ Q (.ref C) (some d) (upd (del H2 a) d (.xd fs))) (fun _ _ _ => False)
theorem r_mkO {C : Addr} {sp : Sp} {ta : TA} {σ : L2.St} {H : Hp} {Q : XK} (h : ta σ H fun vs H1 => MkE C sp vs H1 Q) : tMkO C sp [] ta σ H Q := h
/-- fields that are stored as they are -/
def spErr (C : Addr) (fs : List V → List (Str × V)) (n : Nat) (ok : List V → Prop) : Sp := fun vs H Q _ => ∃ a ws, vs = .ref a :: ws ∧ ws.length = n ∧ ok ws ∧ H a = some (exo a C none) ∧ ∀ d, H d = none → d ≠ a → Q .non (upd (upd H d (exd d (fs ws))) a (exo a C (some d)))
theorem mkE_plain {C : Addr} {fs : List V → List (Str × V)} {n : Nat} {ok : List V → Prop} {vs : List V} {H : Hp} {Q : XK} {F : Hp} {M : Cells} (o : Own F M H) (hn : vs.length = n) (h1 : n ≤ 1000) (hok : ok vs) (k : ∀ d H', F d = none → Own (upd F d (.xd (fs vs))) M H' → Q (.ref C) (some d) H') : MkE C (spErr C fs n ok) vs H Q := by
  refine ⟨by omega, fun a ha => ⟨a, vs, by rw [List.append_nil], hn, hok, upd_same, fun d hd ne => ⟨rfl, d, fs vs, upd_same, by rw [upd_ne ne, upd_same], ?_, ?_⟩⟩⟩
  · rw [upd_ne ne] at hd
    exact hd
  · rw [upd_ne ne] at hd
    rw [err_end ha ne]
    exact k d _ (o.free hd) (o.newF hd)
/-- one field, a list of what is handed over -/
def spErrL (K : PySem.W.Frag) (C : Addr) (f : Str) : Sp := fun vs H Q _ => ∃ a l xs, vs = [.ref a, .ref l] ∧ SqL K H l xs ∧ H a = some (exo a C none) ∧ ∀ q, H q = none → ∀ d, upd H q (.lst xs) d = none → d ≠ a → Q .non (upd (upd (upd H q (.lst xs)) d (exd d [(f, .ref q)])) a (exo a C (some d)))
theorem mkE_list {K : PySem.W.Frag} {C : Addr} {f : Str} {l : Addr} {xs : List V} {H : Hp} {Q : XK} {F : Hp} {M : Cells} (o : Own F M H) (hl : SqL K H l xs) (k : ∀ q d H', F q = none → F d = none → Own (upd F d (.xd [(f, .ref q)])) ((q, .lst xs) :: M) H' → Q (.ref C) (some d) H') : MkE C (spErrL K C f) [.ref l] H Q := by
  refine ⟨by show 1 ≤ 1000; omega, fun a ha => ⟨a, l, xs, rfl, (same_upd ha).seq hl, upd_same, fun q hq d hd ne => ?_⟩⟩
  have nqa : q ≠ a := fun z => by
    rw [z, upd_same] at hq
    cases hq
  rw [upd_ne nqa] at hq
  have hd' : upd H q (.lst xs) d = none := by
    by_cases h : d = q
    · rw [h, upd_same] at hd
      cases hd
    · rw [upd_ne h] at hd ⊢
      rw [upd_ne ne] at hd
      exact hd
  have ndq : d ≠ q := fun z => by
    rw [z, upd_same] at hd
    cases hd
  refine ⟨rfl, d, [(f, .ref q)], upd_same, by rw [upd_ne ne, upd_same], ?_, ?_⟩
  · rw [upd_ne ndq] at hd'
    exact hd'
  · rw [upd_com (Ne.symm nqa), err_end (by rw [upd_ne (Ne.symm nqa)]; exact ha) ne]
    have o1 := o.newM (x := .lst xs) hq
    exact k q d _ (o.free hq) (o1.free hd') (o1.newF hd')
end Ed

namespace Ed
open PySem PySem.Spec PyProof.Rows L2
/-! ### any, dict(pairs), insert, try -/
def rDictP (K : PySem.W.Frag) : List V → Hp → VK → Prop := fun xs H Q => ∃ (a : Addr) (ps : List Addr) (kvs : List (Key × V)), xs = [.ref a] ∧ SqL K H a (ps.map V.ref) ∧ Paired (fun p kv => SqT K H p [kV kv.1, kv.2]) ps kvs ∧ ∀ p, H p = none → Q (.ref p) (upd H p (.dK (mergeK [] kvs)))
def rInsert : V → List V → Hp → VK → Prop := fun x vs H Q => ∃ (l : Addr) (xs : List V) (i : Int) (y : V), x = .ref l ∧ vs = [.int i, y] ∧ H l = some (.lst xs) ∧ xs.length < sizeLine ∧ 0 ≤ i ∧ i < 2 ^ 63 ∧ Q .non (upd H l (.lst (xs.take i.toNat ++ [y] ++ xs.drop i.toNat)))
theorem kAny {X : Cx} (K : PySem.W.Frag) (hc : X.calm = true := by rfl) (hK : X.K = K := by rfl) : CallR X (.builtin "any") (rAny K) := by
  subst hK
  exact cr_any hc
theorem kDictP {X : Cx} (K : PySem.W.Frag) (hc : X.calm = true := by rfl) (hK : X.K = K := by rfl) : CallR X (.type "dict") (rDictP K) := by
  subst hK
  exact call_dictP hc
theorem m_insert {X : Cx} : MtR X "list.insert" rInsert := mt_insert
def tTryAs (K : PySem.W.Frag) (c : Value) (i : Nat) (tb : WX → TS) (ts : Addr → Value → Option Addr → TS) (Wout : WX) : TS := fun D σ H => tb (wAs K c i ts Wout D) D σ H
theorem kTryAs {X : Cx} (K : PySem.W.Frag) {x n : Str} {c : Value} {i : Nat} {body suite : List Stmt} {b₀ : Stmt} {np pos pos' : Pos} {tb : WX → TS} {ts : Addr → Value → Option Addr → TS} {Wout : WX}
    (hs : X.stack = X.env :: X.outer) (hf : X.env.frame = some X.env.locals) (hN : X.N.Nodup) (hi : X.N[i]? = some n) (hln : X.env.kindOf n = some .local) (hc : Names X x c) (tk : Takes X Wout)
    (hb : ∀ (W : WX) (pn : List (Addr × Obj)) (xe : Value → Shared → Prop), Takes (X.tr pn xe) W → PassesOwn (model X.prog X.w) X.A X.env xe → PSs (X.tr pn xe) body (tb W))
    (hsu : ∀ (a : Addr) (oe : Obj) (cls : Value) (d : Option Addr) (pn : List (Addr × Obj)), Zc cls d oe → (∃ vs, oe.data = .fields vs) → PSs (X.suite a ((a, oe) :: pn)) (b₀ :: suite) (ts a cls d)) (hK : X.K = K := by rfl) :
    PS X (.Try body [.ExceptHandler (some (.Name x np)) (some n) (b₀ :: suite) pos'] [] [] pos) (tTryAs K c i tb ts Wout) := by
  subst hK
  exact ps_try_as hs hf hN hi hln hc tk hb hsu
theorem r_tryAs {K : PySem.W.Frag} {c : Value} {i : Nat} {tb : WX → TS} {ts : Addr → Value → Option Addr → TS} {Wout : WX} {D : Ends} {σ : L2.St} {H : Hp} (h : tb (wAs K c i ts Wout D) D σ H) : tTryAs K c i tb ts Wout D σ H := h
/-- the clause takes it -/
theorem wAs_yes {K : PySem.W.Frag} {c : Value} {i : Nat} {ts : Addr → Value → Option Addr → TS} {Wout : WX} {D : Ends} {cls : Value} {d : Option Addr} {σ : L2.St} {H : Hp} (e : PySem.W.exmOne K cls c = some true)
    (k : ∀ a, H a = none → ts a cls d { nx := fun σ' H' => D.nx (σ'.set i none) H', rt := D.rt, bk := fun σ' H' => D.bk (σ'.set i none) H', ct := fun σ' H' => D.ct (σ'.set i none) H' } (σ.set i (some (.ref a))) H) : wAs K c i ts Wout D cls d σ H := ⟨true, e, fun _ => k, fun z => by cases z⟩
/-- .. or not -/
theorem wAs_no {K : PySem.W.Frag} {c : Value} {i : Nat} {ts : Addr → Value → Option Addr → TS} {Wout : WX} {D : Ends} {cls : Value} {d : Option Addr} {σ : L2.St} {H : Hp} (e : PySem.W.exmOne K cls c = some false) (k : Wout cls d σ H) : wAs K c i ts Wout D cls d σ H := ⟨false, e, (fun z => by cases z), fun _ => k⟩
/-! ### a raising def, with its record -/
theorem okfx_of {P : Program} {w : World} {K : PySem.W.Frag} {mg : Str → Option Value} {base : Heap} {x qual : Str} {params : Arguments} {body : List Stmt} {scope : Scope} {dvs : List V} {kws : List (Str × V)} {f : Addr} {fd : FuncData} {N ps : List Str} {k : Nat} {sp : Sp}
    (F : FunD K x qual params body scope dvs kws f fd) (S : FnScope N ps scope) (len : ∀ vs H Q E, sp vs H Q E → vs.length = ps.length)
    (hbody : ∀ (cdv : Value) (A : Around) (outer : List Env) (s : Shared) (H : Hp) (vs : List V) (Q : VK) (E : XK), Room k (A.deeper (envOfC qual scope s.heap.objs.size f cdv)) → sp vs H Q E →
      Takes (cxOf (CX P w) P w K mg base N qual scope f cdv A outer s H E) (WofE E) → PassesOwn (model P w) (cxOf (CX P w) P w K mg base N qual scope f cdv A outer s H E).A (cxOf (CX P w) P w K mg base N qual scope f cdv A outer s H E).env (cxOf (CX P w) P w K mg base N qual scope f cdv A outer s H E).xe →
      ∃ t, PSs (cxOf (CX P w) P w K mg base N qual scope f cdv A outer s H E) body t ∧ t { nx := fun _ H' => Q .non H', rt := Q } (L2.start N vs) H) : FnOk P w K mg base (CX P w) (k + 1) f fd ps sp :=
  F.ok (P := P) (w := w) (mg := mg) (base := base) (CX := CX P w) S len fun cdv A outer s H vs Q E hr hsp =>
    hbody cdv A outer s H vs Q E hr hsp (takes_of rfl rfl rfl rfl) (passes_of (X := cxOf (CX P w) P w K mg base N qual scope f cdv A outer s H E) rfl)
theorem ok1x_fn {P : Program} {w : World} {K : PySem.W.Frag} {mg : Str → Option Value} {base : Heap} {x qual : Str} {params : Arguments} {body : List Stmt} {scope : Scope} {kws : List (Str × V)} {f : Addr} {fd : FuncData} {ps : List Str} {k : Nat} {sp : Sp}
    (F : FunD K x qual params body scope [] kws f fd) (hm : mg x = some (.ref f)) (G : FnOk P w K mg base (CX P w) k f fd ps sp) (hb : ∀ (kV doc pm : Value) (an : Option Addr) (cdv ct : Value) (us : List Value), us.length = ps.length → bindArgs (PySem.W.fnOf x qual params body scope .none kV doc pm an cdv ct) ⟨us, []⟩ = pure (ps.zip us)) : Ok1x P w K mg base x k sp :=
  ⟨f, hm, F.kp, (G.raw (F.bindsN hb) .nil).imp fun vs H Q E h => by
    rw [List.append_nil]
    exact h⟩
/-- keywords alone, no default -/
theorem kbn_of {K : PySem.W.Frag} {x qual : Str} {params : Arguments} {body : List Stmt} {scope : Scope} {kws : List (Str × V)} {f : Addr} {fd : FuncData} {ps ks : List Str} (F : FunD K x qual params body scope [] kws f fd) (g : {α : Type} → List α → List α → List α) {n : Nat}
    (hrel : ∀ {vs zs : List V} {us ws : List Value}, Vals vs us → Vals zs ws → Vals (g vs zs) (g us ws))
    (h : ∀ (kV doc pm : Value) (an : Option Addr) (cdv ct : Value) (us ws : List Value), us.length = n → ws.length = ks.length → bindArgs (PySem.W.fnOf x qual params body scope .none kV doc pm an cdv ct) ⟨us, ks.zip ws⟩ = pure (ps.zip (g us ws))) : KBn K fd ps n ks (fun us ws => g us ws) (fun vs zs => g vs zs) := by
  obtain ⟨oc, od, dV, kV, doc, pm, an, cdv, ct, osl, rfl, lk, hcd, hD, hK⟩ := F.ex
  rcases hD with ⟨_, rfl⟩ | ⟨e, _⟩
  · exact ⟨fun s us ws _ l1 l2 => BindsTo.of_eq (h kV doc pm an cdv ct us ws l1 l2), fun r1 r2 => hrel r1 r2⟩
  · exact absurd rfl e
/-! ### a raising def called by keywords alone -/
def OkKx (P : Program) (w : World) (K : PySem.W.Frag) (mg : Str → Option Value) (base : Heap) (x : Str) (k : Nat) (ks : List Str) (gV : List V → List V → List V) (sp : Sp) : Prop :=
  ∃ f fd ps g, mg x = some (.ref f) ∧ PySem.W.keepIn K (.ref f) = true ∧ FnOk P w K mg base (CX P w) k f fd ps sp ∧ KBn K fd ps 0 ks g gV
def tOwnK (sp : Sp) (n : Nat) (gV : List V → List V → List V) (W : WX) (tk : TA) : TE := fun σ H Q => tk σ H fun zs H1 => zs.length = n ∧ sp (gV [] zs) H1 Q fun cls d H' => W cls d σ H'
theorem pe_ownK {X : Cx} {k : Nat} {sp : Sp} {W : WX} {x : Str} {p pos : Pos} {kws : List Keyword} {ks : List Str} {gV : List V → List V → List V} {t : TA} (G : OkKx X.prog X.w X.K X.mg X.base x k ks gV sp) (hr : Room k X.A) (hg : Gl X x) (tk : Takes X W) (hkw : PK X kws t)
    (hall : (backToKw pos (keywordEach kws X.env)).all (·.1.isSome) = true := by rfl) (hks : (backToKw pos (keywordEach kws X.env)).filterMap (·.1) = ks := by rfl) (hdb : (x == ("__debug__" : Str)) = false := by decide)
    (hpl : ((backTo pos (starEach [] X.env)).any (·.1) || (backToKw pos (keywordEach kws X.env)).any (·.1.isNone)) = false := by rfl) : PE X (.Call (.Name x p) [] kws pos) (tOwnK sp ks.length gV W t) := by
  obtain ⟨f, fd, ps, g, hm, hk, F, B⟩ := G
  refine ⟨fun pins s σ H Q I h => ?_⟩
  refine wpAny_Call_Name_kw (ld_glob I hg hm ?_ hdb)
  refine PySem.W.callWith_KW0 (h₀ := X.base) I.ok.mod.kin hk hall ?_ hpl
  refine thn (hkw.run pos pins s σ H _ I h) fun ws s2 ⟨zs, H2, I2, rz, l2, q2⟩ => ⟨I2.kIn, ?_⟩
  rw [hks]
  have r2 := B.rel (vs := []) (us := []) .nil rz
  refine wpAny_call (codeAny_mono (F.run X.A X.stack s2 H2 ⟨[], ks.zip ws⟩ (g [] ws) _ Q _ hr I2.env0 (B.to s2 [] ws I2.kIn rfl (rz.length.symm.trans l2)) r2 q2) fun r s' hq => ?_)
  cases r with
  | error e => exact tk e s' (XE.of_call I2 (fun _ _ _ z => z) hq)
  | ok fl =>
    cases fl with
    | ret u => exact I2.after hq
    | next => exact False.elim hq
    | brk => exact False.elim hq
    | cont => exact False.elim hq
theorem r_ownK {sp : Sp} {n : Nat} {gV : List V → List V → List V} {W : WX} {tk : TA} {σ : L2.St} {H : Hp} {Q : VK} (h : tk σ H fun zs H1 => zs.length = n ∧ sp (gV [] zs) H1 Q fun cls d H' => W cls d σ H') : tOwnK sp n gV W tk σ H Q := h
def rIsNo : R2 := fun x y H Q => y = .non ∧ Q (.bl (decide (x = .non))) H
def rNotNo : R2 := fun x y H Q => y = .non ∧ Q (.bl (!decide (x = .non))) H
theorem kIsN {X : Cx} : OpR X (compareOp .Is) rIsNo := op_isN
theorem kNotN {X : Cx} : OpR X (compareOp .IsNot) rNotNo := op_notN
/-! ### dicts -/
def DnB (H : Hp) (Q : VK) : Prop := ∀ p, H p = none → Q (.ref p) (upd H p (.dK []))
def DgB (x y : V) (H : Hp) (Q : VK) : Prop := ∃ a v, x = .ref a ∧ DGet H a y (some v) ∧ Q v H
def DiB (x y : V) (H : Hp) (Q : Bool → Hp → Prop) : Prop := ∃ a o, x = .ref a ∧ DGet H a y o ∧ Q o.isSome H
def DpB (x y v : V) (H : Hp) (Q : Hp → Prop) : Prop := ∃ a H4, x = .ref a ∧ DPut H a y v H4 ∧ Q H4
section
variable {K : PySem.W.Frag} {σ : L2.St} {H : Hp} {Q : VK} {D : Ends} {te ta td ty tv : TE} {tr : TA} {F : Hp} {M : Cells} {p l d : Addr} {xs : List V} {v y : V} {kvs : List (Key × V)} {k : Key} {z : Str} {n : Int} {QB : Bool → Hp → Prop}
theorem r_isN (q : Q (.bl (decide (v = .non))) H) : rIsNo v .non H Q := ⟨rfl, q⟩
theorem r_notN (q : Q (.bl (!decide (v = .non))) H) : rNotNo v .non H Q := ⟨rfl, q⟩
theorem r_dnew (h : DnB H Q) : tDNewK σ H Q := h
theorem dnew (o : Own F M H) (k : ∀ p H', F p = none → Own F ((p, .dK []) :: M) H' → Q (.ref p) H') : DnB H Q := fun p hp => k p _ (o.free hp) (o.newM hp)
theorem r_dget (h : td σ H fun x H1 => ty σ H1 fun y H2 => DgB x y H2 Q) : tDGet td ty σ H Q := h
theorem dget (h : H d = some (.dK kvs)) (hv : valV kvs (.inr z) = some v) (q : Q v H) : DgB (.ref d) (.str z) H Q := ⟨d, v, rfl, hv ▸ DGet.k (k := .inr z) h, q⟩
theorem dgetI (h : H d = some (.dK kvs)) (hv : valV kvs (.inl n) = some v) (q : Q v H) : DgB (.ref d) (.int n) H Q := ⟨d, v, rfl, hv ▸ DGet.k (k := .inl n) h, q⟩
theorem r_din (h : ty σ H fun y H1 => td σ H1 fun x H2 => DiB x y H2 fun b H3 => Q (.bl b) H3) : tDIn ty td σ H Q := by
  show ty σ H fun y H1 => td σ H1 fun x H2 => ∃ a o, x = .ref a ∧ DGet H2 a y o ∧ Q (.bl o.isSome) H2
  exact h
theorem r_dnin (h : ty σ H fun y H1 => td σ H1 fun x H2 => DiB x y H2 fun b H3 => Q (.bl (!b)) H3) : tDNotIn ty td σ H Q := by
  show ty σ H fun y H1 => td σ H1 fun x H2 => ∃ a o, x = .ref a ∧ DGet H2 a y o ∧ Q (.bl (!o.isSome)) H2
  exact h
theorem din (h : H d = some (.dK kvs)) (q : QB (valV kvs (.inr z)).isSome H) : DiB (.ref d) (.str z) H QB := ⟨d, _, rfl, DGet.k (k := .inr z) h, q⟩
theorem r_dput (h : tv σ H fun v H1 => td σ H1 fun x H2 => ty σ H2 fun y H3 => DpB x y v H3 fun H4 => D.nx σ H4) : sDPut td ty tv D σ H := h
theorem dput {R : Hp → Prop} (o : Own F M H) (i : Nat) (h : M[i]? = some (d, .dK kvs)) (hl : kvs.length < sizeLine) (k : ∀ H', Own F (M.set i (d, .dK (putK kvs (.inr z) v))) H' → R H') : DpB (.ref d) (.str z) v H R := ⟨d, _, rfl, DPut.k (k := .inr z) (o.get i h) hl, k _ (o.set i h)⟩
theorem dictP (o : Own F M H) {ps : List Addr} (hq : SqL K H l (ps.map V.ref)) (hp : Paired (fun p kv => SqT K H p [kV kv.1, kv.2]) ps kvs) (k : ∀ p H', F p = none → Own (upd F p (.dK (mergeK [] kvs))) M H' → Q (.ref p) H') : rDictP K [.ref l] H Q := ⟨l, ps, kvs, rfl, hq, hp, fun p hp => k p _ (o.free hp) (o.newF hp)⟩
theorem r_any {bs : List Bool} (h : SqL K H l (bs.map V.bl)) (q : Q (.bl (bs.any id)) H) : rAny K [.ref l] H Q := ⟨l, bs, rfl, h, q⟩
theorem r_insert (o : Own F M H) (i : Nat) (h : M[i]? = some (l, .lst xs)) {m : Nat} (hm : m ≤ 1000) (hl : xs.length < sizeLine) (k : ∀ H', Own F (M.set i (l, .lst (xs.take m ++ [y] ++ xs.drop m))) H' → Q .non H') : rInsert (.ref l) [.int (m : Int), y] H Q :=
  ⟨l, xs, (m : Int), y, rfl, rfl, o.get i h, hl, Int.natCast_nonneg m, by omega, by rw [Int.toNat_natCast]; exact k _ (o.set i h)⟩
end
end Ed

/-! ## Pu: programs over values. D: a value that is kept as it is; N: a value of which some containers are owned; an environment of slots; what a piece of text means over it. -/
namespace Pu
open PySem PySem.Spec PyProof.Rows L2 Ed
inductive D where
  | non
  | bl (b : Bool)
  | int (i : Int)
  | str (s : Str)
  | lst (xs : List D)
  | tup (xs : List D)
  | dic (kvs : List (Key × D))
  | obj (C : Str) (fs : List (Str × D))
  | exc (a : Addr) (cls : Value) (d : Option Addr) (C : Str) (fs : List (Str × D))
  | raw (v : V)
mutual
inductive Rp (K : PySem.W.Frag) (H : Hp) : V → D → Prop
  | non : Rp K H .non .non
  | bl (b : Bool) : Rp K H (.bl b) (.bl b)
  | int (i : Int) : Rp K H (.int i) (.int i)
  | str (x : Str) : Rp K H (.str x) (.str x)
  | lst {a : Addr} {xs : List V} {ds : List D} : H a = some (.lst xs) → RpAll K H xs ds → Rp K H (.ref a) (.lst ds)
  | tup {a : Addr} {xs : List V} {ds : List D} : SqT K H a xs → RpAll K H xs ds → Rp K H (.ref a) (.tup ds)
  | dic {a : Addr} {kvs : List (Key × V)} {ds : List (Key × D)} : H a = some (.dK kvs) → RpDic K H kvs ds → Rp K H (.ref a) (.dic ds)
  | obj {a dx : Addr} {C : Str} {fvs : List (Str × V)} {fs : List (Str × D)} : H a = some (.ins (He.ga K C) dx fvs) → RpFs K H fvs fs → Rp K H (.ref a) (.obj C fs)
  | exc {a d : Addr} {C : Str} {fvs : List (Str × V)} {fs : List (Str × D)} : H d = some (.xd fvs) → RpFs K H fvs fs → Rp K H (.ref a) (.exc a (.ref (He.ga K C)) (some d) C fs)
  | raw (v : V) : Rp K H v (.raw v)
inductive RpAll (K : PySem.W.Frag) (H : Hp) : List V → List D → Prop
  | nil : RpAll K H [] []
  | cons {v : V} {vs : List V} {d : D} {ds : List D} : Rp K H v d → RpAll K H vs ds → RpAll K H (v :: vs) (d :: ds)
inductive RpDic (K : PySem.W.Frag) (H : Hp) : List (Key × V) → List (Key × D) → Prop
  | nil : RpDic K H [] []
  | cons {k : Key} {v : V} {vs : List (Key × V)} {d : D} {ds : List (Key × D)} : Rp K H v d → RpDic K H vs ds → RpDic K H ((k, v) :: vs) ((k, d) :: ds)
inductive RpFs (K : PySem.W.Frag) (H : Hp) : List (Str × V) → List (Str × D) → Prop
  | nil : RpFs K H [] []
  | cons {k : Str} {v : V} {vs : List (Str × V)} {d : D} {ds : List (Str × D)} : Rp K H v d → RpFs K H vs ds → RpFs K H ((k, v) :: vs) ((k, d) :: ds)
end
mutual
theorem Rp.mono {K : PySem.W.Frag} {H H' : Hp} (s : Same H H') : ∀ {v : V} {d : D}, Rp K H v d → Rp K H' v d
  | _, _, .non => .non
  | _, _, .bl b => .bl b
  | _, _, .int i => .int i
  | _, _, .str x => .str x
  | _, _, .lst h a => .lst (s _ _ h) (RpAll.mono s a)
  | _, _, .tup h a => .tup (Same.tup s h) (RpAll.mono s a)
  | _, _, .dic h a => .dic (s _ _ h) (RpDic.mono s a)
  | _, _, .obj h a => .obj (s _ _ h) (RpFs.mono s a)
  | _, _, .exc h a => .exc (s _ _ h) (RpFs.mono s a)
  | _, _, .raw v => .raw v
theorem RpAll.mono {K : PySem.W.Frag} {H H' : Hp} (s : Same H H') : ∀ {v : List V} {d : List D}, RpAll K H v d → RpAll K H' v d
  | _, _, .nil => .nil
  | _, _, .cons h t => .cons (Rp.mono s h) (RpAll.mono s t)
theorem RpDic.mono {K : PySem.W.Frag} {H H' : Hp} (s : Same H H') : ∀ {v : List (Key × V)} {d : List (Key × D)}, RpDic K H v d → RpDic K H' v d
  | _, _, .nil => .nil
  | _, _, .cons h t => .cons (Rp.mono s h) (RpDic.mono s t)
theorem RpFs.mono {K : PySem.W.Frag} {H H' : Hp} (s : Same H H') : ∀ {v : List (Str × V)} {d : List (Str × D)}, RpFs K H v d → RpFs K H' v d
  | _, _, .nil => .nil
  | _, _, .cons h t => .cons (Rp.mono s h) (RpFs.mono s t)
end
/-! ### owned containers -/
inductive N where
  | f (d : D)
  | lst (a : Addr) (xs : List N)
  | tup (a : Addr) (xs : List N)
  | dic (a : Addr) (kvs : List (Key × N))
  | obj (a dx : Addr) (C : Str) (fs : List (Str × N))
mutual
def N.toD : N → D
  | .f d => d
  | .lst _ xs => .lst (toDs xs)
  | .tup _ xs => .tup (toDs xs)
  | .dic _ kvs => .dic (toDk kvs)
  | .obj _ _ C fs => .obj C (toDf fs)
def toDs : List N → List D
  | [] => []
  | n :: ns => n.toD :: toDs ns
def toDk : List (Key × N) → List (Key × D)
  | [] => []
  | (k, n) :: ns => (k, n.toD) :: toDk ns
def toDf : List (Str × N) → List (Str × D)
  | [] => []
  | (k, n) :: ns => (k, n.toD) :: toDf ns
end
mutual
inductive Ow (K : PySem.W.Frag) (F : Hp) : V → N → Cells → Prop
  | f {v : V} {d : D} : Rp K F v d → Ow K F v (.f d) []
  | lst {a : Addr} {vs : List V} {ns : List N} {S : Cells} : OwAll K F vs ns S → Ow K F (.ref a) (.lst a ns) ((a, .lst vs) :: S)
  | tup {a : Addr} {vs : List V} {ns : List N} {S : Cells} : F a = some (.tup vs) → OwAll K F vs ns S → Ow K F (.ref a) (.tup a ns) S
  | dic {a : Addr} {kvs : List (Key × V)} {ns : List (Key × N)} {S : Cells} : OwDic K F kvs ns S → Ow K F (.ref a) (.dic a ns) ((a, .dK kvs) :: S)
  | obj {a dx : Addr} {C : Str} {fvs : List (Str × V)} {ns : List (Str × N)} {S : Cells} : OwFs K F fvs ns S → Ow K F (.ref a) (.obj a dx C ns) ((a, .ins (He.ga K C) dx fvs) :: S)
inductive OwAll (K : PySem.W.Frag) (F : Hp) : List V → List N → Cells → Prop
  | nil : OwAll K F [] [] []
  | cons {v : V} {vs : List V} {n : N} {ns : List N} {S T : Cells} : Ow K F v n S → OwAll K F vs ns T → OwAll K F (v :: vs) (n :: ns) (S ++ T)
inductive OwDic (K : PySem.W.Frag) (F : Hp) : List (Key × V) → List (Key × N) → Cells → Prop
  | nil : OwDic K F [] [] []
  | cons {k : Key} {v : V} {vs : List (Key × V)} {n : N} {ns : List (Key × N)} {S T : Cells} : Ow K F v n S → OwDic K F vs ns T → OwDic K F ((k, v) :: vs) ((k, n) :: ns) (S ++ T)
inductive OwFs (K : PySem.W.Frag) (F : Hp) : List (Str × V) → List (Str × N) → Cells → Prop
  | nil : OwFs K F [] [] []
  | cons {k : Str} {v : V} {vs : List (Str × V)} {n : N} {ns : List (Str × N)} {S T : Cells} : Ow K F v n S → OwFs K F vs ns T → OwFs K F ((k, v) :: vs) ((k, n) :: ns) (S ++ T)
end
mutual
theorem Ow.mono {K : PySem.W.Frag} {H H' : Hp} (s : Same H H') : ∀ {v : V} {d : N} {S : Cells}, Ow K H v d S → Ow K H' v d S
  | _, _, _, .f h => .f (h.mono s)
  | _, _, _, .lst a => .lst (OwAll.mono s a)
  | _, _, _, .tup h a => .tup (s _ _ h) (OwAll.mono s a)
  | _, _, _, .dic a => .dic (OwDic.mono s a)
  | _, _, _, .obj a => .obj (OwFs.mono s a)
theorem OwAll.mono {K : PySem.W.Frag} {H H' : Hp} (s : Same H H') : ∀ {v : List V} {d : List N} {S : Cells}, OwAll K H v d S → OwAll K H' v d S
  | _, _, _, .nil => .nil
  | _, _, _, .cons h t => .cons (Ow.mono s h) (OwAll.mono s t)
theorem OwDic.mono {K : PySem.W.Frag} {H H' : Hp} (s : Same H H') : ∀ {v : List (Key × V)} {d : List (Key × N)} {S : Cells}, OwDic K H v d S → OwDic K H' v d S
  | _, _, _, .nil => .nil
  | _, _, _, .cons h t => .cons (Ow.mono s h) (OwDic.mono s t)
theorem OwFs.mono {K : PySem.W.Frag} {H H' : Hp} (s : Same H H') : ∀ {v : List (Str × V)} {d : List (Str × N)} {S : Cells}, OwFs K H v d S → OwFs K H' v d S
  | _, _, _, .nil => .nil
  | _, _, _, .cons h t => .cons (Ow.mono s h) (OwFs.mono s t)
end
/-- what stands in a heap that has the cells -/
def Has (H : Hp) (S : Cells) : Prop := ∀ c ∈ S, H c.1 = some c.2
theorem Has.left {H : Hp} {S T : Cells} (h : Has H (S ++ T)) : Has H S := fun c hc => h c (List.mem_append_left _ hc)
theorem Has.right {H : Hp} {S T : Cells} (h : Has H (S ++ T)) : Has H T := fun c hc => h c (List.mem_append_right _ hc)
mutual
theorem Ow.rp {K : PySem.W.Frag} {F H : Hp} (s : Same F H) : ∀ {v : V} {d : N} {S : Cells}, Ow K F v d S → Has H S → Rp K H v d.toD
  | _, _, _, .f h, _ => h.mono s
  | _, _, _, .lst a, c => .lst (c _ List.mem_cons_self) (OwAll.rp s a fun x hx => c x (List.mem_cons_of_mem _ hx))
  | _, _, _, .tup h a, c => .tup (SqT.of (s _ _ h)) (OwAll.rp s a c)
  | _, _, _, .dic a, c => .dic (c _ List.mem_cons_self) (OwDic.rp s a fun x hx => c x (List.mem_cons_of_mem _ hx))
  | _, _, _, .obj a, c => .obj (c _ List.mem_cons_self) (OwFs.rp s a fun x hx => c x (List.mem_cons_of_mem _ hx))
theorem OwAll.rp {K : PySem.W.Frag} {F H : Hp} (s : Same F H) : ∀ {v : List V} {d : List N} {S : Cells}, OwAll K F v d S → Has H S → RpAll K H v (toDs d)
  | _, _, _, .nil, _ => .nil
  | _, _, _, .cons h t, c => .cons (Ow.rp s h c.left) (OwAll.rp s t c.right)
theorem OwDic.rp {K : PySem.W.Frag} {F H : Hp} (s : Same F H) : ∀ {v : List (Key × V)} {d : List (Key × N)} {S : Cells}, OwDic K F v d S → Has H S → RpDic K H v (toDk d)
  | _, _, _, .nil, _ => .nil
  | _, _, _, .cons h t, c => .cons (Ow.rp s h c.left) (OwDic.rp s t c.right)
theorem OwFs.rp {K : PySem.W.Frag} {F H : Hp} (s : Same F H) : ∀ {v : List (Str × V)} {d : List (Str × N)} {S : Cells}, OwFs K F v d S → Has H S → RpFs K H v (toDf d)
  | _, _, _, .nil, _ => .nil
  | _, _, _, .cons h t, c => .cons (Ow.rp s h c.left) (OwFs.rp s t c.right)
end
/-- all cells S are kept from now on -/
def addC (F : Hp) : Cells → Hp
  | [] => F
  | c :: S => addC (upd F c.1 c.2) S
theorem fz_all {M : Cells} {H : Hp} : ∀ {S : Cells} {F : Hp}, Own F (S ++ M) H → Same F (addC F S) ∧ Own (addC F S) M H ∧ Has (addC F S) S
  | [], F, o => ⟨Same.refl _, o, fun _ h => (nomatch h)⟩
  | (p, x) :: S, F, o => by
    have n : F p = none := o.ap (p, x) List.mem_cons_self
    have o1 : Own (upd F p x) (S ++ M) H := o.fz 0
    obtain ⟨s2, o2, h2⟩ := fz_all o1
    refine ⟨(same_upd n).trans s2, o2, fun c hc => ?_⟩
    rcases List.mem_cons.mp hc with rfl | hc
    · exact s2 _ _ upd_same
    · exact h2 c hc
theorem ow_fz {K : PySem.W.Frag} {M S : Cells} {H F : Hp} {v : V} {n : N} (o : Own F (S ++ M) H) (h : Ow K F v n S) : ∃ F', Same F F' ∧ Own F' M H ∧ Rp K F' v n.toD := by
  obtain ⟨s, o2, c⟩ := fz_all o
  exact ⟨_, s, o2, h.rp s c⟩
/-! ### slots -/
structure Cu where
  R : Hp → Cells → Prop
  mono : ∀ {F F' : Hp} {S : Cells}, Same F F' → R F S → R F' S
inductive Sl where
  | fz (d : D)
  | ow (n : N)
  | cu (v : V) (c : Cu)
  | xc (a : Addr) (cls : Value) (d : Option Addr) (C : Str) (fs : List (Str × D))
def SlotR (K : PySem.W.Frag) (F : Hp) (v : V) : Sl → Cells → Prop
  | .fz d, S => S = [] ∧ Rp K F v d
  | .ow n, S => Ow K F v n S
  | .cu u c, S => v = u ∧ c.R F S
  | .xc a cls d C fs, S => S = [] ∧ Rp K F v (.exc a cls d C fs)
theorem SlotR.mono {K : PySem.W.Frag} {F F' : Hp} {v : V} {s : Sl} {S : Cells} (e : Same F F') (h : SlotR K F v s S) : SlotR K F' v s S := by
  cases s with
  | fz d => exact ⟨h.1, h.2.mono e⟩
  | ow n => exact Ow.mono e h
  | cu u c => exact ⟨h.1, c.mono e h.2⟩
  | xc a cls d C fs => exact ⟨h.1, h.2.mono e⟩
abbrev Env := List (Option Sl)
inductive Rep (K : PySem.W.Frag) (F : Hp) : L2.St → Env → Cells → Prop
  | nil : Rep K F [] [] []
  | non {o : Option V} {σ : L2.St} {e : Env} {M : Cells} : Rep K F σ e M → Rep K F (o :: σ) (none :: e) M
  | som {v : V} {s : Sl} {σ : L2.St} {e : Env} {S M : Cells} : SlotR K F v s S → Rep K F σ e M → Rep K F (some v :: σ) (some s :: e) (S ++ M)
theorem Rep.mono {K : PySem.W.Frag} {F F' : Hp} (s : Same F F') : ∀ {σ : L2.St} {e : Env} {M : Cells}, Rep K F σ e M → Rep K F' σ e M
  | _, _, _, .nil => .nil
  | _, _, _, .non h => .non (h.mono s)
  | _, _, _, .som r h => .som (r.mono s) (h.mono s)
theorem Rep.len {K : PySem.W.Frag} {F : Hp} : ∀ {σ : L2.St} {e : Env} {M : Cells}, Rep K F σ e M → σ.length = e.length
  | _, _, _, .nil => rfl
  | _, _, _, .non h => congrArg (· + 1) h.len
  | _, _, _, .som _ h => congrArg (· + 1) h.len
/-- a slot, and what may take its place -/
theorem Rep.at {K : PySem.W.Frag} {F : Hp} : ∀ {σ : L2.St} {e : Env} {M : Cells} {i : Nat} {s : Sl}, Rep K F σ e M → e[i]? = some (some s) →
    ∃ v A S B, σ[i]? = some (some v) ∧ SlotR K F v s S ∧ M = A ++ (S ++ B) ∧ ∀ F' s' v' S', Same F F' → SlotR K F' v' s' S' → Rep K F' (σ.set i (some v')) (e.set i (some s')) (A ++ (S' ++ B))
  | _, _, _, i, s, .nil, h => by cases h
  | _, _, _, 0, s, .non r, h => by cases h
  | _, _, _, i + 1, s, .non r, h => by
    obtain ⟨v, A, S, B, h1, h2, h3, h4⟩ := Rep.at r h
    exact ⟨v, A, S, B, h1, h2, h3, fun F' s' v' S' sm q => .non (h4 F' s' v' S' sm q)⟩
  | _, _, _, 0, s, .som (S := S) (M := M) q r, h => by
    cases h
    exact ⟨_, [], S, M, rfl, q, rfl, fun F' s' v' S' sm q' => Rep.som (S := S') q' (r.mono sm)⟩
  | _, _, _, i + 1, s, .som (S := S0) (M := M0) q r, h => by
    obtain ⟨v, A, S, B, h1, h2, h3, h4⟩ := Rep.at r h
    refine ⟨v, S0 ++ A, S, B, h1, h2, by rw [h3, List.append_assoc], fun F' s' v' S' sm q' => ?_⟩
    rw [List.append_assoc]
    exact .som (q.mono sm) (h4 F' s' v' S' sm q')
/-- a slot is set -/
theorem Rep.put {K : PySem.W.Frag} {F : Hp} : ∀ {σ : L2.St} {e : Env} {M : Cells} {i : Nat}, Rep K F σ e M → i < e.length →
    ∃ A S B, M = A ++ (S ++ B) ∧ ∀ F' s' v' S', Same F F' → SlotR K F' v' s' S' → Rep K F' (σ.set i (some v')) (e.set i (some s')) (A ++ (S' ++ B))
  | _, _, _, i, .nil, h => absurd h (Nat.not_lt_zero _)
  | _, _, _, 0, .non (M := M) r, h => ⟨[], [], M, rfl, fun F' s' v' S' sm q => Rep.som (S := S') q (r.mono sm)⟩
  | _, _, _, 0, .som (S := S) (M := M) q r, h => ⟨[], S, M, rfl, fun F' s' v' S' sm q' => Rep.som (S := S') q' (r.mono sm)⟩
  | _, _, _, i + 1, .non r, h => by
    obtain ⟨A, S, B, h3, h4⟩ := Rep.put r (Nat.lt_of_succ_lt_succ h)
    exact ⟨A, S, B, h3, fun F' s' v' S' sm q => .non (h4 F' s' v' S' sm q)⟩
  | _, _, _, i + 1, .som (S := S0) (M := M0) q r, h => by
    obtain ⟨A, S, B, h3, h4⟩ := Rep.put r (Nat.lt_of_succ_lt_succ h)
    refine ⟨S0 ++ A, S, B, by rw [h3, List.append_assoc], fun F' s' v' S' sm q' => ?_⟩
    rw [List.append_assoc]
    exact .som (q.mono sm) (h4 F' s' v' S' sm q')
theorem Rep.drop {K : PySem.W.Frag} {F : Hp} : ∀ {σ : L2.St} {e : Env} {M : Cells} (i : Nat), Rep K F σ e M → ∃ M', M'.Sublist M ∧ Rep K F (σ.set i none) (e.set i none) M'
  | _, _, _, _, .nil => ⟨[], .slnil, .nil⟩
  | _, _, _, 0, .non r => ⟨_, List.Sublist.refl _, .non r⟩
  | _, _, _, 0, .som (S := S) _ r => ⟨_, List.sublist_append_right S _, .non r⟩
  | _, _, _, i + 1, .non r => by
    obtain ⟨M', s, r'⟩ := r.drop i
    exact ⟨M', s, .non r'⟩
  | _, _, _, i + 1, .som (S := S) q r => by
    obtain ⟨M', s, r'⟩ := r.drop i
    exact ⟨S ++ M', (List.Sublist.refl S).append s, .som q r'⟩
/-! ### what is looked at -/
def Vw (K : PySem.W.Frag) (F : Hp) (M : Cells) (v : V) (n : N) : Prop := ∃ S, Ow K F v n S ∧ ∀ c ∈ S, c ∈ M
theorem Vw.mono {K : PySem.W.Frag} {F F' : Hp} {M : Cells} {v : V} {n : N} (s : Same F F') (h : Vw K F M v n) : Vw K F' M v n := let ⟨S, a, b⟩ := h; ⟨S, a.mono s, b⟩
theorem Vw.rp {K : PySem.W.Frag} {F H : Hp} {M M0 : Cells} {v : V} {n : N} (o : Own F (M ++ M0) H) (h : Vw K F M v n) : Rp K H v n.toD := by
  obtain ⟨S, a, b⟩ := h
  exact a.rp o.fr fun c hc => o.mu c (List.mem_append_left _ (b c hc))
theorem Vw.of {K : PySem.W.Frag} {F : Hp} {M : Cells} {v : V} {d : D} (h : Rp K F v d) : Vw K F M v (.f d) := ⟨[], .f h, fun _ z => (nomatch z)⟩
theorem Vw.f {K : PySem.W.Frag} {F : Hp} {M : Cells} {v : V} {d : D} (h : Vw K F M v (.f d)) : Rp K F v d := by
  obtain ⟨S, a, _⟩ := h
  cases a
  assumption
/-- the node in a slot -/
def Sl.node : Sl → Option N
  | .fz d => some (.f d)
  | .ow n => some n
  | .cu _ _ => none
  | .xc _ _ _ _ _ => none
def Env.node (e : Env) (i : Nat) : Option N := match e[i]? with
  | some (some s) => s.node
  | _ => none
theorem Rep.look {K : PySem.W.Frag} {F : Hp} {σ : L2.St} {e : Env} {M : Cells} {i : Nat} {n : N} (r : Rep K F σ e M) (h : e.node i = some n) : ∃ v, σ[i]? = some (some v) ∧ Vw K F M v n := by
  unfold Env.node at h
  cases q : e[i]? with
  | none =>
    rw [q] at h
    cases h
  | some o =>
    cases o with
    | none =>
      rw [q] at h
      cases h
    | some s =>
      rw [q] at h
      obtain ⟨v, A, S, B, h1, h2, h3, _⟩ := r.at q
      refine ⟨v, h1, ?_⟩
      have sub : ∀ c ∈ S, c ∈ M := fun c hc => by
        rw [h3]
        exact List.mem_append_right _ (List.mem_append_left _ hc)
      cases s with
      | fz d =>
        cases h
        exact Vw.of h2.2
      | ow n' =>
        cases h
        exact ⟨S, h2, sub⟩
      | cu u c => cases h
      | xc a cls d C fs => cases h
end Pu

/-! ## Pu: expressions without effects: their value is a function of the slots -/
namespace Pu
open PySem PySem.Spec PyProof.Rows L2 Ed
abbrev G := Env → Option N
def LG (K : PySem.W.Frag) (g : G) : TE := fun σ H Q => ∃ env F M M0 n, Rep K F σ env M ∧ Own F (M ++ M0) H ∧ g env = some n ∧ ∀ v F' H', Same F F' → Own F' (M ++ M0) H' → Vw K F' M v n → Q v H'
def PD (X : Cx) (K : PySem.W.Frag) (e : Expr) (g : G) : Prop := X.K = K → PE X e (LG K g)
theorem pe_imp {X : Cx} {e : Expr} {t t' : TE} (h : PE X e t) (i : ∀ σ H Q, t' σ H Q → t σ H Q) : PE X e t' := ⟨fun pins s σ H Q I q => h.run pins s σ H Q I (i σ H Q q)⟩
theorem pt_imp {X : Cx} {e : Expr} {t t' : TT} (h : PT X e t) (i : ∀ σ H Q, t' σ H Q → t σ H Q) : PT X e t' := ⟨fun pins s σ H Q I q => h.run pins s σ H Q I (i σ H Q q)⟩
theorem pa_imp {X : Cx} {e : List Expr} {t t' : TA} (h : PA X e t) (i : ∀ σ H Q, t' σ H Q → t σ H Q) : PA X e t' := ⟨fun pos pins s σ H Q I q => h.run pos pins s σ H Q I (i σ H Q q)⟩
theorem ps_imp {X : Cx} {e : Stmt} {t t' : TS} (h : PS X e t) (i : ∀ D σ H, t' D σ H → t D σ H) : PS X e t' := ⟨fun pins s σ H D I q => h.run pins s σ H D I (i D σ H q)⟩
theorem pss_imp {X : Cx} {e : List Stmt} {t t' : TS} (h : PSs X e t) (i : ∀ D σ H, t' D σ H → t D σ H) : PSs X e t' := ⟨fun pins s σ H D I q => h.run pins s σ H D I (i D σ H q)⟩
/-! ### names, constants -/
def gVar (i : Nat) : G := fun env => env.node i
def gC (d : D) : G := fun _ => some (.f d)
section
variable {X : Cx} {K : PySem.W.Frag} {e a b c : Expr} {ga gb gc : G} {pos : Pos}
theorem pd_var {i : Nat} (h : PE X e (tVar i)) : PD X K e (gVar i) := fun _ => pe_imp h fun σ H Q ⟨env, F, M, M0, n, r, o, hg, k⟩ => by
  obtain ⟨v, hv, w⟩ := r.look hg
  exact ⟨v, hv, k v F H (Same.refl _) o w⟩
theorem pd_c {v : V} {d : D} (h : PE X e (tC v)) (hr : ∀ F, Rp K F v d) : PD X K e (gC d) := fun _ => pe_imp h fun σ H Q ⟨env, F, M, M0, n, r, o, hg, k⟩ => by
  cases hg
  exact k v F H (Same.refl _) o (Vw.of (hr F))
theorem pd_int {i : Int} {j pos} : PD X K (.Constant (.int i) j pos) (gC (.int i)) := pd_c pe_int fun _ => .int i
theorem pd_str {i : Str} {j pos} : PD X K (.Constant (.str i) j pos) (gC (.str i)) := pd_c pe_str fun _ => .str i
theorem pd_bl {i : Bool} {j pos} : PD X K (.Constant (.bool i) j pos) (gC (.bl i)) := pd_c pe_bl fun _ => .bl i
theorem pd_non {j pos} : PD X K (.Constant .none j pos) (gC .non) := pd_c pe_non fun _ => .non
/-! ### operators -/
structure S2 (K : PySem.W.Frag) (r : R2) (o : N → N → Option N) : Prop where
  run : ∀ {F : Hp} {M M0 : Cells} {H : Hp} {v1 v2 : V} {n1 n2 n : N} {Q : VK}, Own F (M ++ M0) H → Vw K F M v1 n1 → Vw K F M v2 n2 → o n1 n2 = some n →
  (∀ v F' H', Same F F' → Own F' (M ++ M0) H' → Vw K F' M v n → Q v H') → r v1 v2 H Q
structure S1 (K : PySem.W.Frag) (r : V → Hp → VK → Prop) (o : N → Option N) : Prop where
  run : ∀ {F : Hp} {M M0 : Cells} {H : Hp} {v1 : V} {n1 n : N} {Q : VK}, Own F (M ++ M0) H → Vw K F M v1 n1 → o n1 = some n →
  (∀ v F' H', Same F F' → Own F' (M ++ M0) H' → Vw K F' M v n → Q v H') → r v1 H Q
def gOp (o : N → N → Option N) (a b : G) : G := fun env => match a env, b env with
  | some x, some y => o x y
  | _, _ => none
def gUn (o : N → Option N) (a : G) : G := fun env => match a env with
  | some x => o x
  | _ => none
theorem gOp_some {o : N → N → Option N} {a b : G} {env : Env} {n : N} (h : gOp o a b env = some n) : ∃ x y, a env = some x ∧ b env = some y ∧ o x y = some n := by
  unfold gOp at h
  cases ea : a env with
  | none =>
    rw [ea] at h
    cases h
  | some x =>
    cases eb : b env with
    | none =>
      rw [ea, eb] at h
      cases h
    | some y =>
      rw [ea, eb] at h
      exact ⟨x, y, rfl, rfl, h⟩
theorem gUn_some {o : N → Option N} {a : G} {env : Env} {n : N} (h : gUn o a env = some n) : ∃ x, a env = some x ∧ o x = some n := by
  unfold gUn at h
  cases ea : a env with
  | none =>
    rw [ea] at h
    cases h
  | some x =>
    rw [ea] at h
    exact ⟨x, rfl, h⟩
theorem lg_op {r : R2} {o : N → N → Option N} (s : S2 K r o) : ∀ σ H Q, LG K (gOp o ga gb) σ H Q → tOp r (LG K ga) (LG K gb) σ H Q := fun σ H Q ⟨env, F, M, M0, n, rp, o, hg, k⟩ => by
  obtain ⟨x, y, h1, h2, h3⟩ := gOp_some hg
  refine ⟨env, F, M, M0, x, rp, o, h1, fun v F1 H1 s1 o1 w1 => ⟨env, F1, M, M0, y, rp.mono s1, o1, h2, fun u F2 H2 s2 o2 w2 => ?_⟩⟩
  exact s.run o2 (w1.mono s2) w2 h3 fun z F' H' s' o' w' => k z F' H' (s1.trans (s2.trans s')) o' w'
theorem lg_un {r : V → Hp → VK → Prop} {o : N → Option N} (s : S1 K r o) : ∀ σ H Q, LG K (gUn o ga) σ H Q → tUn r (LG K ga) σ H Q := fun σ H Q ⟨env, F, M, M0, n, rp, o, hg, k⟩ => by
  obtain ⟨x, h1, h3⟩ := gUn_some hg
  refine ⟨env, F, M, M0, x, rp, o, h1, fun v F1 H1 s1 o1 w1 => ?_⟩
  exact s.run o1 w1 h3 fun z F' H' s' o' w' => k z F' H' (s1.trans s') o' w'
theorem pd_bin {op : Operator} {r : R2} {o : N → N → Option N} (h : OpR X (binaryOp op) r) (s : S2 K r o) (ha : PD X K a ga) (hb : PD X K b gb) : PD X K (.BinOp a op b pos) (gOp o ga gb) := fun hK => pe_imp (pe_op h (ha hK) (hb hK)) (lg_op s)
theorem pd_cmp {op : CmpOp} {r : R2} {o : N → N → Option N} (h : OpR X (compareOp op) r) (s : S2 K r o) (ha : PD X K a ga) (hb : PD X K b gb) (hm : behindInMarks op b = false) : PD X K (.Compare a [op] [b] pos) (gOp o ga gb) := fun hK => pe_imp (pe_cmpR h (ha hK) (hb hK) hm) (lg_op s)
theorem pd_un {op : UnaryOp} {r : V → Hp → VK → Prop} {o : N → Option N} (h : UnR X (unaryOp op) r) (s : S1 K r o) (ha : PD X K a ga) : PD X K (.UnaryOp op a pos) (gUn o ga) := fun hK => pe_imp (pe_un h (ha hK)) (lg_un s)
theorem pd_ix {r : R2} {o : N → N → Option N} (h : IxR X r) (s : S2 K r o) (ha : PD X K a ga) (hb : PD X K b gb) (hs : PlainIx b) : PD X K (.Subscript a b pos) (gOp o ga gb) := fun hK => pe_imp (pe_ix h (ha hK) (hb hK) hs) (lg_op s)
/-- of readings, either -/
theorem OpR.or {f : Value → Value → Sem Value} {r r' : R2} (h : OpR X f r) (h' : OpR X f r') : OpR X f (fun x y H Q => r x y H Q ∨ r' x y H Q) := fun pins s σ H x y v u Q I rx ry q => q.elim (h pins s σ H x y v u Q I rx ry) (h' pins s σ H x y v u Q I rx ry)
theorem IxR.or {r r' : R2} (h : IxR X r) (h' : IxR X r') : IxR X (fun x y H Q => r x y H Q ∨ r' x y H Q) := fun va sl pins s σ H x y v u Q I rx ry q z => q.elim (fun q => h va sl pins s σ H x y v u Q I rx ry q z) (fun q => h' va sl pins s σ H x y v u Q I rx ry q z)
end
/-! ### flat values -/
def flatD : D → Bool
  | .non => true
  | .bl _ => true
  | .int _ => true
  | .str _ => true
  | _ => false
def D.v : D → V
  | .bl b => .bl b
  | .int i => .int i
  | .str s => .str s
  | _ => .non
theorem flat_rp {K : PySem.W.Frag} {H : Hp} {v : V} {d : D} (h : Rp K H v d) (f : flatD d = true) : v = d.v := by
  cases h <;> first | rfl | cases f
theorem rp_flat {K : PySem.W.Frag} {H : Hp} {d : D} (f : flatD d = true) : Rp K H d.v d := by
  cases d <;> first | exact .non | exact .bl _ | exact .int _ | exact .str _ | cases f
theorem flatV_v {d : D} : flatV d.v = true := by cases d <;> rfl
/-- an operator on flat values whose result is flat -/
def fOp (o : D → D → Option D) : N → N → Option N := fun x y => (o x.toD y.toD).map N.f
def fUn (o : D → Option D) : N → Option N := fun x => (o x.toD).map N.f
theorem s2_flat {K : PySem.W.Frag} {r : R2} {o : D → D → Option D} (h : ∀ (H : Hp) (v1 v2 : V) (d1 d2 d : D) (Q : VK), Rp K H v1 d1 → Rp K H v2 d2 → o d1 d2 = some d → flatD d = true ∧ (Q d.v H → r v1 v2 H Q)) : S2 K r (fOp o) := by
  refine ⟨fun {F M M0 H v1 v2 n1 n2 n Q} ow w1 w2 ho k => ?_⟩
  unfold fOp at ho
  cases e : o n1.toD n2.toD with
  | none =>
    rw [e] at ho
    cases ho
  | some d =>
    rw [e] at ho
    cases ho
    obtain ⟨f, q⟩ := h H v1 v2 _ _ d Q (w1.rp ow) (w2.rp ow) e
    exact q (k d.v F H (Same.refl _) ow (Vw.of (rp_flat f)))
theorem s1_flat {K : PySem.W.Frag} {r : V → Hp → VK → Prop} {o : D → Option D} (h : ∀ (H : Hp) (v1 : V) (d1 d : D) (Q : VK), Rp K H v1 d1 → o d1 = some d → flatD d = true ∧ (Q d.v H → r v1 H Q)) : S1 K r (fUn o) := by
  refine ⟨fun {F M M0 H v1 n1 n Q} ow w1 ho k => ?_⟩
  unfold fUn at ho
  cases e : o n1.toD with
  | none =>
    rw [e] at ho
    cases ho
  | some d =>
    rw [e] at ho
    cases ho
    obtain ⟨f, q⟩ := h H v1 _ d Q (w1.rp ow) e
    exact q (k d.v F H (Same.refl _) ow (Vw.of (rp_flat f)))
/-! ints and texts -/
def iOp (g : Int → Int → D) : D → D → Option D
  | .int i, .int j => some (g i j)
  | _, _ => none
def iOpC (C : Int → Int → Prop) [∀ i j, Decidable (C i j)] (g : Int → Int → D) : D → D → Option D
  | .int i, .int j => if C i j then some (g i j) else none
  | _, _ => none
theorem iOp_some {g : Int → Int → D} {x y d : D} (h : iOp g x y = some d) : ∃ i j, x = .int i ∧ y = .int j ∧ d = g i j := by
  unfold iOp at h
  split at h
  · cases h
    exact ⟨_, _, rfl, rfl, rfl⟩
  · cases h
theorem iOpC_some {C : Int → Int → Prop} [∀ i j, Decidable (C i j)] {g : Int → Int → D} {x y d : D} (h : iOpC C g x y = some d) : ∃ i j, x = .int i ∧ y = .int j ∧ C i j ∧ d = g i j := by
  unfold iOpC at h
  split at h
  · split at h
    · cases h
      exact ⟨_, _, rfl, rfl, by assumption, rfl⟩
    · cases h
  · cases h
theorem s2_int {K : PySem.W.Frag} {g : Int → Int → D} (hf : ∀ i j, flatD (g i j) = true) : S2 K (rI0 fun i j => (g i j).v) (fOp (iOp g)) := s2_flat fun H v1 v2 d1 d2 d Q r1 r2 e => by
  obtain ⟨i, j, rfl, rfl, rfl⟩ := iOp_some e
  cases r1
  cases r2
  exact ⟨hf _ _, fun q => ⟨i, j, rfl, rfl, q⟩⟩
theorem s2_intC {K : PySem.W.Frag} {C : Int → Int → Prop} [∀ i j, Decidable (C i j)] {C' : Int → Int → Prop} (hC : ∀ i j, C i j → C' i j) {g : Int → Int → D} (hf : ∀ i j, flatD (g i j) = true) : S2 K (rI C' fun i j => (g i j).v) (fOp (iOpC C g)) := s2_flat fun H v1 v2 d1 d2 d Q r1 r2 e => by
  obtain ⟨i, j, rfl, rfl, c, rfl⟩ := iOpC_some e
  cases r1
  cases r2
  exact ⟨hf _ _, fun q => ⟨i, j, rfl, rfl, hC _ _ c, q⟩⟩
def addD : D → D → Option D
  | .int i, .int j => some (.int (i + j))
  | .str a, .str b => if a.length + b.length ≤ sizeLine then some (.str (a ++ b)) else none
  | _, _ => none
theorem s2_add {K : PySem.W.Frag} : S2 K (fun x y H Q => rI0 (fun i j => V.int (i + j)) x y H Q ∨ Ed.rCatS x y H Q) (fOp addD) := s2_flat fun H v1 v2 d1 d2 d Q r1 r2 e => by
  unfold addD at e
  split at e
  · cases e
    cases r1
    cases r2
    exact ⟨rfl, fun q => .inl ⟨_, _, rfl, rfl, q⟩⟩
  · split at e
    · rename_i hl
      cases e
      cases r1
      cases r2
      exact ⟨rfl, fun q => .inr ⟨_, _, rfl, rfl, hl, q⟩⟩
    · cases e
  · cases e
def ltD : D → D → Option D := iOp fun i j => .bl (decide (i < j))
def leD : D → D → Option D := iOp fun i j => .bl (decide (i ≤ j))
def gtD : D → D → Option D := iOp fun i j => .bl (decide (i > j))
def geD : D → D → Option D := iOp fun i j => .bl (decide (i ≥ j))
def subD : D → D → Option D := iOp fun i j => .int (i - j)
def mulD : D → D → Option D := iOpC (fun i j => (-(2 ^ 64) < i ∧ i < 2 ^ 64) ∨ (-(2 ^ 64) < j ∧ j < 2 ^ 64)) fun i j => .int (i * j)
def modD : D → D → Option D := iOpC (fun _ j => 0 < j) fun i j => .int (i % j)
def fdivD : D → D → Option D := iOpC (fun _ j => 0 < j ∧ j < 2 ^ 120) fun i j => .int (i / j)
def powD : D → D → Option D := iOpC (fun i j => 0 ≤ j ∧ j ≤ 1000000 ∧ i.natAbs < 2 ^ 64) fun i j => .int (i ^ j.toNat)
def shlD : D → D → Option D := iOpC (fun i j => 0 ≤ j ∧ j ≤ 1000000 ∧ i.natAbs < 2 ^ 64) fun i j => .int (i * 2 ^ j.toNat)
def andD : D → D → Option D := iOp fun i j => .int (Builtin.bitAnd i j)
def negD : D → Option D
  | .int i => some (.int (-i))
  | _ => none
section
variable {X : Cx} {K : PySem.W.Frag} {a b : Expr} {ga gb : G} {pos : Pos}
theorem pd_add (ha : PD X K a ga) (hb : PD X K b gb) : PD X K (.BinOp a .Add b pos) (gOp (fOp addD) ga gb) := pd_bin (OpR.or op_add o_catS) s2_add ha hb
theorem pd_sub (ha : PD X K a ga) (hb : PD X K b gb) : PD X K (.BinOp a .Sub b pos) (gOp (fOp subD) ga gb) := pd_bin op_sub (s2_int (g := fun i j => .int (i - j)) fun _ _ => rfl) ha hb
theorem pd_mul (ha : PD X K a ga) (hb : PD X K b gb) : PD X K (.BinOp a .Mult b pos) (gOp (fOp mulD) ga gb) := pd_bin op_mul (s2_intC (C := fun i j => (-(2 ^ 64) < i ∧ i < 2 ^ 64) ∨ (-(2 ^ 64) < j ∧ j < 2 ^ 64)) (g := fun i j => .int (i * j)) (fun i j h => h) fun _ _ => rfl) ha hb
theorem pd_mod (ha : PD X K a ga) (hb : PD X K b gb) : PD X K (.BinOp a .Mod b pos) (gOp (fOp modD) ga gb) := pd_bin op_mod (s2_intC (g := fun i j => .int (i % j)) (fun i j h => h) fun _ _ => rfl) ha hb
theorem pd_fdiv (ha : PD X K a ga) (hb : PD X K b gb) : PD X K (.BinOp a .FloorDiv b pos) (gOp (fOp fdivD) ga gb) := pd_bin op_fdivW (s2_intC (g := fun i j => .int (i / j)) (fun i j h => cdivW_of h.1 h.2) fun _ _ => rfl) ha hb
theorem pd_pow (ha : PD X K a ga) (hb : PD X K b gb) : PD X K (.BinOp a .Pow b pos) (gOp (fOp powD) ga gb) := pd_bin op_pow (s2_intC (C := fun i j => 0 ≤ j ∧ j ≤ 1000000 ∧ i.natAbs < 2 ^ 64) (g := fun i j => .int (i ^ j.toNat)) (fun i j h => h) fun _ _ => rfl) ha hb
theorem pd_shl (ha : PD X K a ga) (hb : PD X K b gb) : PD X K (.BinOp a .LShift b pos) (gOp (fOp shlD) ga gb) := pd_bin op_shl (s2_intC (C := fun i j => 0 ≤ j ∧ j ≤ 1000000 ∧ i.natAbs < 2 ^ 64) (g := fun i j => .int (i * 2 ^ j.toNat)) (fun i j h => h) fun _ _ => rfl) ha hb
theorem pd_and2 (ha : PD X K a ga) (hb : PD X K b gb) : PD X K (.BinOp a .BitAnd b pos) (gOp (fOp andD) ga gb) := pd_bin op_and (s2_int (g := fun i j => .int (Builtin.bitAnd i j)) fun _ _ => rfl) ha hb
theorem pd_neg (ha : PD X K a ga) : PD X K (.UnaryOp .USub a pos) (gUn (fUn negD) ga) := pd_un un_neg (s1_flat fun H v1 d1 d Q r1 e => by
  unfold negD at e
  split at e
  · cases e
    cases r1
    exact ⟨rfl, fun q => ⟨_, rfl, q⟩⟩
  · cases e) ha
theorem pd_lt (ha : PD X K a ga) (hb : PD X K b gb) : PD X K (.Compare a [.Lt] [b] pos) (gOp (fOp ltD) ga gb) := pd_cmp op_lt (s2_int (g := fun i j => .bl (decide (i < j))) fun _ _ => rfl) ha hb (nobehind _ (by decide) (by decide))
theorem pd_le (ha : PD X K a ga) (hb : PD X K b gb) : PD X K (.Compare a [.LtE] [b] pos) (gOp (fOp leD) ga gb) := pd_cmp op_le (s2_int (g := fun i j => .bl (decide (i ≤ j))) fun _ _ => rfl) ha hb (nobehind _ (by decide) (by decide))
theorem pd_gt (ha : PD X K a ga) (hb : PD X K b gb) : PD X K (.Compare a [.Gt] [b] pos) (gOp (fOp gtD) ga gb) := pd_cmp op_gt (s2_int (g := fun i j => .bl (decide (i > j))) fun _ _ => rfl) ha hb (nobehind _ (by decide) (by decide))
theorem pd_ge (ha : PD X K a ga) (hb : PD X K b gb) : PD X K (.Compare a [.GtE] [b] pos) (gOp (fOp geD) ga gb) := pd_cmp op_ge (s2_int (g := fun i j => .bl (decide (i ≥ j))) fun _ _ => rfl) ha hb (nobehind _ (by decide) (by decide))
end
end Pu

namespace Pu
open PySem PySem.Spec PyProof.Rows L2 Ed
/-! ### lists of values -/
section
variable {K : PySem.W.Frag} {F H : Hp} {M : Cells}
theorem RpAll.len : ∀ {vs : List V} {ds : List D}, RpAll K H vs ds → vs.length = ds.length
  | _, _, .nil => rfl
  | _, _, .cons _ t => congrArg (· + 1) t.len
theorem RpAll.get : ∀ {vs : List V} {ds : List D} {i : Nat} {d : D}, RpAll K H vs ds → ds[i]? = some d → ∃ v, vs[i]? = some v ∧ Rp K H v d
  | _, _, i, d, .nil, h => by cases h
  | _, _, 0, d, .cons a t, h => by
    cases h
    exact ⟨_, rfl, a⟩
  | _, _, i + 1, d, .cons a t, h => RpAll.get (i := i) t h
theorem RpAll.getV : ∀ {vs : List V} {ds : List D} {i : Nat} {v : V}, RpAll K H vs ds → vs[i]? = some v → ∃ d, ds[i]? = some d ∧ Rp K H v d
  | _, _, i, d, .nil, h => by cases h
  | _, _, 0, d, .cons a t, h => by
    cases h
    exact ⟨_, rfl, a⟩
  | _, _, i + 1, d, .cons a t, h => RpAll.getV (i := i) t h
theorem RpAll.app : ∀ {vs ws : List V} {ds es : List D}, RpAll K H vs ds → RpAll K H ws es → RpAll K H (vs ++ ws) (ds ++ es)
  | _, _, _, _, .nil, h => h
  | _, _, _, _, .cons a t, h => .cons a (t.app h)
theorem RpAll.drop : ∀ {vs : List V} {ds : List D} (n : Nat), RpAll K H vs ds → RpAll K H (vs.drop n) (ds.drop n)
  | _, _, 0, h => h
  | _, _, n + 1, .nil => .nil
  | _, _, n + 1, .cons a t => t.drop n
theorem RpAll.take : ∀ {vs : List V} {ds : List D} (n : Nat), RpAll K H vs ds → RpAll K H (vs.take n) (ds.take n)
  | _, _, 0, h => .nil
  | _, _, n + 1, .nil => .nil
  | _, _, n + 1, .cons a t => .cons a (t.take n)
theorem RpAll.erase : ∀ {vs : List V} {ds : List D} (n : Nat), RpAll K H vs ds → RpAll K H (vs.eraseIdx n) (ds.eraseIdx n)
  | _, _, 0, .nil => .nil
  | _, _, n + 1, .nil => .nil
  | _, _, 0, .cons a t => t
  | _, _, n + 1, .cons a t => .cons a (t.erase n)
theorem RpAll.set : ∀ {vs : List V} {ds : List D} (n : Nat) {v : V} {d : D}, RpAll K H vs ds → Rp K H v d → RpAll K H (vs.set n v) (ds.set n d)
  | _, _, 0, _, _, .nil, _ => .nil
  | _, _, n + 1, _, _, .nil, _ => .nil
  | _, _, 0, _, _, .cons a t, h => .cons h t
  | _, _, n + 1, _, _, .cons a t, h => .cons a (t.set n h)
theorem RpAll.rev : ∀ {vs : List V} {ds : List D}, RpAll K H vs ds → RpAll K H vs.reverse ds.reverse
  | _, _, .nil => .nil
  | _, _, .cons a t => by
    rw [List.reverse_cons, List.reverse_cons]
    exact t.rev.app (.cons a .nil)
theorem RpAll.cut {vs : List V} {ds : List D} (lo hi : Option Int) (h : RpAll K H vs ds) : RpAll K H (cutV vs lo hi) (cutL ds lo hi) := by
  rw [cutV_eq]
  unfold cutL
  rw [h.len]
  exact (h.drop _).take _
theorem RpAll.at {vs : List V} {ds : List D} {i : Int} {d : D} (h : RpAll K H vs ds) (e : atI ds i = some d) : ∃ v, atI vs i = some v ∧ Rp K H v d := by
  unfold atI at e ⊢
  rw [h.len]
  cases q : L2.ixN ds.length i with
  | none =>
    rw [q] at e
    cases e
  | some j =>
    rw [q] at e
    exact h.get e
/-- owned, the items kept -/
def ol (a : Addr) (ds : List D) : N := .lst a (ds.map N.f)
theorem toDs_f : ∀ (ds : List D), toDs (ds.map N.f) = ds
  | [] => rfl
  | d :: ds => by
    show d :: toDs (ds.map N.f) = _
    rw [toDs_f ds]
theorem ol_toD (a : Addr) (ds : List D) : (ol a ds).toD = .lst ds := congrArg D.lst (toDs_f ds)
theorem owAll_f : ∀ {vs : List V} {ds : List D}, RpAll K F vs ds → OwAll K F vs (ds.map N.f) []
  | _, _, .nil => .nil
  | _, _, .cons a t => OwAll.cons (S := []) (T := []) (.f a) (owAll_f t)
theorem owAll_inv : ∀ {vs : List V} {ds : List D} {S : Cells}, OwAll K F vs (ds.map N.f) S → S = [] ∧ RpAll K F vs ds
  | _, [], _, .nil => ⟨rfl, .nil⟩
  | _, d :: ds, _, .cons a t => by
    obtain ⟨rfl, r⟩ := owAll_inv t
    cases a with
    | f a => exact ⟨rfl, .cons a r⟩
theorem ow_ol {a : Addr} {vs : List V} {ds : List D} (h : RpAll K F vs ds) : Ow K F (.ref a) (ol a ds) [(a, .lst vs)] := .lst (owAll_f h)
theorem ol_inv {a : Addr} {v : V} {ds : List D} {S : Cells} (h : Ow K F v (ol a ds) S) : ∃ vs, v = .ref a ∧ S = [(a, .lst vs)] ∧ RpAll K F vs ds := by
  cases h with
  | lst h =>
    obtain ⟨rfl, r⟩ := owAll_inv h
    exact ⟨_, rfl, rfl, r⟩
theorem OwAll.get : ∀ {vs : List V} {ns : List N} {S : Cells} {i : Nat} {n : N}, OwAll K F vs ns S → ns[i]? = some n → ∃ v T, vs[i]? = some v ∧ Ow K F v n T ∧ ∀ c ∈ T, c ∈ S
  | _, _, _, i, n, .nil, h => by cases h
  | _, _, _, 0, n, .cons a t, h => by
    cases h
    exact ⟨_, _, rfl, a, fun c hc => List.mem_append_left _ hc⟩
  | _, _, _, i + 1, n, .cons a t, h => by
    obtain ⟨v, T, h1, h2, h3⟩ := OwAll.get t h
    exact ⟨v, T, h1, h2, fun c hc => List.mem_append_right _ (h3 c hc)⟩
theorem OwAll.len : ∀ {vs : List V} {ns : List N} {S : Cells}, OwAll K F vs ns S → vs.length = ns.length
  | _, _, _, .nil => rfl
  | _, _, _, .cons _ t => congrArg (· + 1) t.len
theorem toDs_len : ∀ (ns : List N), (toDs ns).length = ns.length
  | [] => rfl
  | _ :: ns => congrArg (· + 1) (toDs_len ns)
/-- the items of a list that may be kept -/
def kidsL : N → Option (List D)
  | .f (.lst ds) => some ds
  | .lst _ ns => fds ns
  | _ => none
where fds : List N → Option (List D)
  | [] => some []
  | .f d :: ns => (fds ns).map (d :: ·)
  | _ => none
theorem kids_ol (a : Addr) (ds : List D) : kidsL (ol a ds) = some ds := by
  show kidsL.fds (ds.map N.f) = some ds
  induction ds with
  | nil => rfl
  | cons d ds ih =>
    show (kidsL.fds (ds.map N.f)).map (d :: ·) = _
    rw [ih]
    rfl
theorem fds_inv : ∀ {ns : List N} {ds : List D}, kidsL.fds ns = some ds → ns = ds.map N.f
  | [], ds, h => by
    cases h
    rfl
  | .f d :: ns, ds, h => by
    unfold kidsL.fds at h
    cases e : kidsL.fds ns with
    | none =>
      rw [e] at h
      cases h
    | some r =>
      rw [e] at h
      cases h
      rw [fds_inv e]
      rfl
  | .lst _ _ :: ns, ds, h => by cases h
  | .tup _ _ :: ns, ds, h => by cases h
  | .dic _ _ :: ns, ds, h => by cases h
  | .obj _ _ _ _ :: ns, ds, h => by cases h
theorem Vw.kids {v : V} {n : N} {ds : List D} (o : Own F M H) {M1 : Cells} (hm : ∀ c ∈ M1, c ∈ M) (w : Vw K F M1 v n) (h : kidsL n = some ds) : ∃ a vs, v = .ref a ∧ H a = some (.lst vs) ∧ RpAll K F vs ds := by
  unfold kidsL at h
  split at h
  · cases h
    cases w.f with
    | lst h a => exact ⟨_, _, rfl, o.fr _ _ h, a⟩
  · obtain ⟨S, w, hs⟩ := w
    have e := fds_inv h
    subst e
    obtain ⟨vs, rfl, rfl, r⟩ := ol_inv w
    exact ⟨_, vs, rfl, o.mu (_, .lst vs) (hm _ (hs _ List.mem_cons_self)), r⟩
  · cases h
theorem rp_lst {v : V} {ds : List D} (h : Rp K H v (.lst ds)) : ∃ a vs, v = .ref a ∧ H a = some (.lst vs) ∧ RpAll K H vs ds := by
  cases h with
  | lst h a => exact ⟨_, _, rfl, h, a⟩
theorem rp_tup {v : V} {ds : List D} (h : Rp K H v (.tup ds)) : ∃ a vs, v = .ref a ∧ SqT K H a vs ∧ RpAll K H vs ds := by
  cases h with
  | tup h a => exact ⟨_, _, rfl, h, a⟩
end
/-! ### arguments -/
def gAll : List G → Env → Option (List N)
  | [], _ => some []
  | g :: gs, env => match g env, gAll gs env with
    | some n, some ns => some (n :: ns)
    | _, _ => none
inductive VwAll (K : PySem.W.Frag) (F : Hp) (M : Cells) : List V → List N → Prop
  | nil : VwAll K F M [] []
  | cons {v : V} {n : N} {vs : List V} {ns : List N} : Vw K F M v n → VwAll K F M vs ns → VwAll K F M (v :: vs) (n :: ns)
theorem VwAll.mono {K : PySem.W.Frag} {F F' : Hp} {M : Cells} (s : Same F F') : ∀ {vs : List V} {ns : List N}, VwAll K F M vs ns → VwAll K F' M vs ns
  | _, _, .nil => .nil
  | _, _, .cons a t => .cons (a.mono s) (t.mono s)
def LA (K : PySem.W.Frag) (gs : List G) : TA := fun σ H Q => ∃ env F M M0 ns, Rep K F σ env M ∧ Own F (M ++ M0) H ∧ gAll gs env = some ns ∧ ∀ vs F' H', Same F F' → Own F' (M ++ M0) H' → VwAll K F' M vs ns → Q vs H'
def PAs (X : Cx) (K : PySem.W.Frag) (es : List Expr) (gs : List G) : Prop := X.K = K → PA X es (LA K gs)
section
variable {X : Cx} {K : PySem.W.Frag} {e : Expr} {es : List Expr} {g ga gb : G} {gs : List G} {pos p : Pos}
theorem pas_nil : PAs X K [] [] := fun _ => pa_imp pa_nil fun σ H Q ⟨env, F, M, M0, ns, r, o, hg, k⟩ => by
  cases hg
  exact k [] F H (Same.refl _) o .nil
theorem pas_cons (h : PD X K e g) (t : PAs X K es gs) (hs : starEach (e :: es) X.env = (false, eval e X.env) :: starEach es X.env := by rfl) : PAs X K (e :: es) (g :: gs) := fun hK => pa_imp (pa_cons (h hK) (t hK) hs) fun σ H Q ⟨env, F, M, M0, ns, r, o, hg, k⟩ => by
  unfold gAll at hg
  cases e1 : g env with
  | none =>
    rw [e1] at hg
    cases hg
  | some n =>
    cases e2 : gAll gs env with
    | none =>
      rw [e1, e2] at hg
      cases hg
    | some ms =>
      rw [e1, e2] at hg
      cases hg
      exact ⟨env, F, M, M0, n, r, o, e1, fun v F1 H1 s1 o1 w1 => ⟨env, F1, M, M0, ms, r.mono s1, o1, e2, fun vs F2 H2 s2 o2 w2 => k (v :: vs) F2 H2 (s1.trans s2) o2 (.cons (w1.mono s2) w2)⟩⟩
def gArgs (o : List N → Option N) (gs : List G) : G := fun env => match gAll gs env with
  | some ns => o ns
  | none => none
theorem gArgs_some {o : List N → Option N} {env : Env} {n : N} (h : gArgs o gs env = some n) : ∃ ns, gAll gs env = some ns ∧ o ns = some n := by
  unfold gArgs at h
  cases e : gAll gs env with
  | none =>
    rw [e] at h
    cases h
  | some ns =>
    rw [e] at h
    exact ⟨ns, rfl, h⟩
structure SA (K : PySem.W.Frag) (r : List V → Hp → VK → Prop) (o : List N → Option N) : Prop where
  run : ∀ {F : Hp} {M M0 : Cells} {H : Hp} {vs : List V} {ns : List N} {n : N} {Q : VK}, Own F (M ++ M0) H → VwAll K F M vs ns → o ns = some n →
    (∀ v F' H', Same F F' → Own F' (M ++ M0) H' → Vw K F' M v n → Q v H') → r vs H Q
theorem lg_args {r : List V → Hp → VK → Prop} {o : List N → Option N} (s : SA K r o) : ∀ σ H Q, LG K (gArgs o gs) σ H Q → tCB r (LA K gs) σ H Q := fun σ H Q ⟨env, F, M, M0, n, rp, ow, hg, k⟩ => by
  obtain ⟨ns, h1, h2⟩ := gArgs_some hg
  exact ⟨env, F, M, M0, ns, rp, ow, h1, fun vs F1 H1 s1 o1 w1 => s.run o1 w1 h2 fun v F2 H2 s2 o2 w2 => k v F2 H2 (s1.trans s2) o2 w2⟩
theorem pd_callB {x : Str} {id : String} {r : List V → Hp → VK → Prop} {o : List N → Option N} (hc : CallR X (.builtin id) r) (s : SA K r o) (hg : Gl X x) (hm : X.mg x = none) (hv : bootBuiltins x = some (.builtin id)) (ha : PAs X K (e :: es) gs) (hn : x ≠ "__name__" := by decide) (hdb : (x == ("__debug__" : Str)) = false := by decide)
    (he : starEach (e :: es) X.env = (false, eval e X.env) :: starEach es X.env := by rfl) (hpl : (backTo pos (starEach es X.env)).any (·.1) = false := by rfl) : PD X K (.Call (.Name x p) (e :: es) [] pos) (gArgs o gs) := fun hK => pe_imp (pe_callB hc hg hm hv (ha hK) hn hdb he hpl) (lg_args s)
theorem pd_callT {x : Str} {T : String} {r : List V → Hp → VK → Prop} {o : List N → Option N} (hc : CallR X (.type T) r) (s : SA K r o) (hg : Gl X x) (hm : X.mg x = none) (hv : bootBuiltins x = some (.type T)) (ha : PAs X K (e :: es) gs) (hn : x ≠ "__name__" := by decide) (hdb : (x == ("__debug__" : Str)) = false := by decide)
    (he : starEach (e :: es) X.env = (false, eval e X.env) :: starEach es X.env := by rfl) (hpl : (backTo pos (starEach es X.env)).any (·.1) = false := by rfl) : PD X K (.Call (.Name x p) (e :: es) [] pos) (gArgs o gs) := fun hK => pe_imp (pe_callTy hc hg hm hv (ha hK) hn hdb he hpl) (lg_args s)
end
theorem CallR.or {X : Cx} {f : Value} {r r' : List V → Hp → VK → Prop} (h : CallR X f r) (h' : CallR X f r') : CallR X f (fun xs H Q => r xs H Q ∨ r' xs H Q) := fun pins s σ H vs us Q I rv q => q.elim (h pins s σ H vs us Q I rv) (h' pins s σ H vs us Q I rv)
def fA1 (o : D → Option D) : List N → Option N
  | [n] => (o n.toD).map N.f
  | _ => none
def fA2 (o : D → D → Option D) : List N → Option N
  | [n, m] => (o n.toD m.toD).map N.f
  | _ => none
theorem sa_flat1 {K : PySem.W.Frag} {r : List V → Hp → VK → Prop} {o : D → Option D} (h : ∀ (H : Hp) (v1 : V) (d1 d : D) (Q : VK), Rp K H v1 d1 → o d1 = some d → flatD d = true ∧ (Q d.v H → r [v1] H Q)) : SA K r (fA1 o) := by
  refine ⟨fun {F M M0 H vs ns n Q} ow w ho k => ?_⟩
  unfold fA1 at ho
  split at ho
  · rename_i m
    cases w with
    | cons w1 w2 =>
      cases w2
      cases e : o m.toD with
      | none =>
        rw [e] at ho
        cases ho
      | some d =>
        rw [e] at ho
        cases ho
        obtain ⟨f, q⟩ := h H _ _ d Q (w1.rp ow) e
        exact q (k d.v F H (Same.refl _) ow (Vw.of (rp_flat f)))
  · cases ho
theorem sa_flat2 {K : PySem.W.Frag} {r : List V → Hp → VK → Prop} {o : D → D → Option D} (h : ∀ (H : Hp) (v1 v2 : V) (d1 d2 d : D) (Q : VK), Rp K H v1 d1 → Rp K H v2 d2 → o d1 d2 = some d → flatD d = true ∧ (Q d.v H → r [v1, v2] H Q)) : SA K r (fA2 o) := by
  refine ⟨fun {F M M0 H vs ns n Q} ow w ho k => ?_⟩
  unfold fA2 at ho
  split at ho
  · rename_i m m'
    cases w with
    | cons w1 w2 =>
      cases w2 with
      | cons w2 w3 =>
        cases w3
        cases e : o m.toD m'.toD with
        | none =>
          rw [e] at ho
          cases ho
        | some d =>
          rw [e] at ho
          cases ho
          obtain ⟨f, q⟩ := h H _ _ _ _ d Q (w1.rp ow) (w2.rp ow) e
          exact q (k d.v F H (Same.refl _) ow (Vw.of (rp_flat f)))
  · cases ho
/-! ### len, int, str, min, max, abs -/
def lenD : D → Option D
  | .lst ds => some (.int ds.length)
  | .tup ds => some (.int ds.length)
  | .dic ds => some (.int ds.length)
  | .str a => if a.length ≤ sizeLine then some (.int a.length) else none
  | _ => none
theorem RpDic.len {K : PySem.W.Frag} {H : Hp} : ∀ {vs : List (Key × V)} {ds : List (Key × D)}, RpDic K H vs ds → vs.length = ds.length
  | _, _, .nil => rfl
  | _, _, .cons _ t => congrArg (· + 1) t.len
theorem c_lenD {X : Cx} : CallR X (.builtin "len") (fun xs H Q => ∃ a kvs, xs = [V.ref a] ∧ H a = some (.dK kvs) ∧ Q (.int kvs.length) H) := call_lenD
def intD : D → Option D
  | .int i => some (.int i)
  | .bl b => some (.int (if b then 1 else 0))
  | _ => none
def strD : D → Option D
  | .int i => if i.natAbs.log2 < 1920 then some (.str (toString i)) else none
  | _ => none
def minD : D → D → Option D
  | .int i, .int j => some (.int (if j < i then j else i))
  | _, _ => none
def maxD : D → D → Option D
  | .int i, .int j => some (.int (if j > i then j else i))
  | _, _ => none
def absD : D → Option D
  | .int i => some (.int (if i < 0 then -i else i))
  | _ => none
section
variable {X : Cx} {K : PySem.W.Frag} {e e' : Expr} {g g' : G} {pos p : Pos}
theorem sa_len : SA K (fun xs H Q => rLenQ K xs H Q ∨ (rLenS' xs H Q ∨ ∃ a kvs, xs = [V.ref a] ∧ H a = some (.dK kvs) ∧ Q (.int kvs.length) H)) (fA1 lenD) := sa_flat1 fun H v1 d1 d Q r1 e => by
  unfold lenD at e
  split at e
  · cases e
    obtain ⟨a, vs, rfl, h, r⟩ := rp_lst r1
    exact ⟨rfl, fun q => .inl ⟨a, vs, rfl, .inl (SqL.of h), by rw [r.len]; exact q⟩⟩
  · cases e
    obtain ⟨a, vs, rfl, h, r⟩ := rp_tup r1
    exact ⟨rfl, fun q => .inl ⟨a, vs, rfl, .inr h, by rw [r.len]; exact q⟩⟩
  · cases e
    cases r1 with
    | dic h r => exact ⟨rfl, fun q => .inr (.inr ⟨_, _, rfl, h, by rw [r.len]; exact q⟩)⟩
  · split at e
    · rename_i hl
      cases e
      cases r1
      exact ⟨rfl, fun q => .inr (.inl ⟨_, rfl, hl, q⟩)⟩
    · cases e
  · cases e
theorem pd_len (hm : X.mg "len" = none) (ha : PAs X K [e] [g]) (hg : Gl X "len" := by rfl) (he : starEach [e] X.env = (false, eval e X.env) :: starEach [] X.env := by rfl) : PD X K (.Call (.Name "len" p) [e] [] pos) (gArgs (fA1 lenD) [g]) := fun hK => by
  subst hK
  exact pd_callB (CallR.or c_len (CallR.or c_lenS c_lenD)) sa_len hg hm PySem.boot_len ha (by decide) (by decide) he rfl rfl
theorem pd_int1 (hm : X.mg "int" = none) (ha : PAs X K [e] [g]) (hg : Gl X "int" := by rfl) (he : starEach [e] X.env = (false, eval e X.env) :: starEach [] X.env := by rfl) : PD X K (.Call (.Name "int" p) [e] [] pos) (gArgs (fA1 intD) [g]) := pd_callT c_int1 (sa_flat1 fun H v1 d1 d Q r1 e => by
  unfold intD at e
  split at e
  · cases e
    cases r1
    exact ⟨rfl, fun q => .inl ⟨_, rfl, q⟩⟩
  · cases e
    cases r1
    exact ⟨rfl, fun q => .inr ⟨_, rfl, q⟩⟩
  · cases e) hg hm (by decide +kernel) ha (by decide) (by decide) he rfl
theorem pd_strI (hm : X.mg "str" = none) (ha : PAs X K [e] [g]) (hg : Gl X "str" := by rfl) (he : starEach [e] X.env = (false, eval e X.env) :: starEach [] X.env := by rfl) : PD X K (.Call (.Name "str" p) [e] [] pos) (gArgs (fA1 strD) [g]) := pd_callT c_strI (sa_flat1 fun H v1 d1 d Q r1 e => by
  unfold strD at e
  split at e
  · split at e
    · rename_i hl
      cases e
      cases r1
      exact ⟨rfl, fun q => ⟨_, rfl, hl, q⟩⟩
    · cases e
  · cases e) hg hm (by decide +kernel) ha (by decide) (by decide) he rfl
theorem pd_min (hc : X.calm = true) (hm : X.mg "min" = none) (ha : PAs X K [e, e'] [g, g']) (hg : Gl X "min" := by rfl) (he : starEach [e, e'] X.env = (false, eval e X.env) :: starEach [e'] X.env := by rfl) (hpl : (backTo pos (starEach [e'] X.env)).any (·.1) = false := by rfl) : PD X K (.Call (.Name "min" p) [e, e'] [] pos) (gArgs (fA2 minD) [g, g']) := pd_callB (c_min2 hc) (sa_flat2 fun H v1 v2 d1 d2 d Q r1 r2 e => by
  unfold minD at e
  split at e
  · cases e
    cases r1
    cases r2
    exact ⟨rfl, fun q => ⟨_, _, rfl, q⟩⟩
  · cases e) hg hm (by decide +kernel) ha (by decide) (by decide) he hpl
theorem pd_max (hc : X.calm = true) (hm : X.mg "max" = none) (ha : PAs X K [e, e'] [g, g']) (hg : Gl X "max" := by rfl) (he : starEach [e, e'] X.env = (false, eval e X.env) :: starEach [e'] X.env := by rfl) (hpl : (backTo pos (starEach [e'] X.env)).any (·.1) = false := by rfl) : PD X K (.Call (.Name "max" p) [e, e'] [] pos) (gArgs (fA2 maxD) [g, g']) := pd_callB (c_max2 hc) (sa_flat2 fun H v1 v2 d1 d2 d Q r1 r2 e => by
  unfold maxD at e
  split at e
  · cases e
    cases r1
    cases r2
    exact ⟨rfl, fun q => ⟨_, _, rfl, q⟩⟩
  · cases e) hg hm (by decide +kernel) ha (by decide) (by decide) he hpl
end
/-! ### == and != -/
mutual
def toP : D → Option PyData
  | .non => some .none
  | .bl b => some (.bool b)
  | .int i => some (.int i)
  | .str s => some (.str s)
  | .lst xs => (toPs xs).map .list
  | .tup xs => (toPs xs).map .tuple
  | _ => none
def toPs : List D → Option (List PyData)
  | [] => some []
  | d :: ds => match toP d, toPs ds with
    | some p, some ps => some (p :: ps)
    | _, _ => none
end
mutual
theorem rp_dp {K : PySem.W.Frag} {H : Hp} : ∀ {v : V} {d : D} {p : PyData}, Rp K H v d → toP d = some p → Dp K H v p
  | _, _, _, .non, h => by cases h; exact .non
  | _, _, _, .bl b, h => by cases h; exact .bl b
  | _, _, _, .int i, h => by cases h; exact .int i
  | _, _, _, .str s, h => by cases h; exact .str s
  | _, .lst ds, p, .lst h a, e => by
    unfold toP at e
    cases q : toPs ds with
    | none =>
      rw [q] at e
      cases e
    | some ps =>
      rw [q] at e
      cases e
      exact .lst (SqL.of h) (rpAll_dp a q)
  | _, .tup ds, p, .tup h a, e => by
    unfold toP at e
    cases q : toPs ds with
    | none =>
      rw [q] at e
      cases e
    | some ps =>
      rw [q] at e
      cases e
      exact .tup h (rpAll_dp a q)
  | _, _, _, .dic _ _, h => by cases h
  | _, _, _, .obj _ _, h => by cases h
  | _, _, _, .exc _ _, h => by cases h
  | _, _, _, .raw _, h => by cases h
theorem rpAll_dp {K : PySem.W.Frag} {H : Hp} : ∀ {v : List V} {d : List D} {p : List PyData}, RpAll K H v d → toPs d = some p → DpAll K H v p
  | _, _, _, .nil, h => by cases h; exact .nil
  | _, d :: ds, p, .cons a t, e => by
    unfold toPs at e
    cases q1 : toP d with
    | none =>
      rw [q1] at e
      cases e
    | some p1 =>
      cases q2 : toPs ds with
      | none =>
        rw [q1, q2] at e
        cases e
      | some ps =>
        rw [q1, q2] at e
        cases e
        exact .cons (rp_dp a q1) (rpAll_dp t q2)
end
def eqB (x y : D) : Option Bool := if flatD x = true ∧ flatD y = true ∧ scal x.v y.v = true then some (decide (x.v = y.v)) else match toP x, toP y with
  | some p, some q => if SeqAt.shaped p = true ∧ SeqAt.shaped q = true then some (PyData.eqv p q) else none
  | _, _ => none
def eqD : D → D → Option D := fun x y => (eqB x y).map D.bl
def neD : D → D → Option D := fun x y => (eqB x y).map fun b => .bl (!b)
theorem eqB_inv {K : PySem.W.Frag} {H : Hp} {v1 v2 : V} {d1 d2 : D} {b : Bool} (r1 : Rp K H v1 d1) (r2 : Rp K H v2 d2) (h : eqB d1 d2 = some b) :
    (scal v1 v2 = true ∧ b = decide (v1 = v2)) ∨ ∃ p q, Dp K H v1 p ∧ Dp K H v2 q ∧ SeqAt.shaped p = true ∧ SeqAt.shaped q = true ∧ b = PyData.eqv p q := by
  unfold eqB at h
  split at h
  · rename_i c
    cases h
    rw [flat_rp r1 c.1, flat_rp r2 c.2.1]
    exact .inl ⟨c.2.2, rfl⟩
  · split at h
    · rename_i p q e1 e2
      split at h
      · rename_i c
        cases h
        exact .inr ⟨p, q, rp_dp r1 e1, rp_dp r2 e2, c.1, c.2, rfl⟩
      · cases h
    · cases h
theorem s2_eq {K : PySem.W.Frag} : S2 K (fun x y H Q => rEq x y H Q ∨ rEqD K x y H Q) (fOp eqD) := s2_flat fun H v1 v2 d1 d2 d Q r1 r2 e => by
  unfold eqD at e
  cases q : eqB d1 d2 with
  | none =>
    rw [q] at e
    cases e
  | some b =>
    rw [q] at e
    cases e
    refine ⟨rfl, fun k => ?_⟩
    rcases eqB_inv r1 r2 q with ⟨c, rfl⟩ | ⟨p, z, h1, h2, h3, h4, rfl⟩
    · exact .inl ⟨c, k⟩
    · exact .inr ⟨p, z, h1, h2, h3, h4, k⟩
theorem s2_ne {K : PySem.W.Frag} : S2 K (fun x y H Q => rNe x y H Q ∨ rNeD K x y H Q) (fOp neD) := s2_flat fun H v1 v2 d1 d2 d Q r1 r2 e => by
  unfold neD at e
  cases q : eqB d1 d2 with
  | none =>
    rw [q] at e
    cases e
  | some b =>
    rw [q] at e
    cases e
    refine ⟨rfl, fun k => ?_⟩
    rcases eqB_inv r1 r2 q with ⟨c, rfl⟩ | ⟨p, z, h1, h2, h3, h4, rfl⟩
    · exact .inl ⟨c, k⟩
    · exact .inr ⟨p, z, h1, h2, h3, h4, k⟩
section
variable {X : Cx} {K : PySem.W.Frag} {a b : Expr} {ga gb : G} {pos : Pos}
theorem pd_eq (hu : X.A.units + 64 < cLine) (ha : PD X K a ga) (hb : PD X K b gb) : PD X K (.Compare a [.Eq] [b] pos) (gOp (fOp eqD) ga gb) := fun hK => by
  subst hK
  exact pd_cmp (OpR.or op_eq (op_eqD hu)) s2_eq ha hb (nobehind _ (by decide) (by decide)) rfl
theorem pd_ne (hu : X.A.units + 64 < cLine) (ha : PD X K a ga) (hb : PD X K b gb) : PD X K (.Compare a [.NotEq] [b] pos) (gOp (fOp neD) ga gb) := fun hK => by
  subst hK
  exact pd_cmp (OpR.or op_ne (op_neD hu)) s2_ne ha hb (nobehind _ (by decide) (by decide)) rfl
end
/-! ### in -/
def inL (x : D) (ds : List D) : Option Bool := if flatD x = true ∧ ds.all flatD = true then some (inV x.v (ds.map D.v)) else none
def kidsD : D → Option (List D)
  | .lst ds => some ds
  | .tup ds => some ds
  | _ => none
def inB : D → D → Option Bool
  | x, .lst ds => inL x ds
  | x, .tup ds => inL x ds
  | .str i, .str z => match i.cps.toList with
    | [c] => some (decide (c ∈ z.cps.toList))
    | _ => none
  | _, _ => none
def inD : D → D → Option D := fun x y => (inB x y).map D.bl
def ninD : D → D → Option D := fun x y => (inB x y).map fun b => .bl (!b)
theorem rpAll_flat {K : PySem.W.Frag} {H : Hp} : ∀ {vs : List V} {ds : List D}, RpAll K H vs ds → ds.all flatD = true → vs = ds.map D.v
  | _, _, .nil, _ => rfl
  | _, _, .cons a t, h => by
    rw [List.all_cons, Bool.and_eq_true] at h
    rw [flat_rp a h.1, rpAll_flat t h.2]
    rfl
theorem all_flatV : ∀ (ds : List D), (ds.map D.v).all flatV = true
  | [] => rfl
  | d :: ds => by
    rw [List.map_cons, List.all_cons, all_flatV ds, flatV_v]
    rfl
theorem rpDic_val {K : PySem.W.Frag} {H : Hp} (k : Key) : ∀ {vs : List (Key × V)} {ds : List (Key × D)}, RpDic K H vs ds → ((valV vs k = none ∧ (ds.find? fun kv => decide (kv.1 = k)) = none) ∨ ∃ v d, valV vs k = some v ∧ (ds.find? fun kv => decide (kv.1 = k)) = some (k, d) ∧ Rp K H v d)
  | _, _, .nil => .inl ⟨rfl, rfl⟩
  | (k', v) :: vs, (_, d) :: ds, .cons a t => by
    unfold valV
    rw [List.find?_cons, List.find?_cons]
    by_cases h : k' = k
    · subst h
      simp only [decide_true]
      exact .inr ⟨v, d, rfl, rfl, a⟩
    · simp only [h, decide_false]
      exact rpDic_val k t
theorem any_find {ds : List (Key × D)} {k : Key} : (ds.any fun kv => decide (kv.1 = k)) = (ds.find? fun kv => decide (kv.1 = k)).isSome := by
  induction ds with
  | nil => rfl
  | cons x xs ih =>
    rw [List.any_cons, List.find?_cons]
    cases decide (x.1 = k) with
    | true => rfl
    | false => exact ih
theorem inB_inv {K : PySem.W.Frag} {H : Hp} {v1 v2 : V} {d1 d2 : D} {b : Bool} (r1 : Rp K H v1 d1) (r2 : Rp K H v2 d2) (h : inB d1 d2 = some b) :
    (∃ p xs, v2 = .ref p ∧ (SqL K H p xs ∨ SqT K H p xs) ∧ flatV v1 = true ∧ xs.all flatV = true ∧ b = inV v1 xs) ∨ (∃ (c : Nat) (z : Str), v1 = .str ⟨#[c]⟩ ∧ v2 = .str z ∧ b = decide (c ∈ z.cps.toList)) := by
  unfold inB at h
  split at h
  · unfold inL at h
    split at h
    · rename_i c
      cases h
      obtain ⟨a, vs, rfl, hh, r⟩ := rp_lst r2
      obtain rfl := flat_rp r1 c.1
      obtain rfl := rpAll_flat r c.2
      exact .inl ⟨a, _, rfl, .inl (SqL.of hh), flatV_v, all_flatV _, rfl⟩
    · cases h
  · unfold inL at h
    split at h
    · rename_i c
      cases h
      obtain ⟨a, vs, rfl, hh, r⟩ := rp_tup r2
      obtain rfl := flat_rp r1 c.1
      obtain rfl := rpAll_flat r c.2
      exact .inl ⟨a, _, rfl, .inr hh, flatV_v, all_flatV _, rfl⟩
    · cases h
  · rename_i i z
    split at h
    · rename_i c ec
      cases h
      cases r1
      cases r2
      have e : i = ⟨#[c]⟩ := by
        cases i with
        | mk cps =>
          have : cps = #[c] := by
            rw [← Array.toList_inj]
            exact ec
          rw [this]
      exact .inr ⟨c, _, by rw [e], rfl, rfl⟩
    · cases h
  · cases h
/-- a key of a dict -/
def keyD : D → Option Key
  | .str i => some (.inr i)
  | .int i => some (.inl i)
  | _ => none
def dfind (kvs : List (Key × D)) (k : Key) : Option D := (kvs.find? fun kv => decide (kv.1 = k)).map Prod.snd
theorem key_get {K : PySem.W.Frag} {H : Hp} {a : Addr} {v : V} {d : D} {k : Key} {vs : List (Key × V)} (r : Rp K H v d) (hk : keyD d = some k) (h : H a = some (.dK vs)) : DGet H a v (valV vs k) := by
  unfold keyD at hk
  split at hk
  · cases hk
    cases r
    exact DGet.k (k := .inr _) h
  · cases hk
    cases r
    exact DGet.k (k := .inl _) h
  · cases hk
theorem rpDic_find {K : PySem.W.Frag} {H : Hp} {k : Key} {vs : List (Key × V)} {ds : List (Key × D)} (r : RpDic K H vs ds) : (valV vs k = none ∧ dfind ds k = none) ∨ ∃ v d, valV vs k = some v ∧ dfind ds k = some d ∧ Rp K H v d := by
  unfold dfind
  rcases rpDic_val k r with ⟨e1, e2⟩ | ⟨v, d, e1, e2, r⟩
  · exact .inl ⟨e1, by rw [e2]; rfl⟩
  · exact .inr ⟨v, d, e1, by rw [e2]; rfl, r⟩
def dinB : D → D → Option Bool
  | x, .dic kvs => (keyD x).map fun k => (dfind kvs k).isSome
  | _, _ => none
theorem dinB_inv {K : PySem.W.Frag} {H : Hp} {v1 v2 : V} {d1 d2 : D} {b : Bool} (r1 : Rp K H v1 d1) (r2 : Rp K H v2 d2) (h : dinB d1 d2 = some b) : ∃ a o, v2 = .ref a ∧ DGet H a v1 o ∧ b = o.isSome := by
  unfold dinB at h
  split at h
  · cases q : keyD d1 with
    | none =>
      rw [q] at h
      cases h
    | some k =>
      rw [q] at h
      cases h
      cases r2 with
      | dic hh r =>
        refine ⟨_, _, rfl, key_get r1 q hh, ?_⟩
        rcases rpDic_find (k := k) r with ⟨e1, e2⟩ | ⟨v, d, e1, e2, _⟩
        · show (dfind _ k).isSome = _
          rw [e1, e2]
          rfl
        · show (dfind _ k).isSome = _
          rw [e1, e2]
          rfl
  · cases h
end Pu

namespace Pu
open PySem PySem.Spec PyProof.Rows L2 Ed
/-! ### in -/
def rInS (neg : Bool) : R2 := fun x y H Q => ∃ (c : Nat) (z : Str), x = .str ⟨#[c]⟩ ∧ y = .str z ∧ Q (.bl (if neg then !decide (c ∈ z.cps.toList) else decide (c ∈ z.cps.toList))) H
theorem s2_in {K : PySem.W.Frag} : S2 K (fun x y H Q => rIn K false x y H Q ∨ rInS false x y H Q) (fOp inD) := s2_flat fun H v1 v2 d1 d2 d Q r1 r2 e => by
  unfold inD at e
  cases q : inB d1 d2 with
  | none =>
    rw [q] at e
    cases e
  | some b =>
    rw [q] at e
    cases e
    refine ⟨rfl, fun k => ?_⟩
    rcases inB_inv r1 r2 q with ⟨p, xs, rfl, q1, q2, q3, rfl⟩ | ⟨c, z, rfl, rfl, rfl⟩
    · exact .inl ⟨p, xs, rfl, q1, q2, q3, k⟩
    · exact .inr ⟨c, z, rfl, rfl, k⟩
theorem s2_nin {K : PySem.W.Frag} : S2 K (fun x y H Q => rIn K true x y H Q ∨ rInS true x y H Q) (fOp ninD) := s2_flat fun H v1 v2 d1 d2 d Q r1 r2 e => by
  unfold ninD at e
  cases q : inB d1 d2 with
  | none =>
    rw [q] at e
    cases e
  | some b =>
    rw [q] at e
    cases e
    refine ⟨rfl, fun k => ?_⟩
    rcases inB_inv r1 r2 q with ⟨p, xs, rfl, q1, q2, q3, rfl⟩ | ⟨c, z, rfl, rfl, rfl⟩
    · exact .inl ⟨p, xs, rfl, q1, q2, q3, k⟩
    · exact .inr ⟨c, z, rfl, rfl, k⟩
theorem op_inS {X : Cx} : OpR X (compareOp .In) (rInS false) := op_in_sign
theorem op_ninS {X : Cx} : OpR X (compareOp .NotIn) (rInS true) := op_notIn_sign
def dinD : D → D → Option D := fun x y => (dinB x y).map D.bl
def dninD : D → D → Option D := fun x y => (dinB x y).map fun b => .bl (!b)
def ixD : N → N → Option N
  | .f (.lst ds), .f (.int i) => (atI ds i).map N.f
  | .f (.tup ds), .f (.int i) => (atI ds i).map N.f
  | .f (.str z), .f (.int i) => if z.length ≤ sizeLine then (atI z.cps.toList i).map fun c => N.f (.str ⟨#[c]⟩) else none
  | .lst _ ns, .f (.int i) => atI ns i
  | .tup _ ns, .f (.int i) => atI ns i
  | _, _ => none
section
variable {X : Cx} {K : PySem.W.Frag} {a b : Expr} {ga gb : G} {pos : Pos}
theorem pd_in (ha : PD X K a ga) (hb : PD X K b gb) (hm : behindInMarks .In b = false := by rfl) : PD X K (.Compare a [.In] [b] pos) (gOp (fOp inD) ga gb) := fun hK => by
  subst hK
  exact pd_cmp (OpR.or op_in_seq op_inS) s2_in ha hb hm rfl
theorem pd_nin (ha : PD X K a ga) (hb : PD X K b gb) (hm : behindInMarks .NotIn b = false := by rfl) : PD X K (.Compare a [.NotIn] [b] pos) (gOp (fOp ninD) ga gb) := fun hK => by
  subst hK
  exact pd_cmp (OpR.or op_notIn_seq op_ninS) s2_nin ha hb hm rfl
theorem pd_din (hu : X.A.units + 1 < cLine) (ha : PD X K a ga) (hb : PD X K b gb) (hm : behindInMarks .In b = false := by rfl) : PD X K (.Compare a [.In] [b] pos) (gOp (fOp dinD) ga gb) := fun hK =>
  pe_imp (pe_cmp (pc_din hu (ha hK) (hb hK)) hm) fun σ H Q h => lg_op (r := fun y x H2 Q => ∃ a o, x = .ref a ∧ DGet H2 a y o ∧ Q (.bl o.isSome) H2) (s2_flat fun H v1 v2 d1 d2 d Q r1 r2 e => by
    unfold dinD at e
    cases q : dinB d1 d2 with
    | none =>
      rw [q] at e
      cases e
    | some b =>
      rw [q] at e
      cases e
      obtain ⟨a, o, h1, h2, rfl⟩ := dinB_inv r1 r2 q
      exact ⟨rfl, fun k => ⟨a, o, h1, h2, k⟩⟩) σ H Q h
theorem pd_dnin (hu : X.A.units + 1 < cLine) (ha : PD X K a ga) (hb : PD X K b gb) (hm : behindInMarks .NotIn b = false := by rfl) : PD X K (.Compare a [.NotIn] [b] pos) (gOp (fOp dninD) ga gb) := fun hK =>
  pe_imp (pe_cmp (pc_dnotin hu (ha hK) (hb hK)) hm) fun σ H Q h => lg_op (r := fun y x H2 Q => ∃ a o, x = .ref a ∧ DGet H2 a y o ∧ Q (.bl (!o.isSome)) H2) (s2_flat fun H v1 v2 d1 d2 d Q r1 r2 e => by
    unfold dninD at e
    cases q : dinB d1 d2 with
    | none =>
      rw [q] at e
      cases e
    | some b =>
      rw [q] at e
      cases e
      obtain ⟨a, o, h1, h2, rfl⟩ := dinB_inv r1 r2 q
      exact ⟨rfl, fun k => ⟨a, o, h1, h2, k⟩⟩) σ H Q h
/-! ### o[i] -/
theorem OwAll.at {F : Hp} {vs : List V} {ns : List N} {S : Cells} {i : Int} {n : N} (h : OwAll K F vs ns S) (e : atI ns i = some n) : ∃ v T, atI vs i = some v ∧ Ow K F v n T ∧ ∀ c ∈ T, c ∈ S := by
  unfold atI at e ⊢
  rw [h.len]
  cases q : L2.ixN ns.length i with
  | none =>
    rw [q] at e
    cases e
  | some j =>
    rw [q] at e
    exact h.get e
theorem s2_ix : S2 K (fun x y H Q => rIxL K x y H Q ∨ (rIxT K x y H Q ∨ rIxS x y H Q)) ixD := by
  refine ⟨fun {F M M0 H v1 v2 n1 n2 n Q} ow w1 w2 ho k => ?_⟩
  unfold ixD at ho
  split at ho
  · rename_i ds i
    cases w2.f
    obtain ⟨a, vs, rfl, h, r⟩ := rp_lst w1.f
    cases q : atI ds i with
    | none =>
      rw [q] at ho
      cases ho
    | some d =>
      rw [q] at ho
      cases ho
      obtain ⟨v, hv, rv⟩ := r.at q
      exact .inl ⟨a, vs, i, v, rfl, rfl, SqL.of (ow.fr _ _ h), hv, k v F H (Same.refl _) ow (Vw.of rv)⟩
  · rename_i ds i
    cases w2.f
    obtain ⟨a, vs, rfl, h, r⟩ := rp_tup w1.f
    cases q : atI ds i with
    | none =>
      rw [q] at ho
      cases ho
    | some d =>
      rw [q] at ho
      cases ho
      obtain ⟨v, hv, rv⟩ := r.at q
      exact .inr (.inl ⟨a, vs, i, v, rfl, rfl, Same.tup ow.fr h, hv, k v F H (Same.refl _) ow (Vw.of rv)⟩)
  · rename_i z i
    cases w2.f
    cases w1.f
    split at ho
    · rename_i hl
      cases q : atI z.cps.toList i with
      | none =>
        rw [q] at ho
        cases ho
      | some c =>
        rw [q] at ho
        cases ho
        exact .inr (.inr ⟨z, i, c, rfl, rfl, hl, q, k _ F H (Same.refl _) ow (Vw.of (.str _))⟩)
    · cases ho
  · rename_i ns i
    cases w2.f
    obtain ⟨S, w1, hs⟩ := w1
    cases w1 with
    | lst wa =>
      obtain ⟨v, T', hv, wv, ht⟩ := wa.at ho
      have hm := ow.mu _ (List.mem_append_left _ (hs _ List.mem_cons_self))
      exact .inl ⟨_, _, i, v, rfl, rfl, SqL.of hm, hv, k v F H (Same.refl _) ow ⟨T', wv, fun c hc => hs c (List.mem_cons_of_mem _ (ht c hc))⟩⟩
  · rename_i ns i
    cases w2.f
    obtain ⟨S, w1, hs⟩ := w1
    cases w1 with
    | tup hT wa =>
      obtain ⟨v, T', hv, wv, ht⟩ := wa.at ho
      exact .inr (.inl ⟨_, _, i, v, rfl, rfl, SqT.of (ow.fr _ _ hT), hv, k v F H (Same.refl _) ow ⟨T', wv, fun c hc => hs c (ht c hc)⟩⟩)
  · cases ho
theorem pd_idx (ha : PD X K a ga) (hb : PD X K b gb) (hs : PlainIx b) : PD X K (.Subscript a b pos) (gOp ixD ga gb) := fun hK => by
  subst hK
  exact pd_ix (IxR.or ix_list (IxR.or ix_tup ix_str)) s2_ix ha hb hs rfl
def nfind (kvs : List (Key × N)) (k : Key) : Option N := (kvs.find? fun kv => decide (kv.1 = k)).map Prod.snd
def dgetD : N → N → Option N
  | .f (.dic kvs), n => match keyD n.toD with
    | some k => (dfind kvs k).map N.f
    | none => none
  | .dic _ kvs, n => match keyD n.toD with
    | some k => nfind kvs k
    | none => none
  | _, _ => none
theorem owDic_find {F : Hp} {k : Key} : ∀ {vs : List (Key × V)} {ns : List (Key × N)} {S : Cells} {n : N}, OwDic K F vs ns S → nfind ns k = some n → ∃ v T, valV vs k = some v ∧ Ow K F v n T ∧ ∀ c ∈ T, c ∈ S
  | _, _, _, n, .nil, h => by cases h
  | (k', v) :: vs, (_, n') :: ns, _, n, .cons a t, h => by
    unfold nfind at h
    unfold valV
    rw [List.find?_cons] at h ⊢
    by_cases hk : k' = k
    · subst hk
      simp only [decide_true] at h ⊢
      cases h
      exact ⟨v, _, rfl, a, fun c hc => List.mem_append_left _ hc⟩
    · simp only [hk, decide_false] at h ⊢
      obtain ⟨u, T, h1, h2, h3⟩ := owDic_find t h
      exact ⟨u, T, h1, h2, fun c hc => List.mem_append_right _ (h3 c hc)⟩
theorem s2_dget : S2 K (fun x y H2 Q => ∃ a v, x = .ref a ∧ DGet H2 a y (some v) ∧ Q v H2) dgetD := by
  refine ⟨fun {F M M0 H v1 v2 n1 n2 n Q} ow w1 w2 ho k => ?_⟩
  unfold dgetD at ho
  split at ho
  · split at ho
    · rename_i kk hk
      cases w1.f with
      | dic h r =>
        rcases rpDic_find (k := kk) r with ⟨e1, e2⟩ | ⟨v, d, e1, e2, rv⟩
        · rw [e2] at ho
          cases ho
        · rw [e2] at ho
          cases ho
          refine ⟨_, v, rfl, ?_, k v F H (Same.refl _) ow (Vw.of rv)⟩
          rw [← e1]
          exact key_get (w2.rp ow) hk (ow.fr _ _ h)
    · cases ho
  · split at ho
    · rename_i kk hk
      obtain ⟨S, w1, hs⟩ := w1
      cases w1 with
      | dic wa =>
        obtain ⟨v, T', hv, wv, ht⟩ := owDic_find wa ho
        have hm := ow.mu _ (List.mem_append_left _ (hs _ List.mem_cons_self))
        refine ⟨_, v, rfl, ?_, k v F H (Same.refl _) ow ⟨T', wv, fun c hc => hs c (List.mem_cons_of_mem _ (ht c hc))⟩⟩
        rw [← hv]
        exact key_get (w2.rp ow) hk hm
    · cases ho
  · cases ho
theorem pd_dget (hu : X.A.units + 1 < cLine) (ha : PD X K a ga) (hb : PD X K b gb) (hs : NoSl b) : PD X K (.Subscript a b pos) (gOp dgetD ga gb) := fun hK =>
  pe_imp (pe_dget hu (ha hK) (hb hK) hs) fun σ H Q h => lg_op s2_dget σ H Q h
end
/-! ### truth, tests -/
abbrev B := Env → Option Bool
def LB (K : PySem.W.Frag) (b : B) : TT := fun σ H Q => ∃ env F M M0 c, Rep K F σ env M ∧ Own F (M ++ M0) H ∧ b env = some c ∧ ∀ F' H', Same F F' → Own F' (M ++ M0) H' → Q c H'
def PB (X : Cx) (K : PySem.W.Frag) (e : Expr) (b : B) : Prop := X.K = K → PT X e (LB K b)
def PBW (X : Cx) (K : PySem.W.Frag) (e : Expr) (b : B) : Prop := X.K = K → PW X e (LB K b)
theorem pw_imp {X : Cx} {e : Expr} {t t' : TT} (h : PW X e t) (i : ∀ σ H Q, t' σ H Q → t σ H Q) : PW X e t' := ⟨fun w pins s σ H Q I q => h.run w pins s σ H Q I (i σ H Q q)⟩
def bV (g : G) : B := fun env => match g env with
  | some (.f (.bl b)) => some b
  | _ => none
def truD : D → Option Bool
  | .non => some false
  | .bl b => some b
  | .int i => some (i != 0)
  | .str y => if y.length ≤ sizeLine then some ((y.length : Int) != 0) else none
  | .lst xs => some (!xs.isEmpty)
  | .tup xs => some (!xs.isEmpty)
  | .dic xs => some (!xs.isEmpty)
  | _ => none
def bT (g : G) : B := fun env => match g env with
  | some n => truD n.toD
  | _ => none
def bAnd (b c : B) : B := fun env => match b env with
  | some true => c env
  | some false => some false
  | none => none
def bOr (b c : B) : B := fun env => match b env with
  | some true => some true
  | some false => c env
  | none => none
def bNot (b : B) : B := fun env => (b env).map not
theorem bV_some {g : G} {env : Env} {c : Bool} (h : bV g env = some c) : g env = some (.f (.bl c)) := by
  unfold bV at h
  split at h
  · cases h
    assumption
  · cases h
section
variable {X : Cx} {K : PySem.W.Frag} {a b e : Expr} {rest : List Expr} {g ga gb : G} {ba bb : B} {pos : Pos}
theorem lb_val : ∀ σ H Q, LB K (bV g) σ H Q → tB (LG K g) σ H Q := fun σ H Q ⟨env, F, M, M0, c, rp, o, hg, k⟩ => by
  refine ⟨env, F, M, M0, _, rp, o, bV_some hg, fun v F' H' s' o' w => ?_⟩
  cases w.f
  exact ⟨c, rfl, k F' H' s' o'⟩
theorem pb_val (h : PD X K e g) (he : ∀ whole, isTrue e X.env whole = (do let v ← whole; standAt e.pos; holding [v] (truthy v)) := by intro _; rfl) : PB X K e (bV g) := fun hK => pt_imp (pt_val (h hK) he) lb_val
theorem tru_of {H : Hp} {v : V} {d : D} {c : Bool} (r : Rp K H v d) (h : truD d = some c) : TruV K v H c := by
  unfold truD at h
  split at h
  · cases h; cases r; rfl
  · cases h; cases r; rfl
  · cases h; cases r; rfl
  · split at h
    · cases h; cases r; exact ⟨by assumption, rfl⟩
    · cases h
  · cases h
    obtain ⟨a, vs, rfl, hh, ra⟩ := rp_lst r
    refine .inl ⟨vs, SqL.of hh, ?_⟩
    cases ra <;> rfl
  · cases h
    obtain ⟨a, vs, rfl, hh, ra⟩ := rp_tup r
    refine .inr (.inl ⟨vs, hh, ?_⟩)
    cases ra <;> rfl
  · cases h
    cases r with
    | dic hh ra =>
      refine .inr (.inr ⟨_, hh, ?_⟩)
      cases ra <;> rfl
  · cases h
theorem pb_tru (h : PD X K e g) (he : ∀ whole, isTrue e X.env whole = (do let v ← whole; standAt e.pos; holding [v] (truthy v)) := by intro _; rfl) : PB X K e (bT g) := fun hK => by
  subst hK
  refine pt_imp (pt_truth (h rfl) he) fun σ H Q ⟨env, F, M, M0, c, rp, o, hg, k⟩ => ?_
  unfold bT at hg
  split at hg
  · rename_i n hn
    exact ⟨env, F, M, M0, n, rp, o, hn, fun v F' H' s' o' w => ⟨c, tru_of (w.rp o') hg, k F' H' s' o'⟩⟩
  · cases hg
theorem lb_test {r : R2} {o : N → N → Option N} (s : S2 K r o) : ∀ σ H Q, LB K (bV (gOp o ga gb)) σ H Q → tTest (tOp r (LG K ga) (LG K gb)) σ H Q := fun σ H Q h => by
  obtain ⟨env, F, M, M0, c, rp, o, hg, k⟩ := h
  refine lg_op s σ H _ ⟨env, F, M, M0, _, rp, o, bV_some hg, fun v F' H' s' o' w => ?_⟩
  cases w.f
  exact ⟨c, rfl, k F' H' s' o'⟩
theorem pb_cmp {op : CmpOp} {r : R2} {o : N → N → Option N} (h : OpR X (compareOp op) r) (s : S2 K r o) (ha : PD X K a ga) (hb : PD X K b gb) (hm : behindInMarks op b = false) : PB X K (.Compare a [op] [b] pos) (bV (gOp o ga gb)) := fun hK => pt_imp (pt_cmpR h (ha hK) (hb hK) hm) (lb_test s)
theorem pb_not (h : PB X K a ba) : PB X K (.UnaryOp .Not a pos) (bNot ba) := fun hK => pt_imp (pt_not (h hK)) fun σ H Q ⟨env, F, M, M0, c, rp, o, hg, k⟩ => by
  unfold bNot at hg
  cases q : ba env with
  | none =>
    rw [q] at hg
    cases hg
  | some d =>
    rw [q] at hg
    cases hg
    exact ⟨env, F, M, M0, d, rp, o, q, k⟩
theorem pbw_and1 (h : PB X K a ba) : PBW X K (.BoolOp .And [a] pos) ba := fun hK => pw_and1 (h hK)
theorem pbw_or1 (h : PB X K a ba) : PBW X K (.BoolOp .Or [a] pos) ba := fun hK => pw_or1 (h hK)
theorem pbw_and (h : PB X K a ba) (t : PBW X K (.BoolOp .And (b :: rest) pos) bb) : PBW X K (.BoolOp .And (a :: b :: rest) pos) (bAnd ba bb) := fun hK => pw_imp (pw_and (h hK) (t hK)) fun σ H Q ⟨env, F, M, M0, c, rp, o, hg, k⟩ => by
  unfold bAnd at hg
  split at hg
  · exact ⟨env, F, M, M0, true, rp, o, by assumption, fun F' H' s' o' => ⟨env, F', M, M0, c, rp.mono s', o', hg, fun F2 H2 s2 o2 => k F2 H2 (s'.trans s2) o2⟩⟩
  · cases hg
    exact ⟨env, F, M, M0, false, rp, o, by assumption, fun F' H' s' o' => k F' H' s' o'⟩
  · cases hg
theorem pbw_or (h : PB X K a ba) (t : PBW X K (.BoolOp .Or (b :: rest) pos) bb) : PBW X K (.BoolOp .Or (a :: b :: rest) pos) (bOr ba bb) := fun hK => pw_imp (pw_or (h hK) (t hK)) fun σ H Q ⟨env, F, M, M0, c, rp, o, hg, k⟩ => by
  unfold bOr at hg
  split at hg
  · cases hg
    exact ⟨env, F, M, M0, true, rp, o, by assumption, fun F' H' s' o' => k F' H' s' o'⟩
  · exact ⟨env, F, M, M0, false, rp, o, by assumption, fun F' H' s' o' => ⟨env, F', M, M0, c, rp.mono s', o', hg, fun F2 H2 s2 o2 => k F2 H2 (s'.trans s2) o2⟩⟩
  · cases hg
theorem pb_w (h : PBW X K e ba) : PB X K e ba := fun hK => (h hK).pt
/-! as values -/
def gAnd (a b : G) : G := fun env => match a env with
  | some (.f (.bl true)) => b env
  | some (.f (.bl false)) => some (.f (.bl false))
  | _ => none
def gOr (a b : G) : G := fun env => match a env with
  | some (.f (.bl true)) => some (.f (.bl true))
  | some (.f (.bl false)) => b env
  | _ => none
def gNot (a : G) : G := fun env => match a env with
  | some (.f (.bl b)) => some (.f (.bl (!b)))
  | _ => none
theorem pd_one {op} (h : PD X K a ga) : PD X K (.BoolOp op [a] pos) ga := fun hK => pe_one (h hK)
theorem pd_andV (ha : PD X K a ga) (hb : PD X K (.BoolOp .And (b :: rest) pos) gb) : PD X K (.BoolOp .And (a :: b :: rest) pos) (gAnd ga gb) := fun hK => pe_imp (pe_and (ha hK) (hb hK)) fun σ H Q ⟨env, F, M, M0, n, rp, o, hg, k⟩ => by
  unfold gAnd at hg
  split at hg
  · rename_i q
    refine ⟨env, F, M, M0, _, rp, o, q, fun v F' H' s' o' w => ?_⟩
    cases w.f
    exact ⟨true, rfl, ⟨env, F', M, M0, n, rp.mono s', o', hg, fun v F2 H2 s2 o2 w2 => k v F2 H2 (s'.trans s2) o2 w2⟩⟩
  · rename_i q
    cases hg
    refine ⟨env, F, M, M0, _, rp, o, q, fun v F' H' s' o' w => ?_⟩
    cases w.f
    exact ⟨false, rfl, k _ F' H' s' o' w⟩
  · cases hg
theorem pd_orV (ha : PD X K a ga) (hb : PD X K (.BoolOp .Or (b :: rest) pos) gb) : PD X K (.BoolOp .Or (a :: b :: rest) pos) (gOr ga gb) := fun hK => pe_imp (pe_or (ha hK) (hb hK)) fun σ H Q ⟨env, F, M, M0, n, rp, o, hg, k⟩ => by
  unfold gOr at hg
  split at hg
  · rename_i q
    cases hg
    refine ⟨env, F, M, M0, _, rp, o, q, fun v F' H' s' o' w => ?_⟩
    cases w.f
    exact ⟨true, rfl, k _ F' H' s' o' w⟩
  · rename_i q
    refine ⟨env, F, M, M0, _, rp, o, q, fun v F' H' s' o' w => ?_⟩
    cases w.f
    exact ⟨false, rfl, ⟨env, F', M, M0, n, rp.mono s', o', hg, fun v F2 H2 s2 o2 w2 => k v F2 H2 (s'.trans s2) o2 w2⟩⟩
  · cases hg
theorem pd_notV (ha : PD X K a ga) : PD X K (.UnaryOp .Not a pos) (gNot ga) := fun hK => pe_imp (pe_not (ha hK)) fun σ H Q ⟨env, F, M, M0, n, rp, o, hg, k⟩ => by
  unfold gNot at hg
  split at hg
  · rename_i c q
    cases hg
    refine ⟨env, F, M, M0, _, rp, o, q, fun v F' H' s' o' w => ?_⟩
    cases w.f
    exact ⟨c, rfl, k _ F' H' s' o' (Vw.of (.bl _))⟩
  · cases hg
def gIf (c : B) (a b : G) : G := fun env => match c env with
  | some true => a env
  | some false => b env
  | none => none
theorem pd_if (hc : PB X K e ba) (ha : PD X K a ga) (hb : PD X K b gb) : PD X K (.IfExp e a b pos) (gIf ba ga gb) := fun hK => pe_imp (pe_ifExp (hc hK) (ha hK) (hb hK)) fun σ H Q ⟨env, F, M, M0, n, rp, o, hg, k⟩ => by
  unfold gIf at hg
  split at hg
  · exact ⟨env, F, M, M0, true, rp, o, by assumption, fun F' H' s' o' => ⟨env, F', M, M0, n, rp.mono s', o', hg, fun v F2 H2 s2 o2 w => k v F2 H2 (s'.trans s2) o2 w⟩⟩
  · exact ⟨env, F, M, M0, false, rp, o, by assumption, fun F' H' s' o' => ⟨env, F', M, M0, n, rp.mono s', o', hg, fun v F2 H2 s2 o2 w => k v F2 H2 (s'.trans s2) o2 w⟩⟩
  · cases hg
end
end Pu

namespace Pu
open PySem PySem.Spec PyProof.Rows L2 Ed
/-! ### new containers -/
/-- a new container with kept items, laid at a -/
def ownD (a : Addr) : D → N
  | .lst ds => ol a ds
  | .dic kvs => .dic a (kvs.map fun kv => (kv.1, .f kv.2))
  | d => .f d
theorem toDk_f : ∀ (ds : List (Key × D)), toDk (ds.map fun kv => (kv.1, N.f kv.2)) = ds
  | [] => rfl
  | (k, d) :: ds => by
    show (k, d) :: toDk (ds.map fun kv => (kv.1, N.f kv.2)) = _
    rw [toDk_f ds]
theorem ownD_toD (a : Addr) (d : D) : (ownD a d).toD = d := by
  cases d with
  | lst ds => exact ol_toD a ds
  | dic kvs => exact congrArg D.dic (toDk_f kvs)
  | _ => rfl
def LN (K : PySem.W.Frag) (g : G) : TE := fun σ H Q => ∃ env F M M0 d, Rep K F σ env M ∧ Own F (M ++ M0) H ∧ g env = some (.f d) ∧ ∀ a v S F' H', Same F F' → Own F' (S ++ (M ++ M0)) H' → Ow K F' v (ownD a d) S → Q v H'
def PN (X : Cx) (K : PySem.W.Frag) (e : Expr) (g : G) : Prop := X.K = K → PE X e (LN K g)
section
variable {X : Cx} {K : PySem.W.Frag} {e a b : Expr} {es : List Expr} {g ga gb : G} {gs : List G} {pos p : Pos}
def gFz (g : G) : G := fun env => match g env with
  | some (.f d) => some (.f d)
  | _ => none
theorem pn_pd (h : PN X K e g) : PD X K e (gFz g) := fun hK => pe_imp (h hK) fun σ H Q ⟨env, F, M, M0, n, rp, o, hg, k⟩ => by
  unfold gFz at hg
  split at hg
  · rename_i d hd
    cases hg
    refine ⟨env, F, M, M0, d, rp, o, hd, fun a v S F' H' s' o' w => ?_⟩
    obtain ⟨F2, s2, o2, r2⟩ := ow_fz o' w
    rw [ownD_toD] at r2
    exact k v F2 H' (s'.trans s2) o2 (Vw.of r2)
  · cases hg
/-- the values of kept nodes -/
def fds : List N → Option (List D) := kidsL.fds
theorem vwAll_fds {F : Hp} {M : Cells} : ∀ {vs : List V} {ns : List N} {ds : List D}, VwAll K F M vs ns → fds ns = some ds → RpAll K F vs ds
  | _, _, ds, .nil, h => by
    cases h
    exact .nil
  | _, n :: ns, ds, .cons a t, h => by
    have e := fds_inv h
    cases ds with
    | nil => cases e
    | cons d ds =>
      have e1 := (List.cons.inj e).1
      subst e1
      have e2 := (List.cons.inj e).2
      refine .cons a.f (vwAll_fds t ?_)
      rw [e2]
      exact kids_ol 0 ds
def mkT (ns : List N) : Option N := match fds ns with
  | some ds => if ds.length ≤ 1000 then some (.f (.tup ds)) else none
  | none => none
def mkL (ns : List N) : Option N := match fds ns with
  | some ds => if ds.length ≤ 1000 then some (.f (.lst ds)) else none
  | none => none
theorem pd_tup {x1} (h : PAs X K es gs) : PD X K (.Tuple es x1 pos) (gArgs mkT gs) := fun hK => pe_imp (pe_tup (h hK)) fun σ H Q ⟨env, F, M, M0, n, rp, o, hg, k⟩ => by
  obtain ⟨ns, h1, h2⟩ := gArgs_some hg
  unfold mkT at h2
  split at h2
  · rename_i ds hd
    split at h2
    · rename_i hl
      cases h2
      refine ⟨env, F, M, M0, ns, rp, o, h1, fun vs F' H' s' o' w => ?_⟩
      have r := vwAll_fds w hd
      refine ⟨by rw [r.len]; exact sz1 hl, fun p hp => ?_⟩
      have n := o'.free hp
      exact k _ _ _ (s'.trans (same_upd n)) (o'.newF hp) (Vw.of (.tup (SqT.of upd_same) (r.mono (same_upd n))))
    · cases h2
  · cases h2
theorem pn_lst (h : PAs X K es gs) : PN X K (.List es pos) (gArgs mkL gs) := fun hK => pe_imp (pe_lst (h hK)) fun σ H Q ⟨env, F, M, M0, n, rp, o, hg, k⟩ => by
  obtain ⟨ns, h1, h2⟩ := gArgs_some hg
  unfold mkL at h2
  split at h2
  · rename_i ds hd
    split at h2
    · rename_i hl
      cases h2
      refine ⟨env, F, M, M0, ns, rp, o, h1, fun vs F' H' s' o' w => ?_⟩
      have r := vwAll_fds w hd
      refine ⟨by rw [r.len]; exact sz1 hl, fun p hp => ?_⟩
      exact k p _ [_] _ _ s' (o'.newM hp) (ow_ol r)
    · cases h2
  · cases h2
/-- a new list of vs -/
theorem new_ol {F F' : Hp} {M : Cells} {H : Hp} {vs : List V} {ds : List D} {Q : VK} (o : Own F' M H) (s : Same F F') (r : RpAll K F' vs ds) (k : ∀ a v S F' H', Same F F' → Own F' (S ++ M) H' → Ow K F' v (ownD a (.lst ds)) S → Q v H') : ∀ p, H p = none → Q (.ref p) (upd H p (.lst vs)) := fun p hp =>
  k p _ [_] _ _ s (o.newM hp) (ow_ol r)
/-! operators that make a list -/
def gcat : N → N → Option N := fun x y => match kidsL x, kidsL y with
  | some ds, some es => if ds.length + es.length ≤ sizeLine then some (.f (.lst (ds ++ es))) else none
  | _, _ => none
theorem pn_cat (ha : PD X K a ga) (hb : PD X K b gb) : PN X K (.BinOp a .Add b pos) (gOp gcat ga gb) := fun hK => pe_imp (pe_op op_cat (ha hK) (hb hK)) fun σ H Q ⟨env, F, M, M0, n, rp, o, hg, k⟩ => by
  obtain ⟨x, y, h1, h2, h3⟩ := gOp_some hg
  unfold gcat at h3
  split at h3
  · rename_i ds es q1 q2
    split at h3
    · rename_i hl
      cases h3
      refine ⟨env, F, M, M0, x, rp, o, h1, fun v F1 H1 s1 o1 w1 => ⟨env, F1, M, M0, y, rp.mono s1, o1, h2, fun u F2 H2 s2 o2 w2 => ?_⟩⟩
      obtain ⟨a1, vs, rfl, e1, r1⟩ := (w1.mono s2).kids o2 (fun c hc => List.mem_append_left _ hc) q1
      obtain ⟨a2, us, rfl, e2, r2⟩ := w2.kids o2 (fun c hc => List.mem_append_left _ hc) q2
      exact ⟨a1, a2, vs, us, rfl, rfl, e1, e2, by rw [r1.len, r2.len]; exact hl, new_ol o2 (s1.trans s2) (r1.app r2) k⟩
    · cases h3
  · cases h3
def glist : List N → Option N
  | [n] => match kidsL n with
    | some ds => some (.f (.lst ds))
    | none => match n with
      | .f (.tup ds) => some (.f (.lst ds))
      | _ => none
  | _ => none
theorem pn_list (hm : X.mg "list" = none) (ha : PAs X K [e] [g]) (hg : Gl X "list" := by rfl) (he : starEach [e] X.env = (false, eval e X.env) :: starEach [] X.env := by rfl) : PN X K (.Call (.Name "list" p) [e] [] pos) (gArgs glist [g]) := fun hK => by
  subst hK
  refine pe_imp (pe_callTy c_listOf hg hm (by decide +kernel) (ha rfl) (by decide) (by decide) he rfl) fun σ H Q ⟨env, F, M, M0, n, rp, o, hg, k⟩ => ?_
  obtain ⟨ns, h1, h2⟩ := gArgs_some hg
  refine ⟨env, F, M, M0, ns, rp, o, h1, fun vs F' H' s' o' w => ?_⟩
  unfold glist at h2
  split at h2
  · cases w with
    | cons w1 w2 =>
      cases w2
      split at h2
      · rename_i ds q
        cases h2
        obtain ⟨a1, vs, rfl, e1, r1⟩ := w1.kids o' (fun c hc => List.mem_append_left _ hc) q
        exact ⟨a1, vs, rfl, .inl (SqL.of e1), new_ol o' s' r1 k⟩
      · split at h2
        · cases h2
          obtain ⟨a1, vs, rfl, e1, r1⟩ := rp_tup w1.f
          exact ⟨a1, vs, rfl, .inr (Same.tup o'.fr e1), new_ol o' s' r1 k⟩
        · cases h2
  · cases h2
def gtuple : List N → Option N
  | [n] => match kidsL n with
    | some ds => some (.f (.tup ds))
    | none => match n with
      | .f (.tup ds) => some (.f (.tup ds))
      | _ => none
  | _ => none
theorem pd_tuple (hm : X.mg "tuple" = none) (ha : PAs X K [e] [g]) (hg : Gl X "tuple" := by rfl) (he : starEach [e] X.env = (false, eval e X.env) :: starEach [] X.env := by rfl) : PD X K (.Call (.Name "tuple" p) [e] [] pos) (gArgs gtuple [g]) := fun hK => by
  subst hK
  refine pe_imp (pe_callTy c_tupleOf hg hm (by decide +kernel) (ha rfl) (by decide) (by decide) he rfl) fun σ H Q ⟨env, F, M, M0, n, rp, o, hg, k⟩ => ?_
  obtain ⟨ns, h1, h2⟩ := gArgs_some hg
  refine ⟨env, F, M, M0, ns, rp, o, h1, fun vs F' H' s' o' w => ?_⟩
  unfold gtuple at h2
  split at h2
  · cases w with
    | cons w1 w2 =>
      cases w2
      split at h2
      · rename_i ds q
        cases h2
        obtain ⟨a1, vs, rfl, e1, r1⟩ := w1.kids o' (fun c hc => List.mem_append_left _ hc) q
        refine ⟨a1, vs, rfl, .inl ⟨SqL.of e1, fun l hl => ?_⟩⟩
        have n := o'.free hl
        exact k _ _ _ (s'.trans (same_upd n)) (o'.newF hl) (Vw.of (.tup (SqT.of upd_same) (r1.mono (same_upd n))))
      · split at h2
        · cases h2
          have w := w1
          obtain ⟨a1, vs, rfl, e1, r1⟩ := rp_tup w1.f
          exact ⟨a1, vs, rfl, .inr ⟨Same.tup o'.fr e1, k _ _ _ s' o' w⟩⟩
        · cases h2
  · cases h2
/-! ### slices -/
abbrev GO := Env → Option (Option Int)
def LO (K : PySem.W.Frag) (g : GO) : TO := fun σ H Q => ∃ env F M M0 n, Rep K F σ env M ∧ Own F (M ++ M0) H ∧ g env = some n ∧ ∀ F' H', Same F F' → Own F' (M ++ M0) H' → Q n H'
def POp (X : Cx) (K : PySem.W.Frag) (e : Option Expr) (g : GO) : Prop := X.K = K → PO X e (LO K g)
def goN : GO := fun _ => some none
def goS (g : G) : GO := fun env => match g env with
  | some (.f (.int i)) => some (some i)
  | _ => none
theorem po_imp {e : Option Expr} {t t' : TO} (h : PO X e t) (i : ∀ σ H Q, t' σ H Q → t σ H Q) : PO X e t' := ⟨fun pins s σ H Q I q => h.run pins s σ H Q I (i σ H Q q)⟩
theorem po_n : POp X K none goN := fun _ => po_imp po_none fun σ H Q ⟨env, F, M, M0, n, rp, o, hg, k⟩ => by
  cases hg
  exact k F H (Same.refl _) o
theorem po_s (h : PD X K e g) : POp X K (some e) (goS g) := fun hK => po_imp (po_some (h hK)) fun σ H Q ⟨env, F, M, M0, n, rp, o, hg, k⟩ => by
  unfold goS at hg
  split at hg
  · rename_i i q
    cases hg
    refine ⟨env, F, M, M0, _, rp, o, q, fun v F' H' s' o' w => ?_⟩
    cases w.f
    exact ⟨i, rfl, k F' H' s' o'⟩
  · cases hg
def gSl (o : N → Option Int → Option Int → Option N) (g : G) (lo hi : GO) : G := fun env => match g env, lo env, hi env with
  | some n, some l, some h => o n l h
  | _, _, _ => none
theorem gSl_some {o : N → Option Int → Option Int → Option N} {lo hi : GO} {env : Env} {n : N} (h : gSl o g lo hi env = some n) : ∃ m l u, g env = some m ∧ lo env = some l ∧ hi env = some u ∧ o m l u = some n := by
  unfold gSl at h
  split at h
  · exact ⟨_, _, _, by assumption, by assumption, by assumption, h⟩
  · cases h
def slL (n : N) (lo hi : Option Int) : Option N := (kidsL n).map fun ds => .f (.lst (cutL ds lo hi))
def slS (n : N) (lo hi : Option Int) : Option N := match n with
  | .f (.str z) => if z.length ≤ sizeLine then some (.f (.str (cutS z lo hi))) else none
  | _ => none
theorem pn_sl {lo hi : Option Expr} {gl gh : GO} {p2 : Pos} (ha : PD X K a ga) (h1 : POp X K lo gl) (h2 : POp X K hi gh) : PN X K (.Subscript a (.Slice lo hi none p2) pos) (gSl slL ga gl gh) := fun hK => by
  subst hK
  refine pe_imp (pe_slice sl_list (ha rfl) (h1 rfl) (h2 rfl)) fun σ H Q ⟨env, F, M, M0, n, rp, o, hg, k⟩ => ?_
  obtain ⟨m, l, u, q1, q2, q3, q4⟩ := gSl_some hg
  unfold slL at q4
  cases q5 : kidsL m with
  | none =>
    rw [q5] at q4
    cases q4
  | some ds =>
    rw [q5] at q4
    cases q4
    refine ⟨env, F, M, M0, m, rp, o, q1, fun v F1 H1 s1 o1 w1 => ⟨env, F1, M, M0, l, rp.mono s1, o1, q2, fun F2 H2 s2 o2 => ⟨env, F2, M, M0, u, rp.mono (s1.trans s2), o2, q3, fun F3 H3 s3 o3 => ?_⟩⟩⟩
    obtain ⟨a1, vs, rfl, e1, r1⟩ := (w1.mono (s2.trans s3)).kids o3 (fun c hc => List.mem_append_left _ hc) q5
    exact ⟨a1, vs, rfl, SqL.of e1, new_ol o3 (s1.trans (s2.trans s3)) (r1.cut l u) k⟩
theorem pd_slS {lo hi : Option Expr} {gl gh : GO} {p2 : Pos} (ha : PD X K a ga) (h1 : POp X K lo gl) (h2 : POp X K hi gh) : PD X K (.Subscript a (.Slice lo hi none p2) pos) (gSl slS ga gl gh) := fun hK => by
  refine pe_imp (pe_slice sl_str (ha hK) (h1 hK) (h2 hK)) fun σ H Q ⟨env, F, M, M0, n, rp, o, hg, k⟩ => ?_
  obtain ⟨m, l, u, q1, q2, q3, q4⟩ := gSl_some hg
  unfold slS at q4
  split at q4
  · split at q4
    · rename_i z hl
      cases q4
      refine ⟨env, F, M, M0, _, rp, o, q1, fun v F1 H1 s1 o1 w1 => ⟨env, F1, M, M0, l, rp.mono s1, o1, q2, fun F2 H2 s2 o2 => ⟨env, F2, M, M0, u, rp.mono (s1.trans s2), o2, q3, fun F3 H3 s3 o3 => ?_⟩⟩⟩
      cases w1.f
      exact ⟨z, rfl, hl, k _ F3 H3 (s1.trans (s2.trans s3)) o3 (Vw.of (.str _))⟩
    · cases q4
  · cases q4
/-- xs[::-1] -/
def gRev : N → Option N := fun n => (kidsL n).map fun ds => .f (.lst ds.reverse)
end
end Pu

/-! ## Pu: expressions with effects on the slots, calls -/
namespace Pu
open PySem PySem.Spec PyProof.Rows L2 Ed
abbrev WP := Str → List (Str × D) → Env → Prop
abbrev FX := Env → (Sl → Env → Prop) → WP → Prop
def XRep (K : PySem.W.Frag) (F : Hp) (cls : Value) (d : Option Addr) (C : Str) (fs : List (Str × D)) : Prop := cls = .ref (He.ga K C) ∧ ∃ a fvs, d = some a ∧ F a = some (.xd fvs) ∧ RpFs K F fvs fs
def WFit (K : PySem.W.Frag) (F : Hp) (M0 : Cells) (W : WX) (w : WP) : Prop := ∀ C fs env' cls d σ' F' M' H', w C fs env' → Same F F' → XRep K F' cls d C fs → Rep K F' σ' env' M' → Own F' (M' ++ M0) H' → W cls d σ' H'
theorem WFit.up {K : PySem.W.Frag} {F F' : Hp} {M0 : Cells} {W : WX} {w : WP} (s : Same F F') (h : WFit K F M0 W w) : WFit K F' M0 W w := fun C fs env' cls d σ' F2 M' H' a b c e f => h C fs env' cls d σ' F2 M' H' a (s.trans b) c e f
/-- more is owned beside -/
theorem WFit.more {K : PySem.W.Frag} {F : Hp} {M0 S : Cells} {W : WX} {w : WP} (h : WFit K F M0 W w) : WFit K F (S ++ M0) W w := fun C fs env' cls d σ' F2 M' H' a b c e f => h C fs env' cls d σ' F2 M' H' a b c e (f.sub ((List.Sublist.refl M').append (List.sublist_append_right S M0)))
def XFit (K : PySem.W.Frag) (F : Hp) (M0 : Cells) (σ : L2.St) (Q : VK) (q : Sl → Env → Prop) : Prop := ∀ r env' v S F' M' H', q r env' → Same F F' → SlotR K F' v r S → Rep K F' σ env' M' → Own F' (S ++ (M' ++ M0)) H' → Q v H'
def LX (K : PySem.W.Frag) (W : WX) (f : FX) : TE := fun σ H Q => ∃ env F M M0 q w, Rep K F σ env M ∧ Own F (M ++ M0) H ∧ f env q w ∧ XFit K F M0 σ Q q ∧ WFit K F M0 W w
def PX (X : Cx) (K : PySem.W.Frag) (W : WX) (e : Expr) (f : FX) : Prop := X.K = K → PE X e (LX K W f)
def Sl.fzD : Sl → Option D
  | .fz d => some d
  | .ow n => some n.toD
  | .cu _ _ => none
  | .xc _ _ _ _ _ => none
theorem slot_fz {K : PySem.W.Frag} {F H : Hp} {S M : Cells} {v : V} {r : Sl} {d : D} (o : Own F (S ++ M) H) (h : SlotR K F v r S) (hd : r.fzD = some d) : ∃ F', Same F F' ∧ Own F' M H ∧ Rp K F' v d := by
  cases r with
  | fz d' =>
    cases hd
    obtain ⟨rfl, h⟩ := h
    exact ⟨F, Same.refl _, o, h⟩
  | ow n =>
    cases hd
    exact ow_fz o h
  | cu u c => cases hd
  | xc a cls d C fs => cases hd
def xP (g : G) : FX := fun env q _ => ∃ d, g env = some (.f d) ∧ q (.fz d) env
def xN (g : G) : FX := fun env q _ => ∃ d, g env = some (.f d) ∧ ∀ a, q (.ow (ownD a d)) env
section
variable {X : Cx} {K : PySem.W.Frag} {W : WX} {e a b : Expr} {es : List Expr} {g ga gb : G} {f fa fb : FX} {pos p : Pos}
theorem px_p (h : PD X K e g) : PX X K W e (xP g) := fun hK => pe_imp (h hK) fun σ H Q ⟨env, F, M, M0, q, w, rp, o, ⟨d, hg, hq⟩, k, kw⟩ =>
  ⟨env, F, M, M0, _, rp, o, hg, fun v F' H' s' o' w' => k _ env v [] F' M H' hq s' ⟨rfl, w'.f⟩ (rp.mono s') o'⟩
theorem px_n (h : PN X K e g) : PX X K W e (xN g) := fun hK => pe_imp (h hK) fun σ H Q ⟨env, F, M, M0, q, w, rp, o, ⟨n, hg, hq⟩, k, kw⟩ =>
  ⟨env, F, M, M0, _, rp, o, hg, fun a v S F' H' s' o' w' => k _ env v S F' M H' (hq a) s' w' (rp.mono s') o'⟩
/-- then, with the value frozen -/
def xD (f : FX) (env : Env) (w : WP) (k : D → Env → Prop) : Prop := f env (fun r env' => ∃ d, r.fzD = some d ∧ k d env') w
def xOp (o : N → N → Option N) (fa fb : FX) : FX := fun env q w => xD fa env w fun d1 env1 => xD fb env1 w fun d2 env2 => ∃ d, o (.f d1) (.f d2) = some (.f d) ∧ q (.fz d) env2
/-- the left side a name, looked at behind the right side -/
def xOpV (o : N → N → Option N) (i : Nat) (fb : FX) : FX := fun env q w => (∃ n0, env.node i = some n0) ∧ xD fb env w fun d2 env2 => ∃ n d, env2.node i = some n ∧ o n (.f d2) = some (.f d) ∧ q (.fz d) env2
def xUn (o : N → Option N) (fa : FX) : FX := fun env q w => xD fa env w fun d1 env1 => ∃ d, o (.f d1) = some (.f d) ∧ q (.fz d) env1
theorem lx_d {σ : L2.St} {H : Hp} {env : Env} {F : Hp} {M M0 : Cells} {w : WP} {R : VK} {k : D → Env → Prop} (rp : Rep K F σ env M) (o : Own F (M ++ M0) H) (h : xD f env w k) (kw : WFit K F M0 W w)
    (hk : ∀ d env' v F' M' H', k d env' → Same F F' → Rp K F' v d → Rep K F' σ env' M' → Own F' (M' ++ M0) H' → R v H') : LX K W f σ H R :=
  ⟨env, F, M, M0, _, w, rp, o, h, fun r env' v S F' M' H' ⟨d, hd, q⟩ s' sl rp' o' => by
    obtain ⟨F2, s2, o2, r2⟩ := slot_fz o' sl hd
    exact hk d env' v F2 M' H' q (s'.trans s2) r2 (rp'.mono s2) o2, kw⟩
theorem lx_op {r : R2} {o : N → N → Option N} (s : S2 K r o) : ∀ σ H Q, LX K W (xOp o fa fb) σ H Q → tOp r (LX K W fa) (LX K W fb) σ H Q := fun σ H Q ⟨env, F, M, M0, q, w, rp, ow, h, k, kw⟩ =>
  lx_d rp ow h kw fun d1 env1 v1 F1 M1 H1 h1 s1 r1 rp1 o1 => lx_d rp1 o1 h1 (kw.up s1) fun d2 env2 v2 F2 M2 H2 ⟨d, hd, hq⟩ s2 r2 rp2 o2 =>
    s.run (M := M2) (M0 := M0) o2 (Vw.of (r1.mono s2)) (Vw.of r2) hd fun v F' H' s' o' w' => k _ env2 v [] F' M2 H' hq (s1.trans (s2.trans s')) ⟨rfl, w'.f⟩ (rp2.mono s') o'
theorem lx_opV {r : R2} {o : N → N → Option N} {i : Nat} (s : S2 K r o) : ∀ σ H Q, LX K W (xOpV o i fb) σ H Q → tOp r (tVar i) (LX K W fb) σ H Q := fun σ H Q ⟨env, F, M, M0, q, w, rp, ow, ⟨⟨n0, hn0⟩, h⟩, k, kw⟩ => by
  obtain ⟨v1, hv1, _⟩ := rp.look hn0
  refine ⟨v1, hv1, lx_d rp ow h kw fun d2 env2 v2 F2 M2 H2 ⟨n, d, hn, hd, hq⟩ s2 r2 rp2 o2 => ?_⟩
  obtain ⟨u, hu, wu⟩ := rp2.look hn
  rw [hv1] at hu
  cases hu
  exact s.run (M := M2) (M0 := M0) o2 wu (Vw.of r2) hd fun v F' H' s' o' w' => k _ env2 v [] F' M2 H' hq (s2.trans s') ⟨rfl, w'.f⟩ (rp2.mono s') o'
theorem lx_un {r : V → Hp → VK → Prop} {o : N → Option N} (s : S1 K r o) : ∀ σ H Q, LX K W (xUn o fa) σ H Q → tUn r (LX K W fa) σ H Q := fun σ H Q ⟨env, F, M, M0, q, w, rp, ow, h, k, kw⟩ =>
  lx_d rp ow h kw fun d1 env1 v1 F1 M1 H1 ⟨d, hd, hq⟩ s1 r1 rp1 o1 => s.run (M := M1) (M0 := M0) o1 (Vw.of r1) hd fun v F' H' s' o' w' => k _ env1 v [] F' M1 H' hq (s1.trans s') ⟨rfl, w'.f⟩ (rp1.mono s') o'
theorem px_bin {op : Operator} {r : R2} {o : N → N → Option N} (h : OpR X (binaryOp op) r) (s : S2 K r o) (ha : PX X K W a fa) (hb : PX X K W b fb) : PX X K W (.BinOp a op b pos) (xOp o fa fb) := fun hK => pe_imp (pe_op h (ha hK) (hb hK)) (lx_op s)
theorem px_cmp {op : CmpOp} {r : R2} {o : N → N → Option N} (h : OpR X (compareOp op) r) (s : S2 K r o) (ha : PX X K W a fa) (hb : PX X K W b fb) (hm : behindInMarks op b = false) : PX X K W (.Compare a [op] [b] pos) (xOp o fa fb) := fun hK => pe_imp (pe_cmpR h (ha hK) (hb hK) hm) (lx_op s)
theorem px_add (ha : PX X K W a fa) (hb : PX X K W b fb) : PX X K W (.BinOp a .Add b pos) (xOp (fOp addD) fa fb) := px_bin (OpR.or op_add o_catS) s2_add ha hb
theorem px_sub (ha : PX X K W a fa) (hb : PX X K W b fb) : PX X K W (.BinOp a .Sub b pos) (xOp (fOp subD) fa fb) := px_bin op_sub (s2_int (g := fun i j => .int (i - j)) fun _ _ => rfl) ha hb
theorem px_mul (ha : PX X K W a fa) (hb : PX X K W b fb) : PX X K W (.BinOp a .Mult b pos) (xOp (fOp mulD) fa fb) := px_bin op_mul (s2_intC (C := fun i j => (-(2 ^ 64) < i ∧ i < 2 ^ 64) ∨ (-(2 ^ 64) < j ∧ j < 2 ^ 64)) (g := fun i j => .int (i * j)) (fun i j h => h) fun _ _ => rfl) ha hb
theorem px_mod (ha : PX X K W a fa) (hb : PX X K W b fb) : PX X K W (.BinOp a .Mod b pos) (xOp (fOp modD) fa fb) := px_bin op_mod (s2_intC (g := fun i j => .int (i % j)) (fun i j h => h) fun _ _ => rfl) ha hb
theorem px_eq (hu : X.A.units + 64 < cLine) (ha : PX X K W a fa) (hb : PX X K W b fb) : PX X K W (.Compare a [.Eq] [b] pos) (xOp (fOp eqD) fa fb) := fun hK => by
  subst hK
  exact px_cmp (OpR.or op_eq (op_eqD hu)) s2_eq ha hb (nobehind _ (by decide) (by decide)) rfl
theorem px_ne (hu : X.A.units + 64 < cLine) (ha : PX X K W a fa) (hb : PX X K W b fb) : PX X K W (.Compare a [.NotEq] [b] pos) (xOp (fOp neD) fa fb) := fun hK => by
  subst hK
  exact px_cmp (OpR.or op_ne (op_neD hu)) s2_ne ha hb (nobehind _ (by decide) (by decide)) rfl
theorem px_lt (ha : PX X K W a fa) (hb : PX X K W b fb) : PX X K W (.Compare a [.Lt] [b] pos) (xOp (fOp ltD) fa fb) := px_cmp op_lt (s2_int (g := fun i j => .bl (decide (i < j))) fun _ _ => rfl) ha hb (nobehind _ (by decide) (by decide))
theorem px_gt (ha : PX X K W a fa) (hb : PX X K W b fb) : PX X K W (.Compare a [.Gt] [b] pos) (xOp (fOp gtD) fa fb) := px_cmp op_gt (s2_int (g := fun i j => .bl (decide (i > j))) fun _ _ => rfl) ha hb (nobehind _ (by decide) (by decide))
theorem px_in (ha : PX X K W a fa) (hb : PX X K W b fb) (hm : behindInMarks .In b = false := by rfl) : PX X K W (.Compare a [.In] [b] pos) (xOp (fOp inD) fa fb) := fun hK => by
  subst hK
  exact px_cmp (OpR.or op_in_seq op_inS) s2_in ha hb hm rfl
theorem px_nin (ha : PX X K W a fa) (hb : PX X K W b fb) (hm : behindInMarks .NotIn b = false := by rfl) : PX X K W (.Compare a [.NotIn] [b] pos) (xOp (fOp ninD) fa fb) := fun hK => by
  subst hK
  exact px_cmp (OpR.or op_notIn_seq op_ninS) s2_nin ha hb hm rfl
theorem px_idx (ha : PX X K W a fa) (hb : PX X K W b fb) (hs : PlainIx b) : PX X K W (.Subscript a b pos) (xOp ixD fa fb) := fun hK => by
  subst hK
  exact pe_imp (pe_ix (IxR.or ix_list (IxR.or ix_tup ix_str)) (ha rfl) (hb rfl) hs) (lx_op s2_ix)
theorem px_idxV {i : Nat} (ha : PE X a (tVar i)) (hb : PX X K W b fb) (hs : PlainIx b) : PX X K W (.Subscript a b pos) (xOpV ixD i fb) := fun hK => by
  subst hK
  exact pe_imp (pe_ix (IxR.or ix_list (IxR.or ix_tup ix_str)) ha (hb rfl) hs) (lx_opV s2_ix)
end
/-! ### tests with effects -/
abbrev FT := Env → (Bool → Env → Prop) → WP → Prop
def LT (K : PySem.W.Frag) (W : WX) (f : FT) : TT := fun σ H Q => ∃ env F M M0 q w, Rep K F σ env M ∧ Own F (M ++ M0) H ∧ f env q w ∧ (∀ c env' F' M' H', q c env' → Same F F' → Rep K F' σ env' M' → Own F' (M' ++ M0) H' → Q c H') ∧ WFit K F M0 W w
def PXT (X : Cx) (K : PySem.W.Frag) (W : WX) (e : Expr) (f : FT) : Prop := X.K = K → PT X e (LT K W f)
def PXW (X : Cx) (K : PySem.W.Frag) (W : WX) (e : Expr) (f : FT) : Prop := X.K = K → PW X e (LT K W f)
def tP (b : B) : FT := fun env q _ => ∃ c, b env = some c ∧ q c env
def tX (f : FX) : FT := fun env q w => xD f env w fun d env' => ∃ c, truD d = some c ∧ q c env'
def tXb (f : FX) : FT := fun env q w => xD f env w fun d env' => ∃ c, d = .bl c ∧ q c env'
def tAndX (f g : FT) : FT := fun env q w => f env (fun c env' => if c = true then g env' q w else q false env') w
def tOrX (f g : FT) : FT := fun env q w => f env (fun c env' => if c = true then q true env' else g env' q w) w
def tNotX (f : FT) : FT := fun env q w => f env (fun c env' => q (!c) env') w
section
variable {X : Cx} {K : PySem.W.Frag} {W : WX} {e a b : Expr} {rest : List Expr} {g : G} {f : FX} {ba : B} {fa fb : FT} {pos p : Pos}
theorem pxt_p (h : PB X K e ba) : PXT X K W e (tP ba) := fun hK => pt_imp (h hK) fun σ H Q ⟨env, F, M, M0, q, w, rp, o, ⟨c, hg, hq⟩, k, kw⟩ =>
  ⟨env, F, M, M0, c, rp, o, hg, fun F' H' s' o' => k c env F' M H' hq s' (rp.mono s') o'⟩
theorem pxt_x (h : PX X K W e f) (he : ∀ whole, isTrue e X.env whole = (do let v ← whole; standAt e.pos; holding [v] (truthy v)) := by intro _; rfl) : PXT X K W e (tX f) := fun hK => by
  subst hK
  exact pt_imp (pt_truth (h rfl) he) fun σ H Q ⟨env, F, M, M0, q, w, rp, o, h, k, kw⟩ => lx_d rp o h kw fun d env' v F' M' H' ⟨c, hc, hq⟩ s' r' rp' o' => ⟨c, tru_of (r'.mono o'.fr) hc, k c env' F' M' H' hq s' rp' o'⟩
theorem pxt_op {op : CmpOp} {r : R2} {o : N → N → Option N} {f1 f2 : FX} (h : OpR X (compareOp op) r) (s : S2 K r o) (ha : PX X K W a f1) (hb : PX X K W b f2) (hm : behindInMarks op b = false) : PXT X K W (.Compare a [op] [b] pos) (tXb (xOp o f1 f2)) := fun hK =>
  pt_imp (pt_cmpR h (ha hK) (hb hK) hm) fun σ H Q ⟨env, F, M, M0, q, w, rp, ow, h, k, kw⟩ => lx_op s σ H _ ⟨env, F, M, M0, (fun r env' => ∃ d, r.fzD = some d ∧ ∃ c, d = .bl c ∧ q c env'), w, rp, ow, h, fun r env' v S F' M' H' ⟨d, hd, c, hc, hq⟩ s' sl rp' o' => by
    obtain ⟨F2, s2, o2, r2⟩ := slot_fz o' sl hd
    subst hc
    cases r2
    exact ⟨c, rfl, k c env' F2 M' H' hq (s'.trans s2) (rp'.mono s2) o2⟩, kw⟩
theorem pxt_not (h : PXT X K W a fa) : PXT X K W (.UnaryOp .Not a pos) (tNotX fa) := fun hK => pt_imp (pt_not (h hK)) fun σ H Q ⟨env, F, M, M0, q, w, rp, o, h, k, kw⟩ =>
  ⟨env, F, M, M0, _, w, rp, o, h, fun c env' F' M' H' hq s' rp' o' => k (!c) env' F' M' H' hq s' rp' o', kw⟩
theorem pxw_and1 (h : PXT X K W a fa) : PXW X K W (.BoolOp .And [a] pos) fa := fun hK => pw_and1 (h hK)
theorem pxw_or1 (h : PXT X K W a fa) : PXW X K W (.BoolOp .Or [a] pos) fa := fun hK => pw_or1 (h hK)
theorem pxw_and (h : PXT X K W a fa) (t : PXW X K W (.BoolOp .And (b :: rest) pos) fb) : PXW X K W (.BoolOp .And (a :: b :: rest) pos) (tAndX fa fb) := fun hK => pw_imp (pw_and (h hK) (t hK)) fun σ H Q ⟨env, F, M, M0, q, w, rp, o, h, k, kw⟩ =>
  ⟨env, F, M, M0, _, w, rp, o, h, fun c env' F' M' H' hq s' rp' o' => by
    cases c with
    | true =>
      rw [if_pos rfl] at hq ⊢
      exact ⟨env', F', M', M0, q, w, rp', o', hq, fun c2 env2 F2 M2 H2 q2 s2 => k c2 env2 F2 M2 H2 q2 (s'.trans s2), kw.up s'⟩
    | false =>
      rw [if_neg Bool.false_ne_true] at hq ⊢
      exact k false env' F' M' H' hq s' rp' o', kw⟩
theorem pxw_or (h : PXT X K W a fa) (t : PXW X K W (.BoolOp .Or (b :: rest) pos) fb) : PXW X K W (.BoolOp .Or (a :: b :: rest) pos) (tOrX fa fb) := fun hK => pw_imp (pw_or (h hK) (t hK)) fun σ H Q ⟨env, F, M, M0, q, w, rp, o, h, k, kw⟩ =>
  ⟨env, F, M, M0, _, w, rp, o, h, fun c env' F' M' H' hq s' rp' o' => by
    cases c with
    | true =>
      rw [if_pos rfl] at hq ⊢
      exact k true env' F' M' H' hq s' rp' o'
    | false =>
      rw [if_neg Bool.false_ne_true] at hq ⊢
      exact ⟨env', F', M', M0, q, w, rp', o', hq, fun c2 env2 F2 M2 H2 q2 s2 => k c2 env2 F2 M2 H2 q2 (s'.trans s2), kw.up s'⟩, kw⟩
theorem pxt_w (h : PXW X K W e fa) : PXT X K W e fa := fun hK => (h hK).pt
end
end Pu

/-! ## Pu: calls of defs -/
namespace Pu
open PySem PySem.Spec PyProof.Rows L2 Ed
/-- a promise over slots: the arguments; the result and the arguments behind; what is raised -/
abbrev FS := List Sl → (Sl → List Sl → Prop) → (Str → List (Str × D) → List Sl → Prop) → Prop
inductive SlAll (K : PySem.W.Frag) (F : Hp) : List V → List Sl → Cells → Prop
  | nil : SlAll K F [] [] []
  | cons {v : V} {s : Sl} {vs : List V} {ss : List Sl} {S M : Cells} : SlotR K F v s S → SlAll K F vs ss M → SlAll K F (v :: vs) (s :: ss) (S ++ M)
theorem SlAll.mono {K : PySem.W.Frag} {F F' : Hp} (e : Same F F') : ∀ {vs : List V} {ss : List Sl} {M : Cells}, SlAll K F vs ss M → SlAll K F' vs ss M
  | _, _, _, .nil => .nil
  | _, _, _, .cons a t => .cons (a.mono e) (t.mono e)
theorem SlAll.len {K : PySem.W.Frag} {F : Hp} : ∀ {vs : List V} {ss : List Sl} {M : Cells}, SlAll K F vs ss M → vs.length = ss.length
  | _, _, _, .nil => rfl
  | _, _, _, .cons _ t => congrArg (· + 1) t.len
def spP (K : PySem.W.Frag) (n : Nat) (C : FS) : Sp := fun vs H Q E => ∃ ss F Ms M0 q w, ss.length = n ∧ SlAll K F vs ss Ms ∧ Own F (Ms ++ M0) H ∧ C ss q w ∧
  (∀ r ss' v S F' Ms' H', q r ss' → Same F F' → SlotR K F' v r S → SlAll K F' vs ss' Ms' → Own F' (S ++ (Ms' ++ M0)) H' → Q v H') ∧
  ∀ c fs ss' cls d F' Ms' H', w c fs ss' → Same F F' → XRep K F' cls d c fs → SlAll K F' vs ss' Ms' → Own F' (Ms' ++ M0) H' → E cls d H'
theorem spP_len {K : PySem.W.Frag} {n : Nat} {C : FS} {vs : List V} {H : Hp} {Q : VK} {E : XK} (h : spP K n C vs H Q E) : vs.length = n := by
  obtain ⟨ss, F, Ms, M0, q, w, hn, hs, _⟩ := h
  rw [hs.len, hn]
/-! ### arguments -/
inductive PArg where
  | v (d : D)
  | b (i : Nat)
abbrev FA := Env → (List PArg → Env → Prop) → WP → Prop
inductive ArgR (K : PySem.W.Frag) (F : Hp) (σ : L2.St) : List PArg → List V → Prop
  | nil : ArgR K F σ [] []
  | v {d : D} {v : V} {as : List PArg} {vs : List V} : Rp K F v d → ArgR K F σ as vs → ArgR K F σ (.v d :: as) (v :: vs)
  | b {i : Nat} {v : V} {as : List PArg} {vs : List V} : σ[i]? = some (some v) → ArgR K F σ as vs → ArgR K F σ (.b i :: as) (v :: vs)
theorem ArgR.mono {K : PySem.W.Frag} {F F' : Hp} {σ : L2.St} (e : Same F F') : ∀ {as : List PArg} {vs : List V}, ArgR K F σ as vs → ArgR K F' σ as vs
  | _, _, .nil => .nil
  | _, _, .v a t => .v (a.mono e) (t.mono e)
  | _, _, .b a t => .b a (t.mono e)
def LAX (K : PySem.W.Frag) (W : WX) (f : FA) : TA := fun σ H Q => ∃ env F M M0 q w, Rep K F σ env M ∧ Own F (M ++ M0) H ∧ f env q w ∧ (∀ as env' vs F' M' H', q as env' → Same F F' → ArgR K F' σ as vs → Rep K F' σ env' M' → Own F' (M' ++ M0) H' → Q vs H') ∧ WFit K F M0 W w
def PAX (X : Cx) (K : PySem.W.Frag) (W : WX) (es : List Expr) (f : FA) : Prop := X.K = K → PA X es (LAX K W f)
def aNil : FA := fun env q _ => q [] env
def aV (f : FX) (t : FA) : FA := fun env q w => xD f env w fun d env1 => t env1 (fun as env2 => q (.v d :: as) env2) w
def aB (i : Nat) (t : FA) : FA := fun env q w => (∃ s, env[i]? = some (some s)) ∧ t env (fun as env2 => q (.b i :: as) env2) w
section
variable {X : Cx} {K : PySem.W.Frag} {W : WX} {e : Expr} {es : List Expr} {f : FX} {t : FA} {i : Nat} {pos p : Pos}
theorem pax_nil : PAX X K W [] aNil := fun _ => pa_imp pa_nil fun σ H Q ⟨env, F, M, M0, q, w, rp, o, h, k, kw⟩ => k [] env [] F M H h (Same.refl _) .nil rp o
theorem pax_v (h : PX X K W e f) (ht : PAX X K W es t) (hs : starEach (e :: es) X.env = (false, eval e X.env) :: starEach es X.env := by rfl) : PAX X K W (e :: es) (aV f t) := fun hK => pa_imp (pa_cons (h hK) (ht hK) hs) fun σ H Q ⟨env, F, M, M0, q, w, rp, o, h, k, kw⟩ =>
  lx_d rp o h kw fun d env1 v F1 M1 H1 h1 s1 r1 rp1 o1 => ⟨env1, F1, M1, M0, _, w, rp1, o1, h1, fun as env2 vs F2 M2 H2 q2 s2 a2 rp2 o2 => k _ env2 _ F2 M2 H2 q2 (s1.trans s2) (.v (r1.mono s2) a2) rp2 o2, kw.up s1⟩
theorem pax_b (h : PE X e (tVar i)) (ht : PAX X K W es t) (hs : starEach (e :: es) X.env = (false, eval e X.env) :: starEach es X.env := by rfl) : PAX X K W (e :: es) (aB i t) := fun hK => pa_imp (pa_cons h (ht hK) hs) fun σ H Q ⟨env, F, M, M0, q, w, rp, o, ⟨⟨s, hs⟩, h⟩, k, kw⟩ => by
  obtain ⟨v, _, _, _, hv, _⟩ := rp.at hs
  exact ⟨v, hv, ⟨env, F, M, M0, _, w, rp, o, h, fun as env2 vs F2 M2 H2 q2 s2 a2 rp2 o2 => k _ env2 _ F2 M2 H2 q2 s2 (.b hv a2) rp2 o2, kw⟩⟩
end
/-! ### the arguments' slots, out and back -/
def slots (env : Env) : List PArg → Option (List Sl)
  | [] => some []
  | .v d :: as => (slots env as).map (.fz d :: ·)
  | .b i :: as => match env[i]?, slots env as with
    | some (some s), some ss => some (s :: ss)
    | _, _ => none
def back (env : Env) : List PArg → List Sl → Env
  | .v _ :: as, _ :: ss => back env as ss
  | .b i :: as, s :: ss => (back env as ss).set i (some s)
  | _, _ => env
def inA (i : Nat) : List PArg → Bool
  | [] => false
  | .v _ :: as => inA i as
  | .b j :: as => i == j || inA i as
def ndA : List PArg → Bool
  | [] => true
  | .v _ :: as => ndA as
  | .b i :: as => !inA i as && ndA as
theorem slots_set {env : Env} {i : Nat} {o : Option Sl} : ∀ {as : List PArg}, inA i as = false → slots (env.set i o) as = slots env as
  | [], _ => rfl
  | .v d :: as, h => by
    unfold slots
    rw [slots_set (as := as) h]
  | .b j :: as, h => by
    unfold inA at h
    rw [Bool.or_eq_false_iff] at h
    unfold slots
    have hj : i ≠ j := fun z => by
      rw [z] at h
      simp at h
    rw [slots_set (as := as) h.2, List.getElem?_set_ne hj]
theorem back_set {i : Nat} {o : Option Sl} : ∀ {env : Env} {as : List PArg} {ss : List Sl}, inA i as = false → back (env.set i o) as ss = (back env as ss).set i o
  | _, [], _, _ => rfl
  | _, .v d :: as, [], _ => rfl
  | _, .b d :: as, [], _ => rfl
  | _, .v d :: as, s :: ss, h => back_set (as := as) h
  | _, .b j :: as, s :: ss, h => by
    unfold inA at h
    rw [Bool.or_eq_false_iff] at h
    have hj : i ≠ j := fun z => by
      rw [z] at h
      simp at h
    unfold back
    rw [back_set (as := as) h.2, List.set_comm _ _ hj]
/-- a slot is taken out -/
theorem Rep.out {K : PySem.W.Frag} {F : Hp} : ∀ {σ : L2.St} {e : Env} {M : Cells} {i : Nat} {s : Sl}, Rep K F σ e M → e[i]? = some (some s) → ∃ v S M', σ[i]? = some (some v) ∧ SlotR K F v s S ∧ M.Perm (S ++ M') ∧ Rep K F σ (e.set i none) M'
  | _, _, _, i, s, .nil, h => by cases h
  | _, _, _, 0, s, .non r, h => by cases h
  | _, _, _, i + 1, s, .non r, h => by
    obtain ⟨v, S, M', h1, h2, h3, h4⟩ := Rep.out r h
    exact ⟨v, S, M', h1, h2, h3, .non h4⟩
  | _, _, _, 0, s, .som (S := S) (M := M) q r, h => by
    cases h
    exact ⟨_, S, M, rfl, q, .refl _, .non r⟩
  | _, _, _, i + 1, s, .som (S := S0) (M := M0) q r, h => by
    obtain ⟨v, S, M', h1, h2, h3, h4⟩ := Rep.out r h
    exact ⟨v, S, S0 ++ M', h1, h2, (h3.append_left S0).trans (perm_mid S0 S M'), .som q h4⟩
/-- .. and laid back -/
theorem Rep.lay {K : PySem.W.Frag} {F : Hp} : ∀ {σ : L2.St} {e : Env} {M : Cells} {i : Nat} {s : Sl} {v : V} {S : Cells}, Rep K F σ e M → e[i]? = some none → σ[i]? = some (some v) → SlotR K F v s S → ∃ M', M'.Perm (S ++ M) ∧ Rep K F σ (e.set i (some s)) M'
  | _, _, _, i, s, v, S, .nil, h, _, _ => by cases h
  | _, _, _, 0, s, v, S, .non (M := M) r, h, hv, q => by
    cases hv
    exact ⟨S ++ M, .refl _, .som q r⟩
  | _, _, _, i + 1, s, v, S, .non r, h, hv, q => by
    obtain ⟨M', p, r'⟩ := Rep.lay r h hv q
    exact ⟨M', p, .non r'⟩
  | _, _, _, 0, s, v, S, .som q r, h, _, _ => by cases h
  | _, _, _, i + 1, s, v, S, .som (S := S0) (M := M0) q0 r, h, hv, q => by
    obtain ⟨M', p, r'⟩ := Rep.lay r h hv q
    exact ⟨S0 ++ M', (p.append_left S0).trans (perm_mid S0 S M0), .som q0 r'⟩
theorem back_none {i : Nat} : ∀ {env : Env} {as : List PArg} {ss : List Sl}, inA i as = false → (back env as ss)[i]? = env[i]?
  | _, [], _, _ => rfl
  | _, .v d :: as, [], _ => rfl
  | _, .b d :: as, [], _ => rfl
  | _, .v d :: as, s :: ss, h => back_none (as := as) h
  | _, .b j :: as, s :: ss, h => by
    unfold inA at h
    rw [Bool.or_eq_false_iff] at h
    have hj : i ≠ j := fun z => by
      rw [z] at h
      simp at h
    unfold back
    rw [List.getElem?_set_ne (Ne.symm hj)]
    exact back_none h.2
theorem call_split {K : PySem.W.Frag} {F : Hp} {σ : L2.St} : ∀ {as : List PArg} {vs : List V} {env : Env} {M : Cells} {ss : List Sl}, ArgR K F σ as vs → Rep K F σ env M → slots env as = some ss → ndA as = true →
    ∃ Ms R, SlAll K F vs ss Ms ∧ M.Perm (Ms ++ R) ∧ ∀ F' ss' Ms', Same F F' → SlAll K F' vs ss' Ms' → ∃ M' T, (Ms' ++ R).Perm (T ++ M') ∧ Rep K F' σ (back env as ss') M'
  | _, _, env, M, ss, .nil, rp, h, _ => by
    cases h
    refine ⟨[], M, .nil, .refl _, fun F' ss' Ms' s q => ?_⟩
    cases q
    exact ⟨M, [], .refl _, rp.mono s⟩
  | .v d :: as, v :: vs, env, M, ss, .v a t, rp, h, nd => by
    unfold slots at h
    cases e : slots env as with
    | none =>
      rw [e] at h
      cases h
    | some ss0 =>
      rw [e] at h
      cases h
      obtain ⟨Ms, R, h1, h2, h3⟩ := call_split t rp e nd
      refine ⟨Ms, R, SlAll.cons (S := []) ⟨rfl, a⟩ h1, h2, fun F' ss' Ms' s q => ?_⟩
      cases q with
      | cons q1 q2 =>
        rename_i s' ss'' S' M'
        obtain ⟨M2, T, p2, r2⟩ := h3 F' _ _ s q2
        refine ⟨M2, S' ++ T, ?_, r2⟩
        rw [List.append_assoc, List.append_assoc]
        exact p2.append_left S'
  | .b i :: as, v :: vs, env, M, ss, .b hv t, rp, h, nd => by
    unfold slots at h
    split at h
    · rename_i s0 ss0 e1 e2
      cases h
      unfold ndA at nd
      rw [Bool.and_eq_true] at nd
      have ni : inA i as = false := by
        have := nd.1
        cases q : inA i as
        · rfl
        · rw [q] at this
          cases this
      obtain ⟨u, S, M1, g1, g2, g3, g4⟩ := rp.out e1
      rw [hv] at g1
      cases g1
      obtain ⟨Ms, R, h1, h2, h3⟩ := call_split t g4 ((slots_set ni).trans e2) nd.2
      refine ⟨S ++ Ms, R, .cons g2 h1, ?_, fun F' ss' Ms' s q => ?_⟩
      · rw [List.append_assoc]
        exact g3.trans (h2.append_left S)
      · cases q with
        | cons q1 q2 =>
          rename_i s' ss'' S' M'
          obtain ⟨M2, T, p2, r2⟩ := h3 F' _ _ s q2
          have hi : i < env.length := (List.getElem?_eq_some_iff.mp e1).1
          have hn : (back (env.set i none) as ss'')[i]? = some none := by
            rw [back_none ni, List.getElem?_set_self hi]
          obtain ⟨M3, p3, r3⟩ := r2.lay hn hv q1
          refine ⟨M3, T, ?_, ?_⟩
          · rw [List.append_assoc]
            exact (p2.append_left S').trans ((perm_mid S' T M2).trans (p3.symm.append_left T))
          · rw [back_set ni, List.set_set] at r3
            exact r3
    · cases h
/-! ### calls -/
def xCall (n : Nat) (C : FS) (fa : FA) : FX := fun env q w => fa env (fun as env1 => ndA as = true ∧ ∃ ss, slots env1 as = some ss ∧ ss.length = n ∧ C ss (fun r ss' => q r (back env1 as ss')) (fun c fs ss' => w c fs (back env1 as ss'))) w
/-- of a def that raises nothing -/
def xCall0 (n : Nat) (C : FS) (fa : FA) : FX := fun env q w => fa env (fun as env1 => ndA as = true ∧ ∃ ss, slots env1 as = some ss ∧ ss.length = n ∧ C ss (fun r ss' => q r (back env1 as ss')) (fun _ _ _ => False)) w
theorem perm_tail {A B : Cells} {X : Cells} (h : A.Perm B) : (A ++ X).Perm (B ++ X) := h.append_right X
section
variable {X : Cx} {K : PySem.W.Frag} {W : WX} {e : Expr} {es : List Expr} {fa : FA} {pos p : Pos} {k n : Nat} {C : FS} {x : Str}
/-- what a call asks: the promise of the callee -/
theorem call_core {E : XK} {σ : L2.St} {Q : VK} {F F1 : Hp} {M1 M0 : Cells} {H1 : Hp} {as : List PArg} {vs : List V} {env1 : Env} {ss : List Sl} {q : Sl → Env → Prop} {w' : WP} (k : XFit K F M0 σ Q q) (s1 : Same F F1) (ar : ArgR K F1 σ as vs) (rp1 : Rep K F1 σ env1 M1) (o1 : Own F1 (M1 ++ M0) H1)
    (nd : ndA as = true) (hss : slots env1 as = some ss) (hn : ss.length = n) (hC : C ss (fun r ss' => q r (back env1 as ss')) (fun c fs ss' => w' c fs (back env1 as ss')))
    (hE : ∀ c fs env' cls d F' M' H', w' c fs env' → Same F F' → XRep K F' cls d c fs → Rep K F' σ env' M' → Own F' (M' ++ M0) H' → E cls d H') : spP K n C vs H1 Q E := by
  obtain ⟨Ms, R, h1, h2, h3⟩ := call_split ar rp1 hss nd
  have o2 : Own F1 (Ms ++ (R ++ M0)) H1 := by
    rw [← List.append_assoc]
    exact o1.perm (perm_tail h2)
  refine ⟨ss, F1, Ms, R ++ M0, _, _, hn, h1, o2, hC, fun r ss' v S F' Ms' H' hq s' sr sa o' => ?_, fun c fs ss' cls d F' Ms' H' hw s' xr sa o' => ?_⟩
  · obtain ⟨M2, T, p2, r2⟩ := h3 F' ss' Ms' s' sa
    refine k r _ v S F' M2 H' hq (s1.trans s') sr r2 ?_
    have pp : (S ++ (Ms' ++ (R ++ M0))).Perm (T ++ (S ++ (M2 ++ M0))) := by
      have a : (Ms' ++ (R ++ M0)).Perm (T ++ (M2 ++ M0)) := by
        rw [← List.append_assoc, ← List.append_assoc]
        exact perm_tail p2
      exact (a.append_left S).trans (perm_mid S T (M2 ++ M0))
    exact (o'.perm pp).sub (List.sublist_append_right T _)
  · obtain ⟨M2, T, p2, r2⟩ := h3 F' ss' Ms' s' sa
    refine hE c fs _ cls d F' M2 H' hw (s1.trans s') xr r2 ?_
    have a : (Ms' ++ (R ++ M0)).Perm (T ++ (M2 ++ M0)) := by
      rw [← List.append_assoc, ← List.append_assoc]
      exact perm_tail p2
    exact (o'.perm a).sub (List.sublist_append_right T _)
theorem px_call (G : Ok1x X.prog X.w X.K X.mg X.base x k (spP K n C)) (hr : Room k X.A) (hg : Gl X x) (tk : Takes X W) (ha : PAX X K W (e :: es) fa) (hdb : (x == ("__debug__" : Str)) = false := by decide) (he : starEach (e :: es) X.env = (false, eval e X.env) :: starEach es X.env := by rfl) (hpl : (backTo pos (starEach es X.env)).any (·.1) = false := by rfl) :
    PX X K W (.Call (.Name x p) (e :: es) [] pos) (xCall n C fa) := fun hK => pe_imp (pe_ownW G hr hg tk (ha hK) hdb he hpl) fun σ H Q ⟨env, F, M, M0, q, w, rp, o, h, k, kw⟩ =>
  ⟨env, F, M, M0, _, w, rp, o, h, fun as env1 vs F1 M1 H1 ⟨nd, ss, hss, hn, hC⟩ s1 ar rp1 o1 => call_core (w' := w) k s1 ar rp1 o1 nd hss hn hC fun c fs env' cls d F' M' H' a b c' d' e' => kw c fs env' cls d σ F' M' H' a b c' d' e', kw⟩
theorem px_call0 (G : Ok1 X.prog X.w X.K X.mg X.base x k (spP K n C)) (hr : Room k X.A) (hg : Gl X x) (ha : PAX X K W (e :: es) fa) (hdb : (x == ("__debug__" : Str)) = false := by decide) (he : starEach (e :: es) X.env = (false, eval e X.env) :: starEach es X.env := by rfl) (hpl : (backTo pos (starEach es X.env)).any (·.1) = false := by rfl) :
    PX X K W (.Call (.Name x p) (e :: es) [] pos) (xCall0 n C fa) := fun hK => pe_imp (pe_own G hr hg (ha hK) hdb he hpl) fun σ H Q ⟨env, F, M, M0, q, w, rp, o, h, k, kw⟩ =>
  ⟨env, F, M, M0, _, w, rp, o, h, fun as env1 vs F1 M1 H1 ⟨nd, ss, hss, hn, hC⟩ s1 ar rp1 o1 => call_core (w' := fun _ _ _ => False) k s1 ar rp1 o1 nd hss hn hC fun c fs env' cls d F' M' H' a _ _ _ _ => a.elim, kw⟩
end
/-! ### statements -/
structure EP' where
  nx : Env → Prop
  rt : Sl → Env → Prop
  bk : Env → Prop
  ct : Env → Prop
  ex : WP
abbrev FSt := Env → EP' → Prop
structure Fits (K : PySem.W.Frag) (F : Hp) (M0 : Cells) (E : Ends) (W : WX) (e : EP') : Prop where
  nx : ∀ env' σ' F' M' H', e.nx env' → Same F F' → Rep K F' σ' env' M' → Own F' (M' ++ M0) H' → E.nx σ' H'
  rt : ∀ r env' v S σ' F' M' H', e.rt r env' → Same F F' → SlotR K F' v r S → Rep K F' σ' env' M' → Own F' (S ++ (M' ++ M0)) H' → E.rt v H'
  bk : ∀ env' σ' F' M' H', e.bk env' → Same F F' → Rep K F' σ' env' M' → Own F' (M' ++ M0) H' → E.bk σ' H'
  ct : ∀ env' σ' F' M' H', e.ct env' → Same F F' → Rep K F' σ' env' M' → Own F' (M' ++ M0) H' → E.ct σ' H'
  ex : WFit K F M0 W e.ex
theorem Fits.up {K : PySem.W.Frag} {F F' : Hp} {M0 : Cells} {E : Ends} {W : WX} {e : EP'} (h : Fits K F M0 E W e) (s : Same F F') : Fits K F' M0 E W e :=
  ⟨fun a b c d f g i => h.nx a b c d f g (s.trans i), fun a b c d f g i j k l => h.rt a b c d f g i j k (s.trans l), fun a b c d f g i => h.bk a b c d f g (s.trans i), fun a b c d f g i => h.ct a b c d f g (s.trans i), h.ex.up s⟩
def LS (K : PySem.W.Frag) (W : WX) (f : FSt) : TS := fun E σ H => ∃ env F M M0 e, Rep K F σ env M ∧ Own F (M ++ M0) H ∧ f env e ∧ Fits K F M0 E W e
def PP (X : Cx) (K : PySem.W.Frag) (W : WX) (st : Stmt) (f : FSt) : Prop := X.K = K → PS X st (LS K W f)
def PPs (X : Cx) (K : PySem.W.Frag) (W : WX) (st : List Stmt) (f : FSt) : Prop := X.K = K → PSs X st (LS K W f)
def sSeq (f g : FSt) : FSt := fun env e => f env { e with nx := fun env' => g env' e }
/-- with a word between -/
def sCut (f g : FSt) : FSt := fun env e => ∃ Mid : Env → Prop, f env { e with nx := Mid } ∧ ∀ env', Mid env' → g env' e
def sNil : FSt := fun env e => e.nx env
def sSet (i : Nat) (f : FX) : FSt := fun env e => f env (fun r env' => i < env'.length ∧ e.nx (env'.set i (some r))) e.ex
def sDrop (f : FX) : FSt := fun env e => f env (fun _ env' => e.nx env') e.ex
def sRet (f : FX) : FSt := fun env e => f env (fun r env' => e.rt r env') e.ex
def sRetN : FSt := fun env e => e.rt (.fz .non) env
def sIf (t : FT) (f g : FSt) : FSt := fun env e => t env (fun c env' => if c = true then f env' e else g env' e) e.ex
def sBrk : FSt := fun env e => e.bk env
def sCont : FSt := fun env e => e.ct env
/-- a slot is kept from now on -/
def Env.fz (env : Env) (i : Nat) : Env := match env[i]? with
  | some (some s) => match s.fzD with
    | some d => env.set i (some (.fz d))
    | none => env
  | _ => env
def sFz (i : Nat) (f : FSt) : FSt := fun env e => f (env.fz i) e
section
variable {X : Cx} {K : PySem.W.Frag} {W : WX} {e : Expr} {st : Stmt} {sts body els : List Stmt} {f g : FSt} {fx : FX} {ft : FT} {pos p : Pos} {i : Nat} {x : Str}
theorem pps_cons (h1 : PP X K W st f) (h2 : PPs X K W sts g) : PPs X K W (st :: sts) (sSeq f g) := fun hK => pss_imp (pss_cons (h1 hK) (h2 hK)) fun E σ H ⟨env, F, M, M0, e, rp, o, h, ft⟩ =>
  ⟨env, F, M, M0, _, rp, o, h, ⟨fun env' σ' F' M' H' hg s' rp' o' => ⟨env', F', M', M0, e, rp', o', hg, ft.up s'⟩, ft.rt, ft.bk, ft.ct, ft.ex⟩⟩
theorem pps_cut (h1 : PP X K W st f) (h2 : PPs X K W sts g) : PPs X K W (st :: sts) (sCut f g) := fun hK => pss_imp (pss_cons (h1 hK) (h2 hK)) fun E σ H ⟨env, F, M, M0, e, rp, o, ⟨Mid, h, hm⟩, ft⟩ =>
  ⟨env, F, M, M0, _, rp, o, h, ⟨fun env' σ' F' M' H' hg s' rp' o' => ⟨env', F', M', M0, e, rp', o', hm env' hg, ft.up s'⟩, ft.rt, ft.bk, ft.ct, ft.ex⟩⟩
theorem pps_nil : PPs X K W [] sNil := fun _ => pss_imp pss_nil fun E σ H ⟨env, F, M, M0, e, rp, o, h, ft⟩ => ft.nx env σ F M H h (Same.refl _) rp o
theorem pps_one (h : PP X K W st f) : PPs X K W [st] f := fun hK => pss_one (h hK)
theorem own_put {F' H' : Hp} {A S0 B S M0 : Cells} (o : Own F' (S ++ ((A ++ (S0 ++ B)) ++ M0)) H') : Own F' ((A ++ (S ++ B)) ++ M0) H' := by
  have p : (S ++ ((A ++ (S0 ++ B)) ++ M0)).Perm (S0 ++ ((A ++ (S ++ B)) ++ M0)) := by
    rw [List.append_assoc, List.append_assoc, List.append_assoc, List.append_assoc]
    exact (perm_mid S A _).trans (((perm_mid S S0 _).append_left A).trans (perm_mid A S0 _))
  exact (o.perm p).sub (List.sublist_append_right S0 _)
theorem pp_set {pos' : Pos} (hN : X.N.Nodup) (hi : X.N[i]? = some x) (hx : Loc X.env.scope x) (he : PX X K W e fx) (hs : swapsWith e (some (.Name x pos')) pos.line X.env = pure false := by rfl) (hf : X.fn x = true ∨ X.env.scope.names.lookup x = some .local := by first | exact .inl rfl | exact .inr rfl | assumption) :
    PP X K W (.Assign [.Name x pos'] e pos) (sSet i fx) := fun hK => ps_imp (ps_set hN hi hx (he hK) hs hf) fun E σ H ⟨env, F, M, M0, e, rp, o, h, ft⟩ =>
  ⟨env, F, M, M0, _, _, rp, o, h, fun r env' v S F' M' H' ⟨hi, hq⟩ s' sl rp' o' => by
    obtain ⟨A, S0, B, hM, put⟩ := rp'.put hi
    subst hM
    exact ft.nx _ _ F' _ H' hq s' (put F' r v S (Same.refl _) sl) (own_put o'), ft.ex⟩
theorem pp_drop (he : PX X K W e fx) (hs : swapsWith e none pos.line X.env = pure false := by rfl) : PP X K W (.Expr e pos) (sDrop fx) := fun hK => ps_imp (ps_expr (he hK) hs) fun E σ H ⟨env, F, M, M0, e, rp, o, h, ft⟩ =>
  ⟨env, F, M, M0, _, _, rp, o, h, fun r env' v S F' M' H' hq s' sl rp' o' => ft.nx _ _ F' M' H' hq s' rp' (o'.sub (List.sublist_append_right S _)), ft.ex⟩
theorem pp_ret (he : PX X K W e fx) : PP X K W (.Return (some e) pos) (sRet fx) := fun hK => ps_imp (ps_ret (he hK)) fun E σ H ⟨env, F, M, M0, e, rp, o, h, ft⟩ =>
  ⟨env, F, M, M0, _, _, rp, o, h, fun r env' v S F' M' H' hq s' sl rp' o' => ft.rt r env' v S σ F' M' H' hq s' sl rp' o', ft.ex⟩
theorem pp_retN : PP X K W (.Return none pos) sRetN := fun hK => ps_imp ps_retN fun E σ H ⟨env, F, M, M0, e, rp, o, h, ft⟩ => ft.rt _ env .non [] σ F M H h (Same.refl _) ⟨rfl, .non⟩ rp o
theorem pp_if (ht : PXT X K W e ft) (h1 : PPs X K W body f) (h2 : PPs X K W els g) : PP X K W (.If e body els pos) (sIf ft f g) := fun hK => ps_imp (ps_if (ht hK) (h1 hK) (h2 hK)) fun E σ H ⟨env, F, M, M0, e, rp, o, h, ft⟩ =>
  ⟨env, F, M, M0, _, _, rp, o, h, fun c env' F' M' H' hq s' rp' o' => by
    cases c with
    | true =>
      rw [if_pos rfl] at hq ⊢
      exact ⟨env', F', M', M0, e, rp', o', hq, ft.up s'⟩
    | false =>
      rw [if_neg Bool.false_ne_true] at hq ⊢
      exact ⟨env', F', M', M0, e, rp', o', hq, ft.up s'⟩, ft.ex⟩
theorem pp_brk : PP X K W (.Break pos) sBrk := fun hK => ps_imp ps_break fun E σ H ⟨env, F, M, M0, e, rp, o, h, ft⟩ => ft.bk env σ F M H h (Same.refl _) rp o
theorem pp_cont : PP X K W (.Continue pos) sCont := fun hK => ps_imp ps_continue fun E σ H ⟨env, F, M, M0, e, rp, o, h, ft⟩ => ft.ct env σ F M H h (Same.refl _) rp o
theorem pp_pass : PP X K W (.Pass pos) sNil := fun hK => ps_imp ps_pass fun E σ H ⟨env, F, M, M0, e, rp, o, h, ft⟩ => ft.nx env σ F M H h (Same.refl _) rp o
theorem set_same {α : Type} : ∀ {l : List α} {i : Nat} {a : α}, l[i]? = some a → l.set i a = l
  | [], _, _, h => by cases h
  | b :: l, 0, a, h => by
    cases h
    rfl
  | b :: l, i + 1, a, h => congrArg (b :: ·) (set_same (l := l) h)
theorem rep_fz {F H : Hp} {σ : L2.St} {env : Env} {M M0 : Cells} (rp : Rep K F σ env M) (o : Own F (M ++ M0) H) (i : Nat) : ∃ F' M', Same F F' ∧ Rep K F' σ (env.fz i) M' ∧ Own F' (M' ++ M0) H := by
  unfold Env.fz
  split
  · rename_i s hs
    split
    · rename_i d hd
      obtain ⟨v, A, S, B, hv, sl, rfl, put⟩ := rp.at hs
      have o1 : Own F (S ++ ((A ++ B) ++ M0)) H := by
        refine o.perm ?_
        rw [List.append_assoc, List.append_assoc, List.append_assoc]
        exact perm_mid A S _
      obtain ⟨F', s', o', r'⟩ := slot_fz o1 sl hd
      have z := put F' (.fz d) v [] s' ⟨rfl, r'⟩
      rw [set_same hv] at z
      exact ⟨F', _, s', z, o'⟩
    · exact ⟨F, M, Same.refl _, rp, o⟩
  · exact ⟨F, M, Same.refl _, rp, o⟩
theorem pps_fz (i : Nat) (h : PPs X K W sts f) : PPs X K W sts (sFz i f) := fun hK => pss_imp (h hK) fun E σ H ⟨env, F, M, M0, e, rp, o, h, ft⟩ => by
  obtain ⟨F', M', s', rp', o'⟩ := rep_fz rp o i
  exact ⟨_, F', M', M0, e, rp', o', h, ft.up s'⟩
end
end Pu

/-! ## Pu: stores, loops, bodies -/
namespace Pu
open PySem PySem.Spec PyProof.Rows L2 Ed
theorem own_upd {F H : Hp} {A B : Cells} {a : Addr} {x y : HO} (o : Own F (A ++ ((a, x) :: B)) H) : Own F (A ++ ((a, y) :: B)) (upd H a y) := by
  have h : (A ++ ((a, x) :: B))[A.length]? = some (a, x) := by
    rw [List.getElem?_append_right (Nat.le_refl _), Nat.sub_self]
    rfl
  have z := o.set (y := y) A.length h
  rw [List.set_append_right _ _ (Nat.le_refl _), Nat.sub_self] at z
  exact z
section
variable {K : PySem.W.Frag} {F H : Hp} {σ : L2.St} {env : Env} {M M0 : Cells} {i : Nat} {v : V} {ad : Addr} {ds : List D}
/-- an owned list in a slot, and what it may become -/
theorem mut_l (rp : Rep K F σ env M) (o : Own F (M ++ M0) H) (h : env[i]? = some (some (.ow (ol ad ds)))) : ∃ vs, σ[i]? = some (some (.ref ad)) ∧ H ad = some (.lst vs) ∧ RpAll K F vs ds ∧
    ∀ vs' ds', RpAll K F vs' ds' → ∃ M', Rep K F σ (env.set i (some (.ow (ol ad ds')))) M' ∧ Own F (M' ++ M0) (upd H ad (.lst vs')) := by
  obtain ⟨u, A, S, B, hv, sl, rfl, put⟩ := rp.at h
  obtain ⟨vs, rfl, rfl, r⟩ := ol_inv sl
  have o1 : Own F (A ++ ((ad, .lst vs) :: (B ++ M0))) H := by
    rw [List.append_assoc] at o
    exact o
  refine ⟨vs, hv, o1.mu (ad, .lst vs) (List.mem_append_right _ List.mem_cons_self), r, fun vs' ds' r' => ⟨A ++ ([(ad, .lst vs')] ++ B), ?_, ?_⟩⟩
  · have z := put F (.ow (ol ad ds')) (.ref ad) [(ad, .lst vs')] (Same.refl _) (ow_ol r')
    rw [set_same hv] at z
    exact z
  · rw [List.append_assoc]
    exact own_upd o1
/-- a dict whose values are kept -/
def od (a : Addr) (kvs : List (Key × D)) : N := .dic a (kvs.map fun kv => (kv.1, .f kv.2))
theorem owDic_f : ∀ {vs : List (Key × V)} {ds : List (Key × D)}, RpDic K F vs ds → OwDic K F vs (ds.map fun kv => (kv.1, .f kv.2)) []
  | _, _, .nil => .nil
  | _, _, .cons a t => OwDic.cons (S := []) (T := []) (.f a) (owDic_f t)
theorem owDic_inv : ∀ {vs : List (Key × V)} {ds : List (Key × D)} {S : Cells}, OwDic K F vs (ds.map fun kv => (kv.1, .f kv.2)) S → S = [] ∧ RpDic K F vs ds
  | _, [], _, .nil => ⟨rfl, .nil⟩
  | _, (_, d) :: ds, _, .cons a t => by
    obtain ⟨rfl, r⟩ := owDic_inv t
    cases a with
    | f a => exact ⟨rfl, .cons a r⟩
theorem od_toD (a : Addr) (ds : List (Key × D)) : (od a ds).toD = .dic ds := congrArg D.dic (toDk_f ds)
theorem mut_d {kds : List (Key × D)} (rp : Rep K F σ env M) (o : Own F (M ++ M0) H) (h : env[i]? = some (some (.ow (od ad kds)))) : ∃ vs, σ[i]? = some (some (.ref ad)) ∧ H ad = some (.dK vs) ∧ RpDic K F vs kds ∧
    ∀ vs' ds', RpDic K F vs' ds' → ∃ M', Rep K F σ (env.set i (some (.ow (od ad ds')))) M' ∧ Own F (M' ++ M0) (upd H ad (.dK vs')) := by
  obtain ⟨u, A, S, B, hv, sl, rfl, put⟩ := rp.at h
  cases sl with
  | dic sl =>
    rename_i vs S'
    obtain ⟨rfl, r⟩ := owDic_inv sl
    have o1 : Own F (A ++ ((ad, .dK vs) :: (B ++ M0))) H := by
      rw [List.append_assoc] at o
      exact o
    refine ⟨vs, hv, o1.mu (ad, .dK vs) (List.mem_append_right _ List.mem_cons_self), r, fun vs' ds' r' => ⟨A ++ ([(ad, .dK vs')] ++ B), ?_, ?_⟩⟩
    · have z := put F (.ow (od ad ds')) (.ref ad) [(ad, .dK vs')] (Same.refl _) (.dic (owDic_f r'))
      rw [set_same hv] at z
      exact z
    · rw [List.append_assoc]
      exact own_upd o1
end
/-! ### methods that change a list in a slot -/
def isOl (env : Env) (i : Nat) : Prop := ∃ v ds, env[i]? = some (some (.ow (ol v ds)))
def xApp (i : Nat) (fa : FX) : FX := fun env q w => isOl env i ∧ xD fa env w fun d env1 => ∃ v ds, env1[i]? = some (some (.ow (ol v ds))) ∧ ds.length < sizeLine ∧ q (.fz .non) (env1.set i (some (.ow (ol v (ds ++ [d])))))
def xPopA (i : Nat) (fa : FX) : FX := fun env q w => isOl env i ∧ xD fa env w fun d env1 => ∃ v ds k y, env1[i]? = some (some (.ow (ol v ds))) ∧ d = .int (Int.ofNat k) ∧ k < 2 ^ 63 ∧ ds[k]? = some y ∧ q (.fz y) (env1.set i (some (.ow (ol v (ds.eraseIdx k)))))
def xPop (i : Nat) : FX := fun env q w => ∃ v ds y, env[i]? = some (some (.ow (ol v (ds ++ [y])))) ∧ q (.fz y) (env.set i (some (.ow (ol v ds))))
def xIns (i : Nat) (fa fb : FX) : FX := fun env q w => isOl env i ∧ xD fa env w fun d1 env1 => xD fb env1 w fun d2 env2 => ∃ v ds k, env2[i]? = some (some (.ow (ol v ds))) ∧ d1 = .int (Int.ofNat k) ∧ k ≤ 1000 ∧ ds.length < sizeLine ∧ q (.fz .non) (env2.set i (some (.ow (ol v (ds.take k ++ [d2] ++ ds.drop k)))))
section
variable {X : Cx} {K : PySem.W.Frag} {W : WX} {e a b : Expr} {fa fb : FX} {pos p apos cpos : Pos} {i : Nat}
theorem ty_ol {F H : Hp} {σ : L2.St} {env : Env} {M M0 : Cells} (rp : Rep K F σ env M) (o : Own F (M ++ M0) H) (h : isOl env i) : ∃ v, σ[i]? = some (some v) ∧ tyV K "list" v H := by
  obtain ⟨v, ds, h⟩ := h
  obtain ⟨vs, hv, ha, _⟩ := mut_l rp o h
  exact ⟨_, hv, .inl ⟨rfl, vs, SqL.of ha⟩⟩
theorem px_app {c : Expr} (h : PE X c (tBM X.K "list" rAppend (tVar i) (tCons (LX K W fa) tNil))) : PX X K W c (xApp i fa) := fun hK => by
  subst hK
  refine pe_imp h fun σ H Q ⟨env, F, M, M0, q, w, rp, o, ⟨hl, h⟩, k, kw⟩ => ?_
  obtain ⟨v0, hv0, ty⟩ := ty_ol rp o hl
  refine ⟨v0, hv0, ty, lx_d rp o h kw fun d env1 y F1 M1 H1 ⟨v, ds, h1, h2, hq⟩ s1 r1 rp1 o1 => ?_⟩
  obtain ⟨vs, hv, ha1, r, upd'⟩ := mut_l rp1 o1 h1
  rw [hv0] at hv
  cases hv
  obtain ⟨M2, rp2, o2⟩ := upd' (vs ++ [y]) (ds ++ [d]) (r.app (.cons r1 .nil))
  exact ⟨_, vs, y, rfl, rfl, ha1, by rw [r.len]; exact h2, k _ _ .non [] F1 M2 _ hq s1 ⟨rfl, .non⟩ rp2 o2⟩
theorem px_popA {c : Expr} (h : PE X c (tBM X.K "list" rPopAt (tVar i) (tCons (LX K W fa) tNil))) : PX X K W c (xPopA i fa) := fun hK => by
  subst hK
  refine pe_imp h fun σ H Q ⟨env, F, M, M0, q, w, rp, o, ⟨hl, h⟩, k, kw⟩ => ?_
  obtain ⟨v0, hv0, ty⟩ := ty_ol rp o hl
  refine ⟨v0, hv0, ty, lx_d rp o h kw fun d env1 y F1 M1 H1 ⟨v, ds, j, z, h1, h2, h3, h4, hq⟩ s1 r1 rp1 o1 => ?_⟩
  subst h2
  cases r1
  obtain ⟨vs, hv, ha1, r, upd'⟩ := mut_l rp1 o1 h1
  rw [hv0] at hv
  cases hv
  obtain ⟨M2, rp2, o2⟩ := upd' (vs.eraseIdx j) (ds.eraseIdx j) (r.erase j)
  obtain ⟨u, hu, ru⟩ := r.get h4
  have hj : j < vs.length := (List.getElem?_eq_some_iff.mp hu).1
  refine ⟨_, vs, _, j, u, rfl, rfl, ha1, ?_, ?_, six rfl hj, hu, k _ _ u [] F1 M2 _ hq s1 ⟨rfl, ru⟩ rp2 o2⟩
  · show -(2 ^ 63) ≤ (j : Int)
    omega
  · show (j : Int) < 2 ^ 63
    omega
theorem px_pop {c : Expr} (h : PE X c (tBM0 X.K "list" rPop (tVar i))) : PX X K W c (xPop i) := fun hK => by
  subst hK
  refine pe_imp h fun σ H Q ⟨env, F, M, M0, q, w, rp, o, ⟨v, ds, y, h1, hq⟩, k, kw⟩ => ?_
  obtain ⟨v0, hv0, ty⟩ := ty_ol rp o ⟨v, _, h1⟩
  refine ⟨v0, hv0, ty, ?_⟩
  obtain ⟨vs, hv, ha1, r, upd'⟩ := mut_l rp o h1
  rw [hv0] at hv
  cases hv
  have hl := r.len
  rw [List.length_append] at hl
  have hl : vs.length = ds.length + 1 := hl
  have hy : (ds ++ [y])[vs.length - 1]? = some y := by
    rw [hl, Nat.add_sub_cancel, List.getElem?_append_right (Nat.le_refl _), Nat.sub_self]
    rfl
  obtain ⟨u, hu, ru⟩ := r.get hy
  have e1 : vs.dropLast = vs.take ds.length := by rw [List.dropLast_eq_take, hl, Nat.add_sub_cancel]
  have e2 : (ds ++ [y]).take ds.length = ds := List.take_left
  have rt := r.take ds.length
  rw [e2] at rt
  obtain ⟨M2, rp2, o2⟩ := upd' (vs.take ds.length) ds rt
  refine ⟨_, vs, u, rfl, rfl, ha1, hu, ?_⟩
  rw [e1]
  exact k _ _ u [] F M2 _ hq (Same.refl _) ⟨rfl, ru⟩ rp2 o2
theorem px_ins {c : Expr} (h : PE X c (tBM X.K "list" rInsert (tVar i) (tCons (LX K W fa) (tCons (LX K W fb) tNil)))) : PX X K W c (xIns i fa fb) := fun hK => by
  subst hK
  refine pe_imp h fun σ H Q ⟨env, F, M, M0, q, w, rp, o, ⟨hl, h⟩, k, kw⟩ => ?_
  obtain ⟨v0, hv0, ty⟩ := ty_ol rp o hl
  refine ⟨v0, hv0, ty, lx_d rp o h kw fun d env1 y F1 M1 H1 h1 s1 r1 rp1 o1 => lx_d rp1 o1 h1 (kw.up s1) fun d2 env2 y2 F2 M2 H2 ⟨v, ds, j, h2, h3, h4, h5, hq⟩ s2 r2 rp2 o2 => ?_⟩
  subst h3
  cases r1
  obtain ⟨vs, hv, ha1, r, upd'⟩ := mut_l rp2 o2 h2
  rw [hv0] at hv
  cases hv
  obtain ⟨M3, rp3, o3⟩ := upd' (vs.take j ++ [y2] ++ vs.drop j) _ (((r.take j).app (.cons r2 .nil)).app (r.drop j))
  exact ⟨_, vs, _, y2, rfl, rfl, ha1, by rw [r.len]; exact h5, Int.natCast_nonneg j, by show (j : Int) < 2 ^ 63; omega, k _ _ .non [] F2 M3 _ hq (s1.trans s2) ⟨rfl, .non⟩ rp3 o3⟩
/-! d[k] = v, xs[i] = v -/
def putD (kvs : List (Key × D)) (k : Key) (d : D) : List (Key × D) := if (kvs.any fun kv => decide (kv.1 = k)) = true then kvs.map (fun kv => if kv.1 = k then (kv.1, d) else kv) else kvs ++ [(k, d)]
theorem RpDic.any {F : Hp} {k : Key} : ∀ {vs : List (Key × V)} {ds : List (Key × D)}, RpDic K F vs ds → (vs.any fun kv => decide (kv.1 = k)) = (ds.any fun kv => decide (kv.1 = k))
  | _, _, .nil => rfl
  | _, _, .cons a t => by
    rw [List.any_cons, List.any_cons, t.any]
theorem RpDic.repl {F : Hp} {k : Key} {v : V} {d : D} (r : Rp K F v d) : ∀ {vs : List (Key × V)} {ds : List (Key × D)}, RpDic K F vs ds → RpDic K F (vs.map fun kv => if kv.1 = k then (kv.1, v) else kv) (ds.map fun kv => if kv.1 = k then (kv.1, d) else kv)
  | _, _, .nil => .nil
  | (k', u) :: vs, (_, e) :: ds, .cons a t => by
    rw [List.map_cons, List.map_cons]
    by_cases h : k' = k
    · rw [if_pos h, if_pos h]
      exact .cons r (RpDic.repl r t)
    · rw [if_neg h, if_neg h]
      exact .cons a (RpDic.repl r t)
theorem RpDic.app {F : Hp} : ∀ {vs us : List (Key × V)} {ds es : List (Key × D)}, RpDic K F vs ds → RpDic K F us es → RpDic K F (vs ++ us) (ds ++ es)
  | _, _, _, _, .nil, h => h
  | _, _, _, _, .cons a t, h => .cons a (t.app h)
theorem RpDic.put {F : Hp} {k : Key} {v : V} {d : D} {vs : List (Key × V)} {ds : List (Key × D)} (h : RpDic K F vs ds) (r : Rp K F v d) : RpDic K F (putK vs k v) (putD ds k d) := by
  unfold putK putD
  rw [h.any]
  split
  · exact h.repl r
  · exact h.app (.cons r .nil)
theorem key_v {F : Hp} {v : V} {d : D} {k : Key} (r : Rp K F v d) (h : keyD d = some k) : v = kV k := by
  unfold keyD at h
  split at h
  · cases h
    cases r
    rfl
  · cases h
    cases r
    rfl
  · cases h
theorem key_put {H : Hp} {a : Addr} {v u : V} {k : Key} {vs : List (Key × V)} (hv : v = kV k) (h : H a = some (.dK vs)) (hl : vs.length < sizeLine) : DPut H a v u (upd H a (.dK (putK vs k u))) := by
  subst hv
  cases k with
  | inl i => exact DPut.k (k := .inl i) h hl
  | inr i => exact DPut.k (k := .inr i) h hl
def sDput (i : Nat) (fk fv : FX) : FSt := fun env e => xD fv env e.ex fun d env1 => (∃ n, env1.node i = some n) ∧ xD fk env1 e.ex fun dk env2 => ∃ v kvs k, env2[i]? = some (some (.ow (od v kvs))) ∧ keyD dk = some k ∧ kvs.length < sizeLine ∧ e.nx (env2.set i (some (.ow (od v (putD kvs k d)))))
theorem pp_dput {st : Stmt} (h : PS X st (sDPut (tVar i) (LX K W fb) (LX K W fa))) : PP X K W st (sDput i fb fa) := fun hK => ps_imp h fun E σ H ⟨env, F, M, M0, e, rp, o, h, ft⟩ =>
  lx_d rp o h ft.ex fun d env1 y F1 M1 H1 ⟨⟨n0, hn0⟩, h1⟩ s1 r1 rp1 o1 => by
    obtain ⟨v0, hv0, _⟩ := rp1.look hn0
    refine ⟨v0, hv0, lx_d rp1 o1 h1 (ft.ex.up s1) fun dk env2 yk F2 M2 H2 ⟨v, kvs, k, h2, h3, h4, hq⟩ s2 r2 rp2 o2 => ?_⟩
    obtain ⟨vs, hv, ha1, r, upd'⟩ := mut_d rp2 o2 h2
    rw [hv0] at hv
    cases hv
    obtain ⟨M3, rp3, o3⟩ := upd' _ _ (r.put (k := k) (r1.mono s2))
    exact ⟨_, _, rfl, key_put (key_v r2 h3) ha1 (by rw [r.len]; exact h4), ft.nx _ _ F2 M3 _ hq (s1.trans s2) rp3 o3⟩
def sSetI (i : Nat) (fk fv : FX) : FSt := fun env e => xD fv env e.ex fun d env1 => (∃ n, env1.node i = some n) ∧ xD fk env1 e.ex fun dk env2 => ∃ v ds j k, env2[i]? = some (some (.ow (ol v ds))) ∧ dk = .int j ∧ L2.ixN ds.length j = some k ∧ e.nx (env2.set i (some (.ow (ol v (ds.set k d)))))
theorem pp_setI {st : Stmt} (h : PS X st (tAsg (LX K W fa) (gSub (tVar i) (LX K W fb) rSetL))) : PP X K W st (sSetI i fb fa) := fun hK => ps_imp h fun E σ H ⟨env, F, M, M0, e, rp, o, h, ft⟩ =>
  lx_d rp o h ft.ex fun d env1 y F1 M1 H1 ⟨⟨n0, hn0⟩, h1⟩ s1 r1 rp1 o1 => by
    obtain ⟨v0, hv0, _⟩ := rp1.look hn0
    refine ⟨v0, hv0, lx_d rp1 o1 h1 (ft.ex.up s1) fun dk env2 yk F2 M2 H2 ⟨v, ds, j, k, h2, h3, h4, hq⟩ s2 r2 rp2 o2 => ?_⟩
    subst h3
    cases r2
    obtain ⟨vs, hv, ha1, r, upd'⟩ := mut_l rp2 o2 h2
    rw [hv0] at hv
    cases hv
    obtain ⟨M3, rp3, o3⟩ := upd' _ _ (r.set k (r1.mono s2))
    exact ⟨_, vs, j, k, rfl, rfl, ha1, by rw [r.len]; exact h4, ft.nx _ _ F2 M3 _ hq (s1.trans s2) rp3 o3⟩
/-- {} -/
def xDnew : FX := fun env q _ => ∀ v, q (.ow (od v [])) env
theorem px_dnew {c : Expr} (h : PE X c tDNewK) : PX X K W c xDnew := fun hK => pe_imp h fun σ H Q ⟨env, F, M, M0, q, w, rp, o, hq, k, kw⟩ p hp =>
  k _ env _ [(p, .dK [])] F M _ (hq p) (Same.refl _) (.dic .nil) rp (o.newM hp)
/-- x op= e, of ints -/
def sAug (i : Nat) (g : Int → Int → Int) (fa : FX) : FSt := fun env e => ∃ m, env[i]? = some (some (.fz (.int m))) ∧ xD fa env e.ex fun d env1 => ∃ n, d = .int n ∧ i < env1.length ∧ e.nx (env1.set i (some (.fz (.int (g m n)))))
theorem pp_aug {st : Stmt} {g : Int → Int → Int} (h : PS X st (tAug i (LX K W fa) (ipI g))) : PP X K W st (sAug i g fa) := fun hK => ps_imp h fun E σ H ⟨env, F, M, M0, e, rp, o, ⟨m, hm, h⟩, ft⟩ => by
  obtain ⟨v, A, S, B, hv, ⟨_, sl⟩, _, _⟩ := rp.at hm
  cases sl
  refine ⟨_, hv, lx_d rp o h ft.ex fun d env1 y F1 M1 H1 ⟨n, hn, hi, hq⟩ s1 r1 rp1 o1 => ?_⟩
  subst hn
  cases r1
  refine ⟨m, n, rfl, rfl, ?_⟩
  obtain ⟨A, S0, B, hM, put⟩ := rp1.put hi
  subst hM
  refine ft.nx _ _ F1 _ H1 hq s1 (put F1 (.fz (.int (g m n))) (.int (g m n)) [] (Same.refl _) ⟨rfl, .int _⟩) (own_put (S := []) o1)
end
end Pu

/-! ## Pu: what loops walk; loops; comprehensions -/
namespace Pu
open PySem PySem.Spec PyProof.Rows L2 Ed
def WalkD (K : PySem.W.Frag) (F : Hp) (M : Cells) (J : It) (ds : List D) : Prop := ∃ (Gd : Hp → Prop) (Y : Nat → Hp → V → Hp → Prop), Walk J ds.length Gd Y ∧ (∀ H, Same F H → Has H M → Gd H) ∧
  ∀ i H x H' F1 M1, i < ds.length → Same F F1 → Own F1 M1 H → Y i H x H' → ∃ d F2, ds[i]? = some d ∧ Same F1 F2 ∧ Own F2 M1 H' ∧ Rp K F2 x d
theorem WalkD.more {K : PySem.W.Frag} {F : Hp} {M : Cells} {J : It} {ds : List D} (h : WalkD K F [] J ds) : WalkD K F M J ds := let ⟨G, Y, a, b, c⟩ := h; ⟨G, Y, a, fun H s _ => b H s fun _ z => (nomatch z), c⟩
section
variable {K : PySem.W.Frag} {F : Hp} {M : Cells}
theorem walkD_list {a : Addr} {vs : List V} {ds : List D} (h : ∀ H, Same F H → Has H M → SqL K H a vs) (r : RpAll K F vs ds) : WalkD K F M (Itl K a) ds := by
  refine ⟨_, _, by rw [← r.len]; exact walk_list (xs := vs), h, ?_⟩
  rintro i H x H' F1 M1 hi s o ⟨rfl, hx⟩
  obtain ⟨d, hd, rd⟩ := r.getV hx
  exact ⟨d, F1, hd, Same.refl _, o, rd.mono s⟩
theorem walkD_tup {a : Addr} {vs : List V} {ds : List D} (h : SqT K F a vs) (r : RpAll K F vs ds) : WalkD K F M (Itt K a) ds := by
  refine ⟨_, _, by rw [← r.len]; exact walk_tup (xs := vs), fun H s _ => Same.tup s h, ?_⟩
  rintro i H x H' F1 M1 hi s o ⟨rfl, hx⟩
  obtain ⟨d, hd, rd⟩ := r.getV hx
  exact ⟨d, F1, hd, Same.refl _, o, rd.mono s⟩
/-- lo, lo + 1, .. -/
def rng (lo : Int) (n : Nat) : List D := (List.range n).map fun i => .int (lo + (i : Nat))
theorem rng_len (lo : Int) (n : Nat) : (rng lo n).length = n := by
  unfold rng
  rw [List.length_map, List.length_range]
theorem rng_get {lo : Int} {n i : Nat} {d : D} (h : (rng lo n)[i]? = some d) : i < n ∧ d = .int (lo + i) := by
  unfold rng at h
  rw [List.getElem?_map] at h
  by_cases hi : i < n
  · rw [List.getElem?_range hi] at h
    exact ⟨hi, (Option.some.inj h).symm⟩
  · rw [List.getElem?_eq_none (by rw [List.length_range]; omega)] at h
    cases h
theorem rng_at {lo : Int} {n i : Nat} (h : i < n) : (rng lo n)[i]? = some (.int (lo + i)) := by
  unfold rng
  rw [List.getElem?_map, List.getElem?_range h]
  rfl
theorem walkD_range {lo : Int} {n : Nat} : WalkD K F M (Itr lo n) (rng lo n) := by
  refine ⟨_, _, by rw [rng_len]; exact walk_range (lo := lo) (n := n), fun _ _ _ => trivial, ?_⟩
  rintro i H x H' F1 M1 hi s o ⟨rfl, rfl⟩
  rw [rng_len] at hi
  exact ⟨_, F1, rng_at hi, Same.refl _, o, .int _⟩
/-- downwards -/
def rngD (hi : Int) (n : Nat) : List D := (List.range n).map fun i => .int (hi + (i : Nat) * (-1))
theorem rngD_len (lo : Int) (n : Nat) : (rngD lo n).length = n := by
  unfold rngD
  rw [List.length_map, List.length_range]
theorem walkD_down {lo : Int} {n : Nat} : WalkD K F M (Itc lo (-1) n) (rngD lo n) := by
  refine ⟨_, _, by rw [rngD_len]; exact walk_rangeC (lo := lo) (c := -1) (n := n), fun _ _ _ => trivial, ?_⟩
  rintro i H x H' F1 M1 hi s o ⟨rfl, rfl⟩
  rw [rngD_len] at hi
  refine ⟨.int (lo + (i : Nat) * (-1)), F1, ?_, Same.refl _, o, .int _⟩
  unfold rngD
  rw [List.getElem?_map, List.getElem?_range hi]
  rfl
def enumD (ds : List D) : List D := (List.range ds.length).zipWith (fun i d => .tup [.int (i : Nat), d]) ds
theorem enumD_len (ds : List D) : (enumD ds).length = ds.length := by
  unfold enumD
  rw [List.length_zipWith, List.length_range, Nat.min_self]
theorem enumD_get {ds : List D} {i : Nat} {d : D} (h : ds[i]? = some d) : (enumD ds)[i]? = some (.tup [.int (i : Nat), d]) := by
  unfold enumD
  have hi : i < ds.length := (List.getElem?_eq_some_iff.mp h).1
  rw [List.getElem?_zipWith, List.getElem?_range hi, h]
theorem walkD_enum {a : Addr} {vs : List V} {ds : List D} (h : ∀ H, Same F H → Has H M → SqL K H a vs) (r : RpAll K F vs ds) : WalkD K F M (Ite K a) (enumD ds) := by
  refine ⟨_, _, by rw [enumD_len, ← r.len]; exact walk_enum (xs := vs), h, ?_⟩
  rintro i H x H' F1 M1 hi s o ⟨T, x1, x2, rfl, hT, rfl, e1, e2⟩
  cases e1
  obtain ⟨d, hd, rd⟩ := r.getV e2
  have n := o.free hT
  exact ⟨_, _, enumD_get hd, same_upd n, o.newF hT, .tup (SqT.of upd_same) (.cons (.int _) (.cons (rd.mono (s.trans (same_upd n))) .nil))⟩
def chars (z : Str) : List D := z.cps.toList.map fun c => .str ⟨#[c]⟩
theorem walkD_str {z : Str} : WalkD K F M (Its z) (chars z) := by
  have hl : (chars z).length = z.cps.size := by
    unfold chars
    rw [List.length_map, Array.length_toList]
  refine ⟨_, _, by rw [hl]; exact walk_str (z := z), fun _ _ _ => trivial, ?_⟩
  rintro i H x H' F1 M1 hi s o ⟨rfl, c, hc, rfl⟩
  refine ⟨.str ⟨#[c]⟩, F1, ?_, Same.refl _, o, .str _⟩
  unfold chars
  rw [List.getElem?_map, Array.getElem?_toList, hc]
  rfl
end
/-! ### for, with a source that stays -/
abbrev FI := Env → (List D → Env → Prop) → WP → Prop
def LIX (K : PySem.W.Frag) (W : WX) (f : FI) : TI := fun σ H R => ∃ env F M M0 q w, Rep K F σ env M ∧ Own F (M ++ M0) H ∧ f env q w ∧ (∀ ds env' J F' M' H', q ds env' → Same F F' → WalkD K F' [] J ds → Rep K F' σ env' M' → Own F' (M' ++ M0) H' → R J H') ∧ WFit K F M0 W w
def PIX (X : Cx) (K : PySem.W.Frag) (W : WX) (tg it : Expr) (f : FI) : Prop := X.K = K → PI X tg it (LIX K W f)
theorem pi_imp {X : Cx} {tg it : Expr} {t t' : TI} (h : PI X tg it t) (i : ∀ σ H R, t' σ H R → t σ H R) : PI X tg it t' := ⟨fun pins s σ H R I q => h.run pins s σ H R I (i σ H R q)⟩
def iL1 (f : FX) : FI := fun env q w => xD f env w fun d env' => ∃ ds, d = .lst ds ∧ q ds env'
def iT1 (f : FX) : FI := fun env q w => xD f env w fun d env' => ∃ ds, d = .tup ds ∧ q ds env'
def iR1 (f : FX) : FI := fun env q w => xD f env w fun d env' => ∃ n, d = .int n ∧ n < 2 ^ 62 ∧ -(2 ^ 62) ≤ n ∧ q (rng 0 n.toNat) env'
def iR2 (fa fb : FX) : FI := fun env q w => xD fa env w fun d1 env1 => xD fb env1 w fun d2 env2 => ∃ m n, d1 = .int m ∧ d2 = .int n ∧ (-(2 ^ 62) ≤ m ∧ m < 2 ^ 62 ∧ -(2 ^ 62) ≤ n ∧ n < 2 ^ 62) ∧ q (rng m (n - m).toNat) env2
def iDn (fa fb : FX) : FI := fun env q w => xD fa env w fun d1 env1 => xD fb env1 w fun d2 env2 => ∃ m n, d1 = .int m ∧ d2 = .int n ∧ (-(2 ^ 62) ≤ m ∧ m < 2 ^ 62 ∧ -(2 ^ 62) ≤ n ∧ n < 2 ^ 62) ∧ q (rngD m (m - n).toNat) env2
def iE1 (f : FX) : FI := fun env q w => xD f env w fun d env' => ∃ ds, d = .lst ds ∧ q (enumD ds) env'
def iS1 (f : FX) : FI := fun env q w => xD f env w fun d env' => ∃ z, d = .str z ∧ q (chars z) env'
section
variable {X : Cx} {K : PySem.W.Frag} {W : WX} {e a b tg : Expr} {f fa fb : FX} {p pos : Pos}
theorem pix_l (h : PX X K W e f) : PIX X K W tg e (iL1 f) := fun hK => by
  subst hK
  refine pi_imp (pi_list (h rfl)) fun σ H R ⟨env, F, M, M0, q, w, rp, o, h, k, kw⟩ => ?_
  refine lx_d rp o h kw fun d env1 v F1 M1 H1 ⟨ds, hd, hq⟩ s1 r1 rp1 o1 => ?_
  subst hd
  obtain ⟨a, vs, rfl, ha, r⟩ := rp_lst r1
  exact ⟨a, rfl, ⟨vs, SqL.of (o1.fr _ _ ha)⟩, k ds env1 _ F1 M1 H1 hq s1 (walkD_list (fun H s _ => SqL.of (s _ _ ha)) r) rp1 o1⟩
theorem pix_t (h : PX X K W e f) : PIX X K W tg e (iT1 f) := fun hK => by
  subst hK
  refine pi_imp (pi_tup (h rfl)) fun σ H R ⟨env, F, M, M0, q, w, rp, o, h, k, kw⟩ => ?_
  refine lx_d rp o h kw fun d env1 v F1 M1 H1 ⟨ds, hd, hq⟩ s1 r1 rp1 o1 => ?_
  subst hd
  obtain ⟨a, vs, rfl, ha, r⟩ := rp_tup r1
  exact ⟨a, rfl, ⟨vs, Same.tup o1.fr ha⟩, k ds env1 _ F1 M1 H1 hq s1 (walkD_tup ha r) rp1 o1⟩
theorem pix_s (h : PX X K W e f) : PIX X K W tg e (iS1 f) := fun hK => by
  refine pi_imp (pi_str (h hK)) fun σ H R ⟨env, F, M, M0, q, w, rp, o, h, k, kw⟩ => ?_
  refine lx_d rp o h kw fun d env1 v F1 M1 H1 ⟨ds, hd, hq⟩ s1 r1 rp1 o1 => ?_
  subst hd
  cases r1
  exact ⟨_, rfl, k _ env1 _ F1 M1 H1 hq s1 walkD_str rp1 o1⟩
theorem pix_r1 (hm : X.mg "range" = none) (h : PX X K W e f) (hg : Gl X "range" := by rfl) (hs : starEach [e] X.env = [(false, eval e X.env)] := by rfl) : PIX X K W tg (.Call (.Name "range" p) [e] [] pos) (iR1 f) := fun hK => by
  refine pi_imp (pi_range1 hg hm (pa_cons (h hK) pa_nil hs) hs) fun σ H R ⟨env, F, M, M0, q, w, rp, o, h, k, kw⟩ => ?_
  refine lx_d rp o h kw fun d env1 v F1 M1 H1 ⟨n, hd, h1, h2, hq⟩ s1 r1 rp1 o1 => ?_
  subst hd
  cases r1
  exact ⟨n, rfl, h2, h1, k _ env1 _ F1 M1 H1 hq s1 walkD_range rp1 o1⟩
theorem pix_r2 (hm : X.mg "range" = none) (h : PX X K W a fa) (h' : PX X K W b fb) (hg : Gl X "range" := by rfl) (hs : starEach [a, b] X.env = [(false, eval a X.env), (false, eval b X.env)] := by rfl) (hs2 : starEach [b] X.env = [(false, eval b X.env)] := by rfl) (hs3 : starEach [a, b] X.env = (false, eval a X.env) :: starEach [b] X.env := by rfl) : PIX X K W tg (.Call (.Name "range" p) [a, b] [] pos) (iR2 fa fb) := fun hK => by
  refine pi_imp (pi_range2 hg hm (pa_cons (h hK) (pa_cons (h' hK) pa_nil hs2) hs3) hs hs2) fun σ H R ⟨env, F, M, M0, q, w, rp, o, h, k, kw⟩ => ?_
  refine lx_d rp o h kw fun d env1 v F1 M1 H1 h1 s1 r1 rp1 o1 => lx_d rp1 o1 h1 (kw.up s1) fun d2 env2 v2 F2 M2 H2 ⟨m, n, e1, e2, hb, hq⟩ s2 r2 rp2 o2 => ?_
  subst e1 e2
  cases r1
  cases r2
  exact ⟨m, n, rfl, hb, k _ env2 _ F2 M2 H2 hq (s1.trans s2) walkD_range rp2 o2⟩
theorem pix_dn (hm : X.mg "range" = none) {j : Nat} {p1 p2 : Pos} (h : PX X K W a fa) (h' : PX X K W b fb) (hr : ∀ {ta tb : TE}, PE X a ta → PE X b tb → PI X tg (.Call (.Name "range" p) [a, b, .UnaryOp .USub (.Constant (.int 1) j p1) p2] [] pos) (iRng3 (tCons ta (tCons tb (tCons (tUn (rU fun i => .int (-i)) (tC (.int 1))) tNil))))) :
    PIX X K W tg (.Call (.Name "range" p) [a, b, .UnaryOp .USub (.Constant (.int 1) j p1) p2] [] pos) (iDn fa fb) := fun hK => by
  refine pi_imp (hr (h hK) (h' hK)) fun σ H R ⟨env, F, M, M0, q, w, rp, o, h, k, kw⟩ => ?_
  refine lx_d rp o h kw fun d env1 v F1 M1 H1 h1 s1 r1 rp1 o1 => lx_d rp1 o1 h1 (kw.up s1) fun d2 env2 v2 F2 M2 H2 ⟨m, n, e1, e2, hb, hq⟩ s2 r2 rp2 o2 => ?_
  subst e1 e2
  cases r1
  cases r2
  exact ⟨1, rfl, m, n, -1, (m - n).toNat, rfl, RgC.neg hb.1 hb.2.1 hb.2.2.1 hb.2.2.2, k _ env2 _ F2 M2 H2 hq (s1.trans s2) walkD_down rp2 o2⟩
theorem pix_e {elts : List Expr} {kk : Nat} {tpos : Pos} (hm : X.mg "enumerate" = none) (h : PX X K W e f) (hg : Gl X "enumerate" := by rfl) (hs : starEach [e] X.env = [(false, eval e X.env)] := by rfl) : PIX X K W (.Tuple elts kk tpos) (.Call (.Name "enumerate" p) [e] [] pos) (iE1 f) := fun hK => by
  subst hK
  refine pi_imp (pi_enum hg hm (pa_cons (h rfl) pa_nil hs) hs) fun σ H R ⟨env, F, M, M0, q, w, rp, o, h, k, kw⟩ => ?_
  refine lx_d rp o h kw fun d env1 v F1 M1 H1 ⟨ds, hd, hq⟩ s1 r1 rp1 o1 => ?_
  subst hd
  obtain ⟨a, vs, rfl, ha, r⟩ := rp_lst r1
  exact ⟨a, vs, rfl, SqL.of (o1.fr _ _ ha), k _ env1 _ F1 M1 H1 hq s1 (walkD_enum (fun H s _ => SqL.of (s _ _ ha)) r) rp1 o1⟩
end
/-! ### targets -/
abbrev Tg := D → Env → Option Env
abbrev Tgs := List D → Env → Option Env
/-- the slots in l may have changed -/
def Off (l : List Nat) (σ σ' : L2.St) : Prop := σ'.length = σ.length ∧ ∀ j, j ∉ l → σ'[j]? = σ[j]?
def LTg (K : PySem.W.Frag) (l : List Nat) (st : Tg) : TG := fun v σ H Q => ∃ env F M M0 d env', Rep K F σ env M ∧ Own F (M ++ M0) H ∧ Rp K F v d ∧ st d env = some env' ∧ ∀ σ' M' T, Off l σ σ' → M.Perm (T ++ M') → Rep K F σ' env' M' → Q σ' H
def LTgs (K : PySem.W.Frag) (l : List Nat) (st : Tgs) : TGs := fun vs σ H Q => ∃ env F M M0 ds env', Rep K F σ env M ∧ Own F (M ++ M0) H ∧ RpAll K F vs ds ∧ st ds env = some env' ∧ ∀ σ' M' T, Off l σ σ' → M.Perm (T ++ M') → Rep K F σ' env' M' → Q σ' H
def PTg (X : Cx) (K : PySem.W.Frag) (tg : Expr) (l : List Nat) (st : Tg) : Prop := X.K = K → PG X tg (LTg K l st)
def PTgs (X : Cx) (K : PySem.W.Frag) (tg : List Expr) (l : List Nat) (st : Tgs) : Prop := X.K = K → PGs X tg (LTgs K l st)
def stN (i : Nat) : Tg := fun d env => if i < env.length then some (env.set i (some (.fz d))) else none
def stNil : Tgs := fun ds env => match ds with
  | [] => some env
  | _ => none
def stCons (a : Tg) (b : Tgs) : Tgs := fun ds env => match ds with
  | d :: ds => match a d env with
    | some env' => b ds env'
    | none => none
  | [] => none
def stT (n : Nat) (b : Tgs) : Tg := fun d env => match d with
  | .tup ds => if ds.length = n then b ds env else none
  | _ => none
section
variable {X : Cx} {K : PySem.W.Frag} {e tg : Expr} {es : List Expr} {l l' : List Nat} {st : Tg} {sts : Tgs} {pos : Pos} {i n : Nat}
theorem pg_imp {t t' : TG} (h : PG X tg t) (im : ∀ v σ H Q, t' v σ H Q → t v σ H Q) : PG X tg t' := ⟨fun pins s σ H v u Q I r q => h.run pins s σ H v u Q I r (im v σ H Q q)⟩
theorem pgs_imp {t t' : TGs} (h : PGs X es t) (im : ∀ v σ H Q, t' v σ H Q → t v σ H Q) : PGs X es t' := ⟨fun pins s σ H v u Q I r q => h.run pins s σ H v u Q I r (im v σ H Q q)⟩
theorem own_less {F H : Hp} {M T M' M0 : Cells} (p : M.Perm (T ++ M')) (o : Own F (M ++ M0) H) : Own F (M' ++ M0) H := by
  have z := o.perm (p.append_right M0)
  rw [List.append_assoc] at z
  exact z.sub (List.sublist_append_right T _)
theorem ptg_n (h : PG X tg (gName i)) : PTg X K tg [i] (stN i) := fun hK => pg_imp h fun v σ H Q ⟨env, F, M, M0, d, env', rp, o, r, hst, k⟩ => by
  unfold stN at hst
  split at hst
  · rename_i hi
    cases hst
    obtain ⟨A, S0, B, hM, put⟩ := rp.put hi
    subst hM
    refine k _ _ S0 ⟨List.length_set, fun j hj => ?_⟩ (perm_mid A S0 B) (put F (.fz d) v [] (Same.refl _) ⟨rfl, r⟩)
    rw [List.getElem?_set_ne fun z => hj (by rw [z]; exact List.mem_singleton.mpr rfl)]
  · cases hst
theorem ptgs_nil : PTgs X K [] [] stNil := fun hK => pgs_imp pgs_nil fun vs σ H Q ⟨env, F, M, M0, ds, env', rp, o, r, hst, k⟩ => by
  unfold stNil at hst
  split at hst
  · cases hst
    cases r
    exact ⟨rfl, k σ M [] ⟨rfl, fun _ _ => rfl⟩ (.refl _) rp⟩
  · cases hst
theorem Off.trans {l l' : List Nat} {σ σ' σ'' : L2.St} (a : Off l σ σ') (b : Off l' σ' σ'') : Off (l ++ l') σ σ'' := ⟨b.1.trans a.1, fun j hj => (b.2 j fun z => hj (List.mem_append_right _ z)).trans (a.2 j fun z => hj (List.mem_append_left _ z))⟩
theorem ptgs_cons (h : PTg X K e l st) (t : PTgs X K es l' sts) (hs : (assignEach (e :: es) X.env).map (·.2) = assign e X.env :: (assignEach es X.env).map (·.2) := by rfl) : PTgs X K (e :: es) (l ++ l') (stCons st sts) := fun hK => pgs_imp (pgs_cons (h hK) (t hK) hs) fun vs σ H Q ⟨env, F, M, M0, ds, env', rp, o, r, hst, k⟩ => by
  unfold stCons at hst
  split at hst
  · split at hst
    · rename_i d ds _ env1 q
      cases r with
      | cons r1 r2 =>
        exact ⟨_, _, rfl, ⟨env, F, M, M0, d, env1, rp, o, r1, q, fun σ1 M1 T1 of1 p1 rp1 => ⟨env1, F, M1, M0, ds, env', rp1, own_less p1 o, r2, hst, fun σ2 M2 T2 of2 p2 rp2 => k σ2 M2 (T1 ++ T2) (of1.trans of2) (by rw [List.append_assoc]; exact p1.trans (p2.append_left T1)) rp2⟩⟩⟩
    · cases hst
  · cases hst
theorem ptg_t {k : Nat} (hc : X.calm = true) (h : PTgs X K es l sts) (hn : (assignEach es X.env).length = n := by rfl) (hst : (assignEach es X.env).findIdx? (·.1) = none := by rfl) : PTg X K (.Tuple es k pos) l (stT n sts) := fun hK => by
  subst hK
  refine pg_imp (pg_tup hc (h rfl) hn hst) fun v σ H Q ⟨env, F, M, M0, d, env', rp, o, r, hst, k⟩ => ?_
  unfold stT at hst
  split at hst
  · split at hst
    · rename_i hl
      obtain ⟨a, vs, rfl, ha, ra⟩ := rp_tup r
      exact ⟨a, vs, rfl, Same.tup o.fr ha, by rw [ra.len]; exact hl, ⟨env, F, M, M0, _, env', rp, o, ra, hst, k⟩⟩
    · cases hst
  · cases hst
end
/-! ### for, while -/
def sFor (fi : FI) (st : Tg) (f : FSt) : FSt := fun env e => fi env (fun ds env1 => ∃ I : Nat → Env → Prop, I 0 env1 ∧ (∀ i d env2, ds[i]? = some d → I i env2 → ∃ env3, st d env2 = some env3 ∧ f env3 { e with nx := I (i + 1), ct := I (i + 1), bk := e.nx }) ∧ ∀ env2, I ds.length env2 → e.nx env2) e.ex
def sWhile (t : FT) (f : FSt) : FSt := fun env e => ∃ I : Nat → Env → Prop, (∃ m, I m env) ∧ ∀ m env, I m env → t env (fun c env' => if c = true then f env' { e with nx := fun env2 => ∃ m', m' < m ∧ I m' env2, ct := fun env2 => ∃ m', m' < m ∧ I m' env2, bk := e.nx } else e.nx env') e.ex
section
variable {X : Cx} {K : PySem.W.Frag} {W : WX} {e tg it : Expr} {body : List Stmt} {l : List Nat} {st : Tg} {fi : FI} {ft : FT} {f : FSt} {pos : Pos}
theorem pp_for (hp : PassesOwn (model X.prog X.w) X.A X.env X.xe) (hc : X.calm = true) (hi : PIX X K W tg it fi) (hg : PTg X K tg l st) (hb : PPs X K W body f) (hs : ∀ x, foldedSetIterable it X.env x = pure x := by intro _; rfl) : PP X K W (.For tg it body [] pos) (sFor fi st f) := fun hK => ps_imp (ps_for hp hc (hi hK) (hg hK) (hb hK) hs) fun E σ H ⟨env, F, M, M0, e, rp, o, h, ft⟩ =>
  ⟨env, F, M, M0, _, _, rp, o, h, fun ds env1 J F1 M1 H1 ⟨I, h0, hs, hd⟩ s1 wk rp1 o1 => by
    obtain ⟨Gd, Y, w, g, y⟩ := wk
    refine for_it w (fun i σ' H' => ∃ env' F' M', Same F1 F' ∧ Rep K F' σ' env' M' ∧ Own F' (M' ++ M0) H' ∧ I i env') ⟨env1, F1, M1, Same.refl _, rp1, o1, h0⟩ ?_ ?_ ?_
    · rintro i σ' H' _ ⟨env', F', M', s', rp', o', _⟩
      exact g H' (s'.trans o'.fr) fun _ z => (nomatch z)
    · rintro i x σ' H' H2 hi ⟨env', F', M', s', rp', o', hI⟩ hy
      obtain ⟨d, F2, hd', s2, o2, rd⟩ := y i H' x H2 F' (M' ++ M0) hi s' o' hy
      obtain ⟨env3, hst, hf⟩ := hs i d env' hd' hI
      refine ⟨env', F2, M', M0, d, env3, rp'.mono s2, o2, rd, hst, fun σ3 M3 T3 _ p3 rp3 => ⟨env3, F2, M3, M0, _, rp3, own_less p3 o2, hf, ?_⟩⟩
      have sF : Same F F2 := s1.trans (s'.trans s2)
      exact ⟨fun env4 σ4 F4 M4 H4 q s4 rp4 o4 => ⟨env4, F4, M4, (s'.trans s2).trans s4, rp4, o4, q⟩, (ft.up sF).rt, fun env4 σ4 F4 M4 H4 q s4 rp4 o4 => ft.nx env4 σ4 F4 M4 H4 q (sF.trans s4) rp4 o4, fun env4 σ4 F4 M4 H4 q s4 rp4 o4 => ⟨env4, F4, M4, (s'.trans s2).trans s4, rp4, o4, q⟩, ft.ex.up sF⟩
    · rintro σ' H' ⟨env', F', M', s', rp', o', hI⟩
      exact ft.nx env' σ' F' M' H' (hd env' hI) (s1.trans s') rp' o', ft.ex⟩
theorem pp_while (hp : PassesOwn (model X.prog X.w) X.A X.env X.xe) (hc : PXT X K W e ft) (hb : PPs X K W body f) : PP X K W (.While e body [] pos) (sWhile ft f) := fun hK => ps_imp (ps_while hp (hc hK) (hb hK)) fun E σ H ⟨env, F, M, M0, e, rp, o, ⟨I, ⟨m0, h0⟩, ht⟩, ft⟩ => by
  refine ⟨fun m σ' H' => ∃ env' F' M', Same F F' ∧ Rep K F' σ' env' M' ∧ Own F' (M' ++ M0) H' ∧ I m env', ⟨m0, env, F, M, Same.refl _, rp, o, h0⟩, ?_⟩
  rintro m σ' H' ⟨env', F', M', s', rp', o', hI⟩
  refine ⟨env', F', M', M0, _, _, rp', o', ht m env' hI, fun c env2 F2 M2 H2 hq s2 rp2 o2 => ?_, ft.ex.up s'⟩
  cases c with
  | true =>
    rw [if_pos rfl] at hq ⊢
    refine ⟨fun σ4 H4 => ∃ env4 F4 M4, Same F F4 ∧ Rep K F4 σ4 env4 M4 ∧ Own F4 (M4 ++ M0) H4 ∧ ∃ m', m' < m ∧ I m' env4, ?_, ?_⟩
    · rintro σ4 H4 ⟨env4, F4, M4, s4, rp4, o4, m', hm, hI⟩
      exact ⟨m', hm, env4, F4, M4, s4, rp4, o4, hI⟩
    · have sF : Same F F2 := s'.trans s2
      exact ⟨env2, F2, M2, M0, _, rp2, o2, hq, ⟨fun env4 σ4 F4 M4 H4 q s4 rp4 o4 => ⟨env4, F4, M4, sF.trans s4, rp4, o4, q⟩, (ft.up sF).rt, fun env4 σ4 F4 M4 H4 q s4 rp4 o4 => ft.nx env4 σ4 F4 M4 H4 q (sF.trans s4) rp4 o4, fun env4 σ4 F4 M4 H4 q s4 rp4 o4 => ⟨env4, F4, M4, sF.trans s4, rp4, o4, q⟩, ft.ex.up sF⟩⟩
  | false =>
    rw [if_neg Bool.false_ne_true] at hq ⊢
    exact ft.nx env2 σ' F2 M2 H2 hq (s'.trans s2) rp2 o2
end
end Pu

/-! ## Pu: comprehensions; bodies of defs -/
namespace Pu
open PySem PySem.Spec PyProof.Rows L2 Ed
def sAsg (f : FX) (st : Tg) : FSt := fun env e => xD f env e.ex fun d env1 => ∃ env2, st d env1 = some env2 ∧ e.nx env2
section
variable {X : Cx} {K : PySem.W.Frag} {W : WX} {e tg : Expr} {fx : FX} {l : List Nat} {st : Tg} {pos : Pos}
theorem pp_asg {s : Stmt} (h : PS X s (tAsg (LX K W fx) (LTg K l st))) : PP X K W s (sAsg fx st) := fun hK => ps_imp h fun E σ H ⟨env, F, M, M0, e, rp, o, h, ft⟩ =>
  lx_d rp o h ft.ex fun d env1 v F1 M1 H1 ⟨env2, hst, hq⟩ s1 r1 rp1 o1 => ⟨env1, F1, M1, M0, d, env2, rp1, o1, r1, hst, fun σ' M' T _ p rp' => ft.nx env2 σ' F1 M' H1 hq s1 rp' (own_less p o1)⟩
end
/-! ### comprehensions without effects -/
def wipeE (env : Env) : List Nat → Env
  | [] => env
  | v :: vs => (wipeE env vs).set v none
theorem rep_wipe {K : PySem.W.Frag} {F : Hp} {σ : L2.St} {env : Env} {M : Cells} (rp : Rep K F σ env M) : ∀ vs, ∃ M', M'.Sublist M ∧ Rep K F (wipe σ vs) (wipeE env vs) M'
  | [] => ⟨M, List.Sublist.refl _, rp⟩
  | v :: vs => by
    obtain ⟨M1, s1, r1⟩ := rep_wipe rp vs
    obtain ⟨M2, s2, r2⟩ := r1.drop v
    exact ⟨M2, s2.trans s1, r2⟩
theorem wipe_in {σ : L2.St} {j : Nat} : ∀ {vs : List Nat}, j ∈ vs → (wipe σ vs)[j]? = if j < σ.length then some none else none
  | v :: vs, h => by
    unfold wipe
    by_cases e : v = j
    · subst e
      by_cases hl : v < σ.length
      · rw [if_pos hl, List.getElem?_set_self (by rw [wipe_length]; exact hl)]
      · rw [if_neg hl, List.getElem?_eq_none (by rw [List.length_set, wipe_length]; omega)]
    · rw [List.getElem?_set_ne e]
      rcases List.mem_cons.mp h with h | h
      · exact absurd h.symm e
      · exact wipe_in h
theorem wipe_off {σ σ' : L2.St} {l vs : List Nat} (h : Off l (wipe σ vs) σ') (hl : ∀ i ∈ l, i ∈ vs) : wipe σ' vs = wipe σ vs := by
  apply List.ext_getElem?
  intro j
  have hlen : σ'.length = σ.length := by rw [h.1, wipe_length]
  by_cases hj : j ∈ vs
  · rw [wipe_in hj, wipe_in hj, hlen]
  · rw [wipe_out hj, wipe_out hj, h.2 j fun z => hj (hl j z), wipe_out hj]
abbrev GI := Env → Option (List D)
def LI (K : PySem.W.Frag) (gi : GI) : TI := fun σ H R => ∃ env F M M0 ds, Rep K F σ env M ∧ Own F (M ++ M0) H ∧ gi env = some ds ∧ ∀ J F' H', Same F F' → Own F' (M ++ M0) H' → WalkD K F' M J ds → R J H'
def PIt (X : Cx) (K : PySem.W.Frag) (tg it : Expr) (gi : GI) : Prop := X.K = K → PI X tg it (LI K gi)
def giL (g : G) : GI := fun env => match g env with
  | some n => kidsL n
  | none => none
def giT (g : G) : GI := fun env => match g env with
  | some (.f (.tup ds)) => some ds
  | _ => none
def giR (g : G) : GI := fun env => match g env with
  | some (.f (.int n)) => if n < 2 ^ 62 ∧ -(2 ^ 62) ≤ n then some (rng 0 n.toNat) else none
  | _ => none
def giR2 (g g' : G) : GI := fun env => match g env, g' env with
  | some (.f (.int m)), some (.f (.int n)) => if -(2 ^ 62) ≤ m ∧ m < 2 ^ 62 ∧ -(2 ^ 62) ≤ n ∧ n < 2 ^ 62 then some (rng m (n - m).toNat) else none
  | _, _ => none
def giS (g : G) : GI := fun env => match g env with
  | some (.f (.str z)) => some (chars z)
  | _ => none
def giE (g : G) : GI := fun env => match g env with
  | some n => (kidsL n).map enumD
  | none => none
section
variable {X : Cx} {K : PySem.W.Frag} {e e' tg elt it : Expr} {g g' : G} {gi : GI} {p pos : Pos}
theorem pit_l (h : PD X K e g) : PIt X K tg e (giL g) := fun hK => by
  subst hK
  refine pi_imp (pi_list (h rfl)) fun σ H R ⟨env, F, M, M0, ds, rp, o, h, k⟩ => ?_
  unfold giL at h
  split at h
  · rename_i n hn
    refine ⟨env, F, M, M0, n, rp, o, hn, fun v F' H' s' o' w => ?_⟩
    unfold kidsL at h
    split at h
    · cases h
      obtain ⟨a, vs, rfl, ha, r⟩ := rp_lst w.f
      exact ⟨a, rfl, ⟨vs, SqL.of (o'.fr _ _ ha)⟩, k _ F' H' s' o' (walkD_list (fun H s _ => SqL.of (s _ _ ha)) r)⟩
    · obtain ⟨S, w, hs⟩ := w
      have e := fds_inv h
      subst e
      obtain ⟨vs, rfl, rfl, r⟩ := ol_inv w
      have hm := hs _ List.mem_cons_self
      exact ⟨_, rfl, ⟨vs, SqL.of (o'.mu _ (List.mem_append_left _ hm))⟩, k _ F' H' s' o' (walkD_list (fun H s hh => SqL.of (hh _ hm)) r)⟩
    · cases h
  · cases h
theorem pit_t (h : PD X K e g) : PIt X K tg e (giT g) := fun hK => by
  subst hK
  refine pi_imp (pi_tup (h rfl)) fun σ H R ⟨env, F, M, M0, ds, rp, o, h, k⟩ => ?_
  unfold giT at h
  split at h
  · rename_i n hn
    cases h
    refine ⟨env, F, M, M0, _, rp, o, hn, fun v F' H' s' o' w => ?_⟩
    obtain ⟨a, vs, rfl, ha, r⟩ := rp_tup w.f
    exact ⟨a, rfl, ⟨vs, Same.tup o'.fr ha⟩, k _ F' H' s' o' (walkD_tup ha r)⟩
  · cases h
theorem pit_s (h : PD X K e g) : PIt X K tg e (giS g) := fun hK => by
  refine pi_imp (pi_str (h hK)) fun σ H R ⟨env, F, M, M0, ds, rp, o, h, k⟩ => ?_
  unfold giS at h
  split at h
  · rename_i n hn
    cases h
    refine ⟨env, F, M, M0, _, rp, o, hn, fun v F' H' s' o' w => ?_⟩
    cases w.f
    exact ⟨_, rfl, k _ F' H' s' o' walkD_str⟩
  · cases h
theorem pit_r (hm : X.mg "range" = none) (h : PD X K e g) (hg : Gl X "range" := by rfl) (hs : starEach [e] X.env = [(false, eval e X.env)] := by rfl) : PIt X K tg (.Call (.Name "range" p) [e] [] pos) (giR g) := fun hK => by
  refine pi_imp (pi_range1 hg hm (pa_cons (h hK) pa_nil hs) hs) fun σ H R ⟨env, F, M, M0, ds, rp, o, h, k⟩ => ?_
  unfold giR at h
  split at h
  · rename_i n hn
    split at h
    · rename_i hb
      cases h
      refine ⟨env, F, M, M0, _, rp, o, hn, fun v F' H' s' o' w => ?_⟩
      cases w.f
      exact ⟨n, rfl, hb.2, hb.1, k _ F' H' s' o' walkD_range⟩
    · cases h
  · cases h
theorem pit_r2 (hm : X.mg "range" = none) (h : PD X K e g) (h' : PD X K e' g') (hg : Gl X "range" := by rfl) (hs : starEach [e, e'] X.env = [(false, eval e X.env), (false, eval e' X.env)] := by rfl) (hs2 : starEach [e'] X.env = [(false, eval e' X.env)] := by rfl) (hs3 : starEach [e, e'] X.env = (false, eval e X.env) :: starEach [e'] X.env := by rfl) : PIt X K tg (.Call (.Name "range" p) [e, e'] [] pos) (giR2 g g') := fun hK => by
  refine pi_imp (pi_range2 hg hm (pa_cons (h hK) (pa_cons (h' hK) pa_nil hs2) hs3) hs hs2) fun σ H R ⟨env, F, M, M0, ds, rp, o, h, k⟩ => ?_
  unfold giR2 at h
  split at h
  · rename_i m n hn hn'
    split at h
    · rename_i hb
      cases h
      refine ⟨env, F, M, M0, _, rp, o, hn, fun v F' H' s' o' w => ⟨env, F', M, M0, _, rp.mono s', o', hn', fun v2 F2 H2 s2 o2 w2 => ?_⟩⟩
      cases w.f
      cases w2.f
      exact ⟨m, n, rfl, hb, k _ F2 H2 (s'.trans s2) o2 walkD_range⟩
    · cases h
  · cases h
theorem pit_e {elts : List Expr} {kk : Nat} {tpos : Pos} (hm : X.mg "enumerate" = none) (h : PD X K e g) (hg : Gl X "enumerate" := by rfl) (hs : starEach [e] X.env = [(false, eval e X.env)] := by rfl) : PIt X K (.Tuple elts kk tpos) (.Call (.Name "enumerate" p) [e] [] pos) (giE g) := fun hK => by
  subst hK
  refine pi_imp (pi_enum hg hm (pa_cons (h rfl) pa_nil hs) hs) fun σ H R ⟨env, F, M, M0, ds, rp, o, h, k⟩ => ?_
  unfold giE at h
  split at h
  · rename_i n hn
    refine ⟨env, F, M, M0, n, rp, o, hn, fun v F' H' s' o' w => ?_⟩
    cases q : kidsL n with
    | none =>
      rw [q] at h
      cases h
    | some es =>
      rw [q] at h
      cases h
      unfold kidsL at q
      split at q
      · cases q
        obtain ⟨a, vs, rfl, ha, r⟩ := rp_lst w.f
        exact ⟨a, vs, rfl, SqL.of (o'.fr _ _ ha), k _ F' H' s' o' (walkD_enum (fun H s _ => SqL.of (s _ _ ha)) r)⟩
      · obtain ⟨S, w, hs⟩ := w
        have e := fds_inv q
        subst e
        obtain ⟨vs, rfl, rfl, r⟩ := ol_inv w
        have hm := hs _ List.mem_cons_self
        exact ⟨_, vs, rfl, SqL.of (o'.mu _ (List.mem_append_left _ hm)), k _ F' H' s' o' (walkD_enum (fun H s hh => SqL.of (hh _ hm)) r)⟩
      · cases q
  · cases h
end
def bYes : B := fun _ => some true
def PBs (X : Cx) (K : PySem.W.Frag) (ifs : List Expr) (b : B) : Prop := X.K = K → PTs X ifs (LB K b)
theorem pts_imp {X : Cx} {ifs : List Expr} {t t' : TT} (h : PTs X ifs t) (i : ∀ σ H Q, t' σ H Q → t σ H Q) : PTs X ifs t' := ⟨fun pins s σ H Q I q => h.run pins s σ H Q I (i σ H Q q)⟩
theorem pbs_nil {X : Cx} {K : PySem.W.Frag} : PBs X K [] bYes := fun _ => pts_imp pts_nil fun σ H Q ⟨env, F, M, M0, c, rp, o, hg, k⟩ => by
  cases hg
  exact k F H (Same.refl _) o
theorem pbs_one {X : Cx} {K : PySem.W.Frag} {e : Expr} {b : B} (h : PB X K e b) : PBs X K [e] b := fun hK => pts_one (h hK)
def comps (st : Tg) (c : B) (e : G) (env : Env) : List D → Option (List D)
  | [] => some []
  | d :: ds => match st d env with
    | none => none
    | some env' => match c env' with
      | some true => match e env', comps st c e env ds with
        | some (.f y), some r => some (y :: r)
        | _, _ => none
      | some false => comps st c e env ds
      | none => none
def gLc (gi : GI) (vs : List Nat) (st : Tg) (c : B) (e : G) : G := fun env => match gi env with
  | some ds => if ds.length ≤ sizeLine then (comps st c e (wipeE env vs) ds).map fun rs => .f (.lst rs) else none
  | none => none
theorem sub_perm {A M : Cells} (h : A.Sublist M) : ∃ R, M.Perm (A ++ R) := by
  obtain ⟨l, hl⟩ := h.exists_perm_append
  exact ⟨l, hl⟩
section
variable {X : Cx} {K : PySem.W.Frag} {e tg elt it : Expr} {ifs : List Expr} {scope : Scope} {own : List (Str × Nat)} {g : G} {gi : GI} {c : B} {st : Tg} {l : List Nat} {pos : Pos}
theorem comps_step {env : Env} {ds : List D} {i : Nat} {d : D} {r2 : List D} (hd : ds[i]? = some d) (h : comps st c g env (ds.drop i) = some r2) : ∃ env', st d env = some env' ∧
    ((c env' = some true ∧ ∃ y r, g env' = some (.f y) ∧ comps st c g env (ds.drop (i + 1)) = some r ∧ r2 = y :: r) ∨ (c env' = some false ∧ comps st c g env (ds.drop (i + 1)) = some r2)) := by
  have hi : i < ds.length := (List.getElem?_eq_some_iff.mp hd).1
  have e : ds.drop i = d :: ds.drop (i + 1) := by
    rw [List.drop_eq_getElem_cons hi]
    have := (List.getElem?_eq_some_iff.mp hd).2
    rw [this]
  rw [e] at h
  unfold comps at h
  split at h
  · cases h
  · rename_i env' hst
    refine ⟨env', hst, ?_⟩
    split at h
    · rename_i hc
      split at h
      · rename_i y r hy hr
        cases h
        exact .inl ⟨hc, y, r, hy, hr, rfl⟩
      · cases h
    · rename_i hc
      exact .inr ⟨hc, h⟩
    · cases h
/-- [elt for target in iter if ..] -/
theorem lcN_imp {vs : List Nat} (hl : ∀ i ∈ l, i ∈ vs) : ∀ σ H Q, LN K (gLc gi vs st c g) σ H Q → tLc (LI K gi) (LTg K l st) (LB K c) (LG K g) vs σ H Q := fun σ H Q ⟨env, F, M, M0, n, rp, o, hgl, k⟩ => by
  unfold gLc at hgl
  split at hgl
  · rename_i ds hds
    split at hgl
    · rename_i hsz
      cases hcs : comps st c g (wipeE env vs) ds with
      | none =>
        rw [hcs] at hgl
        cases hgl
      | some rs =>
        rw [hcs] at hgl
        cases hgl
        refine ⟨env, F, M, M0, ds, rp, o, hds, fun J F1 H1 s1 o1 wk => ?_⟩
        obtain ⟨Gd, Y, w, gd, y⟩ := wk
        obtain ⟨Mw, sub, rpw⟩ := rep_wipe (rp.mono s1) vs
        obtain ⟨R, hR⟩ := sub_perm sub
        refine lcb w o1 (fun i acc F' M' => Same F1 F' ∧ M' = M ++ M0 ∧ ∃ r1 r2, RpAll K F' acc r1 ∧ comps st c g (wipeE env vs) (ds.drop i) = some r2 ∧ rs = r1 ++ r2 ∧ acc.length ≤ i) ⟨Same.refl _, rfl, [], rs, .nil, hcs, rfl, Nat.zero_le _⟩ ?_ ?_ ?_
        · rintro Dd i acc F' M' H' _ ⟨s', rfl, _⟩ o'
          exact gd H' (s'.trans o'.fr) fun cc hcc => o'.mu cc (List.mem_cons_of_mem _ (List.mem_append_left _ hcc))
        · rintro Dd i x acc F' M' H' H'' hi ⟨s', rfl, r1, r2, ra, hc2, rfl, hla⟩ o' hy
          obtain ⟨d, F2, hd, s2, o2, rd⟩ := y i H' x H'' F' _ hi s' o' hy
          obtain ⟨env', hst, cs⟩ := comps_step hd hc2
          have pp : ((Dd, HO.lst acc) :: (M ++ M0)).Perm (Mw ++ ((Dd, HO.lst acc) :: (R ++ M0))) := by
            have a : (M ++ M0).Perm (Mw ++ (R ++ M0)) := by
              rw [← List.append_assoc]
              exact perm_tail hR
            exact (a.cons _).trans (perm_mid [(Dd, HO.lst acc)] Mw (R ++ M0))
          refine ⟨wipeE env vs, F2, Mw, (Dd, .lst acc) :: (R ++ M0), d, env', rpw.mono (s'.trans s2), o2.perm pp, rd, hst, fun σ2 M2 T of2 p2 rp2 => ⟨wipe_off of2 hl, ?_⟩⟩
          have sz : acc.length < sizeLine := by
            have := (List.getElem?_eq_some_iff.mp hd).1
            omega
          have pp2 : ((Dd, HO.lst acc) :: (M ++ M0)).Perm (M2 ++ ((Dd, HO.lst acc) :: (T ++ (R ++ M0)))) := by
            refine pp.trans ?_
            refine (p2.append_right _).trans ?_
            rw [List.append_assoc]
            refine (perm_mid T M2 _).trans ?_
            exact (perm_mid T [(Dd, HO.lst acc)] _).append_left M2
          have o3 : Own F2 (M2 ++ ((Dd, HO.lst acc) :: (T ++ (R ++ M0)))) H'' := o2.perm pp2
          rcases cs with ⟨hcc, z, r, hz, hr, rfl⟩ | ⟨hcc, hr⟩
          · refine ⟨env', F2, M2, _, true, rp2, o3, hcc, fun F4 H4 s4 o4 => ?_⟩
            refine iteT ?_
            refine ⟨env', F4, M2, _, _, rp2.mono s4, o4, hz, fun v F5 H5 s5 o5 w5 => ?_⟩
            refine lcN ⟨acc, F5, M ++ M0, sz, ⟨s'.trans (s2.trans (s4.trans s5)), rfl, r1 ++ [z], r, (ra.mono (s2.trans (s4.trans s5))).app (.cons w5.f .nil), hr, by rw [List.append_assoc]; rfl, ?_⟩, o5.perm pp2.symm⟩
            rw [List.length_append]
            show acc.length + 1 ≤ i + 1
            omega
          · refine ⟨env', F2, M2, _, false, rp2, o3, hcc, fun F4 H4 s4 o4 => ?_⟩
            refine iteF ?_
            exact ⟨acc, F4, M ++ M0, ⟨s'.trans (s2.trans s4), rfl, r1, r2, ra.mono (s2.trans s4), hr, rfl, by omega⟩, o4.perm pp2.symm⟩
        · rintro Dd acc F' M' H' nD ⟨s', rfl, r1, r2, ra, hc2, rfl, hla⟩ o'
          rw [List.drop_length] at hc2
          cases hc2
          refine k Dd _ [(Dd, .lst acc)] F' H' (s1.trans s') o' ?_
          rw [List.append_nil]
          exact ow_ol ra
    · cases hgl
  · cases hgl
theorem pn_lc (hc : X.calm = true) (hN : X.N.Nodup) (hi : PIt X K tg it gi) (ok : BlkOk X.N X.env.scope scope own) (hl : ∀ i ∈ l, i ∈ own.map (·.2))
    (hg : ∀ (s : Shared) (H : Hp) (C : Addr) (cl : List (Str × Addr)) (fp : List Addr), PTg (X.blk s H scope (compEnvC scope cl C X.env) fp) K tg l st)
    (ht : ∀ (s : Shared) (H : Hp) (C : Addr) (cl : List (Str × Addr)) (fp : List Addr), PBs (X.blk s H scope (compEnvC scope cl C X.env) fp) K ifs c)
    (he : ∀ (s : Shared) (H : Hp) (C : Addr) (cl : List (Str × Addr)) (fp : List Addr), PD (X.blk s H scope (compEnvC scope cl C X.env) fp) K elt g) (hs : ∀ x, foldedSetIterable it X.env x = pure x := by intro _; rfl) :
    PN X K (.ListComp elt [⟨tg, it, ifs, 0⟩] scope pos) (gLc gi (own.map (·.2)) st c g) := fun hK =>
  pe_imp (pe_lc hc hN (hi hK) ok (fun s H C cl fp => hg s H C cl fp hK) (fun s H C cl fp => ht s H C cl fp hK) (fun s H C cl fp => he s H C cl fp hK) hs) (lcN_imp hl)
end
/-! ### bodies of defs -/
/-- where a container is laid -/
def N.ad : N → Option Addr
  | .f _ => none
  | .lst a _ => some a
  | .tup a _ => some a
  | .dic a _ => some a
  | .obj a _ _ _ => some a
theorem Ow.ad {K : PySem.W.Frag} {F : Hp} {v : V} {n : N} {S : Cells} {a : Addr} (h : Ow K F v n S) (e : n.ad = some a) : v = .ref a := by
  cases h with
  | f h => cases e
  | _ =>
    cases e
    rfl
def outs : List Sl → Env → List Sl
  | .fz d :: ss, _ :: e => .fz d :: outs ss e
  | s :: ss, o :: e => o.getD s :: outs ss e
  | ss, _ => ss
def Pins : List Sl → Env → Prop
  | [], _ => True
  | .fz _ :: ss, _ :: e => Pins ss e
  | .ow n :: ss, o :: e => (∃ n' a, n.ad = some a ∧ n'.ad = some a ∧ o = some (.ow n')) ∧ Pins ss e
  | .cu v _ :: ss, o :: e => (∃ c, o = some (.cu v c)) ∧ Pins ss e
  | .xc _ _ _ _ _ :: _, _ :: _ => False
  | _, [] => False
theorem outs_all {K : PySem.W.Frag} {F F' : Hp} (s : Same F F') : ∀ {vs : List V} {ss : List Sl} {Ms : Cells} {σ' : L2.St} {env' : Env} {M' : Cells}, SlAll K F vs ss Ms → Rep K F' σ' env' M' → Pins ss env' → ∃ Ms' T, SlAll K F' vs (outs ss env') Ms' ∧ M'.Perm (T ++ Ms')
  | _, _, _, _, env', M', .nil, rp, _ => by
    refine ⟨[], M', ?_, by rw [List.append_nil]⟩
    unfold outs
    exact .nil
  | _, .fz d :: ss, _, _, [], _, .cons a t, rp, h => h.elim
  | _, .ow _ :: ss, _, _, [], _, .cons a t, rp, h => h.elim
  | _, .cu _ _ :: ss, _, _, [], _, .cons a t, rp, h => h.elim
  | _, .xc _ _ _ _ _ :: ss, _, _, [], _, .cons a t, rp, h => h.elim
  | _, .xc _ _ _ _ _ :: ss, _, _, _ :: e, _, .cons a t, rp, h => h.elim
  | _, .fz d :: ss, _, _, _ :: e, _, .cons a t, .non rp, h => by
    obtain ⟨Ms', T, h1, h2⟩ := outs_all s t rp h
    exact ⟨Ms', T, SlAll.cons (S := []) ⟨rfl, (a.2).mono s⟩ h1, h2⟩
  | _, .fz d :: ss, _, _, _ :: e, _, .cons a t, .som (S := S) q rp, h => by
    obtain ⟨Ms', T, h1, h2⟩ := outs_all s t rp h
    refine ⟨Ms', S ++ T, SlAll.cons (S := []) ⟨rfl, (a.2).mono s⟩ h1, ?_⟩
    rw [List.append_assoc]
    exact h2.append_left S
  | _, .ow n :: ss, _, _, _ :: e, _, .cons a t, .non rp, h => by
    obtain ⟨⟨n', b, _, _, e1⟩, _⟩ := h
    cases e1
  | _, .ow n :: ss, _, _, _ :: e, _, .cons a t, .som (S := S) q rp, h => by
    obtain ⟨⟨n', b, d1, d2, e1⟩, h⟩ := h
    cases e1
    obtain ⟨Ms', T, h1, h2⟩ := outs_all s t rp h
    have e2 := Ow.ad a d1
    have e3 := Ow.ad q d2
    subst e3
    subst e2
    exact ⟨S ++ Ms', T, .cons q h1, (h2.append_left S).trans (perm_mid S T Ms')⟩
  | _, .cu v n :: ss, _, _, _ :: e, _, .cons a t, .non rp, h => by
    obtain ⟨⟨n', e1⟩, _⟩ := h
    cases e1
  | _, .cu v n :: ss, _, _, _ :: e, _, .cons a t, .som (S := S) q rp, h => by
    obtain ⟨⟨n', e1⟩, h⟩ := h
    cases e1
    obtain ⟨Ms', T, h1, h2⟩ := outs_all s t rp h
    have e2 := a.1
    have e3 := q.1
    subst e3
    subst e2
    exact ⟨S ++ Ms', T, .cons q h1, (h2.append_left S).trans (perm_mid S T Ms')⟩
def endsP (ss : List Sl) (q : Sl → List Sl → Prop) (w : Str → List (Str × D) → List Sl → Prop) : EP' where
  nx := fun env' => Pins ss env' ∧ q (.fz .non) (outs ss env')
  rt := fun r env' => Pins ss env' ∧ q r (outs ss env')
  bk := fun _ => False
  ct := fun _ => False
  ex := fun c fs env' => Pins ss env' ∧ w c fs (outs ss env')
def env0 (n : Nat) (ss : List Sl) : Env := ss.map some ++ List.replicate (n - ss.length) none
theorem rep_start {K : PySem.W.Frag} {F : Hp} (k : Nat) : ∀ {vs : List V} {ss : List Sl} {Ms : Cells}, SlAll K F vs ss Ms → Rep K F (vs.map some ++ List.replicate k none) (ss.map some ++ List.replicate k none) Ms
  | _, _, _, .nil => by
    show Rep K F (List.replicate k none) (List.replicate k none) []
    induction k with
    | zero => exact .nil
    | succ n ih => exact .non ih
  | _, _, _, .cons a t => .som a (rep_start k t)
theorem body_of {K : PySem.W.Frag} {N : List Str} {n : Nat} {C : FS} {f : FSt} {vs : List V} {H : Hp} {Q : VK} {E : XK} {W : WX} (hW : ∀ cls d σ H, E cls d H → W cls d σ H) (h : spP K n C vs H Q E)
    (hf : ∀ ss q w, ss.length = n → C ss q w → f (env0 N.length ss) (endsP ss q w)) : LS K W f { nx := fun _ H' => Q .non H', rt := Q } (L2.start N vs) H := by
  obtain ⟨ss, F, Ms, M0, q, w, hn, sa, o, hC, kq, kw⟩ := h
  have rp := rep_start (N.length - vs.length) sa
  refine ⟨env0 N.length ss, F, Ms, M0, _, ?_, o, hf ss q w hn hC, ⟨?_, ?_, ?_, ?_, ?_⟩⟩
  · unfold env0 L2.start
    rw [← sa.len]
    exact rp
  · rintro env' σ' F' M' H' ⟨hp, hq⟩ s' rp' o'
    obtain ⟨Ms', T, h1, h2⟩ := outs_all s' sa rp' hp
    exact kq _ _ .non [] F' Ms' H' hq s' ⟨rfl, .non⟩ h1 (show Own F' (Ms' ++ M0) H' from own_less h2 o')
  · rintro r env' v S σ' F' M' H' ⟨hp, hq⟩ s' sl rp' o'
    obtain ⟨Ms', T, h1, h2⟩ := outs_all s' sa rp' hp
    refine kq _ _ v S F' Ms' H' hq s' sl h1 ?_
    have p : (S ++ (M' ++ M0)).Perm (T ++ (S ++ (Ms' ++ M0))) := by
      have a := h2.append_right M0
      rw [List.append_assoc] at a
      exact (a.append_left S).trans (perm_mid S T _)
    exact (o'.perm p).sub (List.sublist_append_right T _)
  · intro env' σ' F' M' H' z
    exact z.elim
  · intro env' σ' F' M' H' z
    exact z.elim
  · rintro c fs env' cls d σ' F' M' H' ⟨hp, hq⟩ s' xr rp' o'
    obtain ⟨Ms', T, h1, h2⟩ := outs_all s' sa rp' hp
    exact hW cls d σ' H' (kw c fs _ cls d F' Ms' H' hq s' xr h1 (own_less h2 o'))
end Pu

/-! ## Pu: further operators; the source of draws -/
namespace Pu
open PySem PySem.Spec PyProof.Rows L2 Ed
/-! ### is None -/
def isND : D → D → Option D := fun x y => match y with
  | .non => match x with
    | .raw _ => none
    | .non => some (.bl true)
    | _ => some (.bl false)
  | _ => none
def notND : D → D → Option D := fun x y => match y with
  | .non => match x with
    | .raw _ => none
    | .non => some (.bl false)
    | _ => some (.bl true)
  | _ => none
theorem s2_isN {K : PySem.W.Frag} : S2 K rIsNo (fOp isND) := s2_flat fun H v1 v2 d1 d2 d Q r1 r2 e => by
  unfold isND at e
  split at e
  · cases r2
    cases r1 <;> first | (cases e; exact ⟨rfl, fun q => ⟨rfl, q⟩⟩) | cases e
  · cases e
theorem s2_notN {K : PySem.W.Frag} : S2 K rNotNo (fOp notND) := s2_flat fun H v1 v2 d1 d2 d Q r1 r2 e => by
  unfold notND at e
  split at e
  · cases r2
    cases r1 <;> first | (cases e; exact ⟨rfl, fun q => ⟨rfl, q⟩⟩) | cases e
  · cases e
section
variable {X : Cx} {K : PySem.W.Frag} {W : WX} {a b c e : Expr} {ga gb gc g : G} {fa fb : FX} {pos : Pos}
theorem pd_isN (ha : PD X K a ga) (hb : PD X K b gb) : PD X K (.Compare a [.Is] [b] pos) (gOp (fOp isND) ga gb) := pd_cmp kIsN s2_isN ha hb (nobehind _ (by decide) (by decide))
theorem pd_notN (ha : PD X K a ga) (hb : PD X K b gb) : PD X K (.Compare a [.IsNot] [b] pos) (gOp (fOp notND) ga gb) := pd_cmp kNotN s2_notN ha hb (nobehind _ (by decide) (by decide))
/-! ### comparisons as tests -/
theorem pb_isN (ha : PD X K a ga) (hb : PD X K b gb) : PB X K (.Compare a [.Is] [b] pos) (bV (gOp (fOp isND) ga gb)) := pb_cmp kIsN s2_isN ha hb (nobehind _ (by decide) (by decide))
theorem pb_notN (ha : PD X K a ga) (hb : PD X K b gb) : PB X K (.Compare a [.IsNot] [b] pos) (bV (gOp (fOp notND) ga gb)) := pb_cmp kNotN s2_notN ha hb (nobehind _ (by decide) (by decide))
theorem pb_eq (hu : X.A.units + 64 < cLine) (ha : PD X K a ga) (hb : PD X K b gb) : PB X K (.Compare a [.Eq] [b] pos) (bV (gOp (fOp eqD) ga gb)) := fun hK => by
  subst hK
  exact pb_cmp (OpR.or op_eq (op_eqD hu)) s2_eq ha hb (nobehind _ (by decide) (by decide)) rfl
theorem pb_ne (hu : X.A.units + 64 < cLine) (ha : PD X K a ga) (hb : PD X K b gb) : PB X K (.Compare a [.NotEq] [b] pos) (bV (gOp (fOp neD) ga gb)) := fun hK => by
  subst hK
  exact pb_cmp (OpR.or op_ne (op_neD hu)) s2_ne ha hb (nobehind _ (by decide) (by decide)) rfl
theorem pb_lt (ha : PD X K a ga) (hb : PD X K b gb) : PB X K (.Compare a [.Lt] [b] pos) (bV (gOp (fOp ltD) ga gb)) := pb_cmp op_lt (s2_int (g := fun i j => .bl (decide (i < j))) fun _ _ => rfl) ha hb (nobehind _ (by decide) (by decide))
theorem pb_le (ha : PD X K a ga) (hb : PD X K b gb) : PB X K (.Compare a [.LtE] [b] pos) (bV (gOp (fOp leD) ga gb)) := pb_cmp op_le (s2_int (g := fun i j => .bl (decide (i ≤ j))) fun _ _ => rfl) ha hb (nobehind _ (by decide) (by decide))
theorem pb_gt (ha : PD X K a ga) (hb : PD X K b gb) : PB X K (.Compare a [.Gt] [b] pos) (bV (gOp (fOp gtD) ga gb)) := pb_cmp op_gt (s2_int (g := fun i j => .bl (decide (i > j))) fun _ _ => rfl) ha hb (nobehind _ (by decide) (by decide))
theorem pb_ge (ha : PD X K a ga) (hb : PD X K b gb) : PB X K (.Compare a [.GtE] [b] pos) (bV (gOp (fOp geD) ga gb)) := pb_cmp op_ge (s2_int (g := fun i j => .bl (decide (i ≥ j))) fun _ _ => rfl) ha hb (nobehind _ (by decide) (by decide))
theorem pb_in (ha : PD X K a ga) (hb : PD X K b gb) (hm : behindInMarks .In b = false := by rfl) : PB X K (.Compare a [.In] [b] pos) (bV (gOp (fOp inD) ga gb)) := fun hK => by
  subst hK
  exact pb_cmp (OpR.or op_in_seq op_inS) s2_in ha hb hm rfl
theorem pb_nin (ha : PD X K a ga) (hb : PD X K b gb) (hm : behindInMarks .NotIn b = false := by rfl) : PB X K (.Compare a [.NotIn] [b] pos) (bV (gOp (fOp ninD) ga gb)) := fun hK => by
  subst hK
  exact pb_cmp (OpR.or op_notIn_seq op_ninS) s2_nin ha hb hm rfl
theorem pb_din (hu : X.A.units + 1 < cLine) (ha : PD X K a ga) (hb : PD X K b gb) (hm : behindInMarks .In b = false := by rfl) : PB X K (.Compare a [.In] [b] pos) (bV (gOp (fOp dinD) ga gb)) := fun hK =>
  pt_imp (pt_cmp (pc_din hu (ha hK) (hb hK)) hm) fun σ H Q h => lb_test (r := fun y x H2 Q => ∃ a o, x = .ref a ∧ DGet H2 a y o ∧ Q (.bl o.isSome) H2) (s2_flat fun H v1 v2 d1 d2 d Q r1 r2 e => by
    unfold dinD at e
    cases q : dinB d1 d2 with
    | none =>
      rw [q] at e
      cases e
    | some b =>
      rw [q] at e
      cases e
      obtain ⟨a, o, h1, h2, rfl⟩ := dinB_inv r1 r2 q
      exact ⟨rfl, fun k => ⟨a, o, h1, h2, k⟩⟩) σ H Q h
theorem pb_dnin (hu : X.A.units + 1 < cLine) (ha : PD X K a ga) (hb : PD X K b gb) (hm : behindInMarks .NotIn b = false := by rfl) : PB X K (.Compare a [.NotIn] [b] pos) (bV (gOp (fOp dninD) ga gb)) := fun hK =>
  pt_imp (pt_cmp (pc_dnotin hu (ha hK) (hb hK)) hm) fun σ H Q h => lb_test (r := fun y x H2 Q => ∃ a o, x = .ref a ∧ DGet H2 a y o ∧ Q (.bl (!o.isSome)) H2) (s2_flat fun H v1 v2 d1 d2 d Q r1 r2 e => by
    unfold dninD at e
    cases q : dinB d1 d2 with
    | none =>
      rw [q] at e
      cases e
    | some b =>
      rw [q] at e
      cases e
      obtain ⟨a, o, h1, h2, rfl⟩ := dinB_inv r1 r2 q
      exact ⟨rfl, fun k => ⟨a, o, h1, h2, k⟩⟩) σ H Q h
theorem pxt_eq (hu : X.A.units + 64 < cLine) (ha : PX X K W a fa) (hb : PX X K W b fb) : PXT X K W (.Compare a [.Eq] [b] pos) (tXb (xOp (fOp eqD) fa fb)) := fun hK => by
  subst hK
  exact pxt_op (OpR.or op_eq (op_eqD hu)) s2_eq ha hb (nobehind _ (by decide) (by decide)) rfl
theorem pxt_ne (hu : X.A.units + 64 < cLine) (ha : PX X K W a fa) (hb : PX X K W b fb) : PXT X K W (.Compare a [.NotEq] [b] pos) (tXb (xOp (fOp neD) fa fb)) := fun hK => by
  subst hK
  exact pxt_op (OpR.or op_ne (op_neD hu)) s2_ne ha hb (nobehind _ (by decide) (by decide)) rfl
theorem pxt_lt (ha : PX X K W a fa) (hb : PX X K W b fb) : PXT X K W (.Compare a [.Lt] [b] pos) (tXb (xOp (fOp ltD) fa fb)) := pxt_op op_lt (s2_int (g := fun i j => .bl (decide (i < j))) fun _ _ => rfl) ha hb (nobehind _ (by decide) (by decide))
theorem pxt_gt (ha : PX X K W a fa) (hb : PX X K W b fb) : PXT X K W (.Compare a [.Gt] [b] pos) (tXb (xOp (fOp gtD) fa fb)) := pxt_op op_gt (s2_int (g := fun i j => .bl (decide (i > j))) fun _ _ => rfl) ha hb (nobehind _ (by decide) (by decide))
/-! a < b <= c of ints -/
def gCh (o o' : D → D → Option D) (ga gb gc : G) : G := fun env => match ga env, gb env with
  | some x, some y => match o x.toD y.toD with
    | some (.bl true) => match gc env with
      | some z => (o' y.toD z.toD).map N.f
      | none => none
    | some (.bl false) => some (.f (.bl false))
    | _ => none
  | _, _ => none
structure SC (K : PySem.W.Frag) (r : R2) (o : D → D → Option D) : Prop where
  run : ∀ {H : Hp} {v1 v2 : V} {d1 d2 d : D} {Q : VK}, Rp K H v1 d1 → Rp K H v2 d2 → o d1 d2 = some d → flatD d = true ∧ (Q d.v H → r v1 v2 H Q)
theorem sc_int {g : Int → Int → D} (hf : ∀ i j, flatD (g i j) = true) : SC K (rI0 fun i j => (g i j).v) (iOp g) := ⟨fun {H v1 v2 d1 d2 d Q} r1 r2 e => by
  obtain ⟨i, j, rfl, rfl, rfl⟩ := iOp_some e
  cases r1
  cases r2
  exact ⟨hf _ _, fun q => ⟨i, j, rfl, rfl, q⟩⟩⟩
theorem lg_ch {r r' : R2} {o o' : D → D → Option D} (s : SC K r o) (s' : SC K r' o') : ∀ σ H Q, LG K (gCh o o' ga gb gc) σ H Q → tChain r r' (LG K ga) (LG K gb) (LG K gc) σ H Q := fun σ H Q ⟨env, F, M, M0, n, rp, ow, hg, k⟩ => by
  unfold gCh at hg
  split at hg
  · rename_i x y h1 h2
    refine ⟨env, F, M, M0, x, rp, ow, h1, fun v F1 H1 s1 o1 w1 => ⟨env, F1, M, M0, y, rp.mono s1, o1, h2, fun u F2 H2 s2 o2 w2 => ?_⟩⟩
    split at hg
    · rename_i q
      obtain ⟨_, kk⟩ := s.run (Q := fun z H3 => ∃ k, z = .bl k ∧ (if k = true then LG K gc σ H3 fun w' H4 => r' u w' H4 Q else Q (.bl false) H3)) ((w1.mono s2).rp o2) (w2.rp o2) q
      refine kk ⟨true, rfl, iteT ?_⟩
      split at hg
      · rename_i z h3
        cases q2 : o' y.toD z.toD with
        | none =>
          rw [q2] at hg
          cases hg
        | some d =>
          rw [q2] at hg
          cases hg
          refine ⟨env, F2, M, M0, z, rp.mono (s1.trans s2), o2, h3, fun u3 F3 H3 s3 o3 w3 => ?_⟩
          obtain ⟨fd, kk2⟩ := s'.run (Q := Q) ((w2.mono s3).rp o3) (w3.rp o3) q2
          exact kk2 (k d.v F3 H3 (s1.trans (s2.trans s3)) o3 (Vw.of (rp_flat fd)))
      · cases hg
    · rename_i q
      obtain ⟨_, kk⟩ := s.run (Q := fun z H3 => ∃ k, z = .bl k ∧ (if k = true then LG K gc σ H3 fun w' H4 => r' u w' H4 Q else Q (.bl false) H3)) ((w1.mono s2).rp o2) (w2.rp o2) q
      cases hg
      exact kk ⟨false, rfl, iteF (k (.bl false) F2 H2 (s1.trans s2) o2 (Vw.of (.bl false)))⟩
    · cases hg
  · cases hg
theorem pd_ch {op op' : CmpOp} {r r' : R2} {o o' : D → D → Option D} (ho : OpR X (compareOp op) r) (ho' : OpR X (compareOp op') r') (s : SC K r o) (s' : SC K r' o') (ha : PD X K a ga) (hb : PD X K b gb) (hc : PD X K c gc) (hm : lastMarks [op, op'] [b, c] = false := by with_unfolding_all rfl) : PD X K (.Compare a [op, op'] [b, c] pos) (gCh o o' ga gb gc) := fun hK => pe_imp (pe_chain ho ho' (ha hK) (hb hK) (hc hK) hm) (lg_ch s s')
theorem pb_ch {op op' : CmpOp} {r r' : R2} {o o' : D → D → Option D} (ho : OpR X (compareOp op) r) (ho' : OpR X (compareOp op') r') (s : SC K r o) (s' : SC K r' o') (ha : PD X K a ga) (hb : PD X K b gb) (hc : PD X K c gc) (hm : lastMarks [op, op'] [b, c] = false := by with_unfolding_all rfl) : PB X K (.Compare a [op, op'] [b, c] pos) (bV (gCh o o' ga gb gc)) := fun hK => pt_imp (pt_chain ho ho' (ha hK) (hb hK) (hc hK) hm) fun σ H Q h => by
  obtain ⟨env, F, M, M0, cc, rp, o, hg, k⟩ := h
  refine lg_ch s s' σ H _ ⟨env, F, M, M0, _, rp, o, bV_some hg, fun v F' H' s' o' w => ?_⟩
  cases w.f
  exact ⟨cc, rfl, k F' H' s' o'⟩
theorem sc_lt : SC K (rI0 fun i j => V.bl (decide (i < j))) ltD := sc_int (g := fun i j => .bl (decide (i < j))) fun _ _ => rfl
theorem sc_le : SC K (rI0 fun i j => V.bl (decide (i ≤ j))) leD := sc_int (g := fun i j => .bl (decide (i ≤ j))) fun _ _ => rfl
/-! ### texts -/
def dstrs : List D → Option (List Str)
  | [] => some []
  | .str s :: ds => (dstrs ds).map (s :: ·)
  | _ => none
def joinD : D → D → Option D
  | .str a, .lst ds => match dstrs ds with
    | some ys => if (ys.map (·.length)).sum + ys.length * a.length ≤ 16777216 then some (.str (Txt.join a ys)) else none
    | none => none
  | _, _ => none
theorem strs_inv {H : Hp} : ∀ {vs : List V} {ds : List D} {ys : List Str}, RpAll K H vs ds → dstrs ds = some ys → vs = ys.map V.str
  | _, _, ys, .nil, h => by
    cases h
    rfl
  | _, _, ys, .cons (d := d) (ds := ds) a t, h => by
    cases d with
    | str s =>
      unfold dstrs at h
      cases q : dstrs ds with
      | none =>
        rw [q] at h
        cases h
      | some zs =>
        rw [q] at h
        cases h
        cases a
        rw [strs_inv t q]
        rfl
    | _ => cases h
theorem strs_map : ∀ (ys : List Str), dstrs (ys.map D.str) = some ys
  | [] => rfl
  | y :: ys => by
    show (dstrs (ys.map D.str)).map (y :: ·) = _
    rw [strs_map ys]
    rfl
theorem lg_m1 {r : V → List V → Hp → VK → Prop} {o : D → D → Option D} (s : ∀ (H : Hp) (v1 v2 : V) (d1 d2 d : D) (Q : VK), Rp K H v1 d1 → Rp K H v2 d2 → o d1 d2 = some d → flatD d = true ∧ (∃ z, d1 = .str z) ∧ (Q d.v H → r v1 [v2] H Q)) (o1 : ∀ d1 d2, (∃ z, d1 = .str z) ∨ o d1 d2 = none) : ∀ σ H Q, LG K (gOp (fOp o) ga gb) σ H Q → tM1 r (LG K ga) (LG K gb) σ H Q := fun σ H Q ⟨env, F, M, M0, n, rp, ow, hg, k⟩ => by
  obtain ⟨x, y, h1, h2, h3⟩ := gOp_some hg
  unfold fOp at h3
  cases q : o x.toD y.toD with
  | none =>
    rw [q] at h3
    cases h3
  | some d =>
    rw [q] at h3
    cases h3
    refine ⟨env, F, M, M0, x, rp, ow, h1, fun v F1 H1 s1 w1o w1 => ⟨?_, ⟨env, F1, M, M0, y, rp.mono s1, w1o, h2, fun u F2 H2 s2 o2 w2 => ?_⟩⟩⟩
    · rcases o1 x.toD y.toD with ⟨z, hz⟩ | hz
      · have r := w1.rp w1o
        rw [hz] at r
        cases r
        exact ⟨z, rfl⟩
      · rw [hz] at q
        cases q
    · obtain ⟨fd, _, kk⟩ := s H2 v u _ _ d Q ((w1.mono s2).rp o2) (w2.rp o2) q
      exact kk (k d.v F2 H2 (s1.trans s2) o2 (Vw.of (rp_flat fd)))
def startsD : D → D → Option D
  | .str a, .str b => some (.bl (Txt.startswith a b))
  | _, _ => none
def endsD : D → D → Option D
  | .str a, .str b => some (.bl (Txt.endswith a b))
  | _, _ => none
theorem pd_join {cl : Expr} (h : PE X cl (tM1 (rJoin K) (LG K ga) (LG K gb))) : PD X K cl (gOp (fOp joinD) ga gb) := fun hK => pe_imp h (lg_m1 (fun H v1 v2 d1 d2 d Q r1 r2 e => by
  unfold joinD at e
  split at e
  · split at e
    · split at e
      · rename_i ys hy hb
        cases e
        cases r1
        obtain ⟨a, vs, rfl, ha, ra⟩ := rp_lst r2
        have e := strs_inv ra hy
        subst e
        exact ⟨rfl, ⟨_, rfl⟩, fun q => ⟨_, a, ys, rfl, rfl, .inl (SqL.of ha), hb, q⟩⟩
      · cases e
    · cases e
  · cases e) fun d1 d2 => by cases d1 <;> first | exact .inl ⟨_, rfl⟩ | exact .inr rfl)
theorem pd_starts {cl : Expr} (h : PE X cl (tM1 rStarts (LG K ga) (LG K gb))) : PD X K cl (gOp (fOp startsD) ga gb) := fun hK => pe_imp h (lg_m1 (fun H v1 v2 d1 d2 d Q r1 r2 e => by
  unfold startsD at e
  split at e
  · cases e
    cases r1
    cases r2
    exact ⟨rfl, ⟨_, rfl⟩, fun q => ⟨_, _, rfl, rfl, q⟩⟩
  · cases e) fun d1 d2 => by cases d1 <;> first | exact .inl ⟨_, rfl⟩ | exact .inr rfl)
theorem pd_ends {cl : Expr} (h : PE X cl (tM1 rEnds (LG K ga) (LG K gb))) : PD X K cl (gOp (fOp endsD) ga gb) := fun hK => pe_imp h (lg_m1 (fun H v1 v2 d1 d2 d Q r1 r2 e => by
  unfold endsD at e
  split at e
  · cases e
    cases r1
    cases r2
    exact ⟨rfl, ⟨_, rfl⟩, fun q => ⟨_, _, rfl, rfl, q⟩⟩
  · cases e) fun d1 d2 => by cases d1 <;> first | exact .inl ⟨_, rfl⟩ | exact .inr rfl)
theorem rpAll_strs {F : Hp} : ∀ (ys : List Str), RpAll K F (ys.map V.str) (ys.map D.str)
  | [] => .nil
  | y :: ys => .cons (.str y) (rpAll_strs ys)
def splitN : N → N → Option N
  | .f (.str a), .f (.str b) => if (b.length == 0) = false ∧ a.length + 2 ≤ sizeLine then some (.f (.lst ((Txt.split a b).map D.str))) else none
  | _, _ => none
theorem pn_split {cl : Expr} (h : PE X cl (tM1 rSplit (LG K ga) (LG K gb))) : PN X K cl (gOp splitN ga gb) := fun hK => pe_imp h fun σ H Q ⟨env, F, M, M0, n, rp, ow, hg, k⟩ => by
  obtain ⟨x, y, h1, h2, h3⟩ := gOp_some hg
  unfold splitN at h3
  split at h3
  · split at h3
    · rename_i hc
      cases h3
      refine ⟨env, F, M, M0, _, rp, ow, h1, fun v F1 H1 s1 o1 w1 => ?_⟩
      cases w1.f
      refine ⟨⟨_, rfl⟩, ⟨env, F1, M, M0, _, rp.mono s1, o1, h2, fun u F2 H2 s2 o2 w2 => ?_⟩⟩
      cases w2.f
      exact ⟨_, _, rfl, rfl, hc.1, hc.2, new_ol o2 (s1.trans s2) (rpAll_strs _) k⟩
    · cases h3
  · cases h3
def partN : N → N → Option N
  | .f (.str a), .f (.str b) => if (b.length == 0) = false ∧ a.length ≤ sizeLine then some (.f (.tup [.str (Txt.partition a b).1, .str (Txt.partition a b).2.1, .str (Txt.partition a b).2.2])) else none
  | _, _ => none
theorem pd_part {cl : Expr} (h : PE X cl (tM1 rPart (LG K ga) (LG K gb))) : PD X K cl (gOp partN ga gb) := fun hK => pe_imp h fun σ H Q ⟨env, F, M, M0, n, rp, ow, hg, k⟩ => by
  obtain ⟨x, y, h1, h2, h3⟩ := gOp_some hg
  unfold partN at h3
  split at h3
  · split at h3
    · rename_i hc
      cases h3
      refine ⟨env, F, M, M0, _, rp, ow, h1, fun v F1 H1 s1 o1 w1 => ?_⟩
      cases w1.f
      refine ⟨⟨_, rfl⟩, ⟨env, F1, M, M0, _, rp.mono s1, o1, h2, fun u F2 H2 s2 o2 w2 => ?_⟩⟩
      cases w2.f
      refine ⟨_, _, rfl, rfl, hc.1, hc.2, fun p hp => ?_⟩
      have n := o2.free hp
      exact k _ _ _ ((s1.trans s2).trans (same_upd n)) (o2.newF hp) (Vw.of (.tup (SqT.of upd_same) (.cons (.str _) (.cons (.str _) (.cons (.str _) .nil)))))
    · cases h3
  · cases h3
/-! ### xs[::-1], any, all, dict(pairs) -/
theorem pn_rev {cl : Expr} (h : PE X cl (tRevL K (LG K ga))) : PN X K cl (gUn gRev ga) := fun hK => pe_imp h fun σ H Q ⟨env, F, M, M0, n, rp, ow, hg, k⟩ => by
  obtain ⟨x, h1, h2⟩ := gUn_some hg
  unfold gRev at h2
  cases q : kidsL x with
  | none =>
    rw [q] at h2
    cases h2
  | some ds =>
    rw [q] at h2
    cases h2
    refine ⟨env, F, M, M0, x, rp, ow, h1, fun v F1 H1 s1 o1 w1 => ?_⟩
    obtain ⟨a1, vs, rfl, e1, r1⟩ := w1.kids o1 (fun c hc => List.mem_append_left _ hc) q
    exact ⟨a1, vs, rfl, SqL.of e1, new_ol o1 s1 r1.rev k⟩
end
def bools : List D → Option (List Bool)
  | [] => some []
  | .bl b :: ds => (bools ds).map (b :: ·)
  | _ => none
theorem bools_inv {K : PySem.W.Frag} {H : Hp} : ∀ {vs : List V} {ds : List D} {ys : List Bool}, RpAll K H vs ds → bools ds = some ys → vs = ys.map V.bl
  | _, _, ys, .nil, h => by
    cases h
    rfl
  | _, _, ys, .cons (d := d) (ds := ds) a t, h => by
    cases d with
    | bl s =>
      unfold bools at h
      cases q : bools ds with
      | none =>
        rw [q] at h
        cases h
      | some zs =>
        rw [q] at h
        cases h
        cases a
        rw [bools_inv t q]
        rfl
    | _ => cases h
theorem bools_map : ∀ (ys : List Bool), bools (ys.map D.bl) = some ys
  | [] => rfl
  | y :: ys => by
    show (bools (ys.map D.bl)).map (y :: ·) = _
    rw [bools_map ys]
    rfl
def anyD : D → Option D
  | .lst ds => (bools ds).map fun bs => .bl (bs.any id)
  | _ => none
def allD : D → Option D
  | .lst ds => (bools ds).map fun bs => .bl (bs.all id)
  | _ => none
section
variable {X : Cx} {K : PySem.W.Frag} {W : WX} {e : Expr} {g : G} {pos p : Pos}
theorem pd_any (hc : X.calm = true) (hm : X.mg "any" = none) (ha : PAs X K [e] [g]) (hg : Gl X "any" := by rfl) (he : starEach [e] X.env = (false, eval e X.env) :: starEach [] X.env := by rfl) : PD X K (.Call (.Name "any" p) [e] [] pos) (gArgs (fA1 anyD) [g]) := fun hK => by
  subst hK
  exact pd_callB (cr_any hc) (sa_flat1 fun H v1 d1 d Q r1 e => by
    unfold anyD at e
    split at e
    · rename_i ds
      cases q : bools ds with
      | none =>
        rw [q] at e
        cases e
      | some bs =>
        rw [q] at e
        cases e
        obtain ⟨a, vs, rfl, ha, ra⟩ := rp_lst r1
        have e := bools_inv ra q
        subst e
        exact ⟨rfl, fun k => ⟨a, bs, rfl, SqL.of ha, k⟩⟩
    · cases e) hg hm (by decide +kernel) ha (by decide) (by decide) he rfl rfl
theorem pd_all (hc : X.calm = true) (hm : X.mg "all" = none) (ha : PAs X K [e] [g]) (hg : Gl X "all" := by rfl) (he : starEach [e] X.env = (false, eval e X.env) :: starEach [] X.env := by rfl) : PD X K (.Call (.Name "all" p) [e] [] pos) (gArgs (fA1 allD) [g]) := fun hK => by
  subst hK
  exact pd_callB (cr_all hc) (sa_flat1 fun H v1 d1 d Q r1 e => by
    unfold allD at e
    split at e
    · rename_i ds
      cases q : bools ds with
      | none =>
        rw [q] at e
        cases e
      | some bs =>
        rw [q] at e
        cases e
        obtain ⟨a, vs, rfl, ha, ra⟩ := rp_lst r1
        have e := bools_inv ra q
        subst e
        exact ⟨rfl, fun k => ⟨a, bs, rfl, SqL.of ha, k⟩⟩
    · cases e) hg hm (by decide +kernel) ha (by decide) (by decide) he rfl rfl
end
/-- pairs (key, value) -/
def prs : List D → Option (List (Key × D))
  | [] => some []
  | .tup [k, v] :: ds => match keyD k, prs ds with
    | some k, some r => some ((k, v) :: r)
    | _, _ => none
  | _ => none
def mergeD (kvs more : List (Key × D)) : List (Key × D) := more.foldl (fun acc kv => putD acc kv.1 kv.2) kvs
def gdict : List N → Option N
  | [n] => match kidsL n with
    | some ds => (prs ds).map fun kvs => .f (.dic (mergeD [] kvs))
    | none => none
  | _ => none
theorem rpDic_merge {K : PySem.W.Frag} {F : Hp} : ∀ {more : List (Key × V)} {md : List (Key × D)} {vs : List (Key × V)} {ds : List (Key × D)}, RpDic K F more md → RpDic K F vs ds → RpDic K F (mergeK vs more) (mergeD ds md)
  | _, _, _, _, .nil, h => h
  | _, _, vs, ds, .cons (k := k) (v := v) (vs := ms) (d := d) (ds := md) a t, h => rpDic_merge (more := ms) (md := md) (vs := putK vs k v) (ds := putD ds k d) t (h.put a)
theorem prs_inv {K : PySem.W.Frag} {F H : Hp} (s : Same F H) : ∀ {vs : List V} {ds : List D} {kvs : List (Key × D)}, RpAll K F vs ds → prs ds = some kvs → ∃ (ps : List Addr) (kvv : List (Key × V)), vs = ps.map V.ref ∧ Paired (fun p kv => SqT K H p [kV kv.1, kv.2]) ps kvv ∧ RpDic K F kvv kvs
  | _, _, kvs, .nil, h => by
    cases h
    exact ⟨[], [], rfl, .nil, .nil⟩
  | _, d :: ds, kvs, .cons a t, h => by
    unfold prs at h
    split at h
    · rename_i e; cases e
    · rename_i k v ds' e
      cases e
      split at h
      · rename_i kk r q1 q2
        cases h
        obtain ⟨ps, kvv, rfl, hp, hr⟩ := prs_inv s t q2
        obtain ⟨p, us, rfl, hT, ra⟩ := rp_tup a
        cases ra with
        | cons r1 r2 =>
          cases r2 with
          | cons r2 r3 =>
            cases r3
            have ek := key_v r1 q1
            subst ek
            exact ⟨p :: ps, (kk, _) :: kvv, rfl, .cons (Same.tup s hT) hp, .cons r2 hr⟩
      · cases h
    · cases h
theorem pn_dict {X : Cx} {K : PySem.W.Frag} {e : Expr} {g : G} {pos p : Pos} (hc : X.calm = true) (hm : X.mg "dict" = none) (ha : PAs X K [e] [g]) (hg : Gl X "dict" := by rfl) (he : starEach [e] X.env = (false, eval e X.env) :: starEach [] X.env := by rfl) : PN X K (.Call (.Name "dict" p) [e] [] pos) (gArgs gdict [g]) := fun hK => by
  subst hK
  refine pe_imp (pe_callTy (kDictP X.K hc) hg hm (by decide +kernel) (ha rfl) (by decide) (by decide) he rfl) fun σ H Q ⟨env, F, M, M0, n, rp, o, hg, k⟩ => ?_
  obtain ⟨ns, h1, h2⟩ := gArgs_some hg
  refine ⟨env, F, M, M0, ns, rp, o, h1, fun vs F' H' s' o' w => ?_⟩
  unfold gdict at h2
  split at h2
  · cases w with
    | cons w1 w2 =>
      cases w2
      split at h2
      · rename_i ds q
        cases q2 : prs ds with
        | none =>
          rw [q2] at h2
          cases h2
        | some kvs =>
          rw [q2] at h2
          cases h2
          obtain ⟨a1, vs, rfl, e1, r1⟩ := w1.kids o' (fun c hc => List.mem_append_left _ hc) q
          obtain ⟨ps, kvv, rfl, hp, hr⟩ := prs_inv o'.fr r1 q2
          exact ⟨a1, ps, kvv, rfl, SqL.of e1, hp, fun p hp => k p _ [(p, _)] _ _ s' (o'.newM hp) (.dic (owDic_f (rpDic_merge hr .nil)))⟩
      · cases h2
  · cases h2
/-! ### the source of draws -/
def srcC (a : Addr) : Cu := ⟨fun _ S => Src a S, fun _ h => h⟩
def scrC (K : PySem.W.Frag) (a : Addr) (ns : List Int) : Cu := ⟨fun F S => S = [] ∧ SqL K F a (iL ns), fun s h => ⟨h.1, s.seq h.2⟩⟩
def src (a : Addr) : Sl := .cu (.ref a) (srcC a)
def scr (K : PySem.W.Frag) (a : Addr) (ns : List Int) : Sl := .cu (.ref a) (scrC K a ns)
def CDraw : FS := fun ss q _ => ∃ a m, ss = [src a, .fz (.int m)] ∧ 0 < m ∧ m < 2 ^ 120 ∧ ∀ r, 0 ≤ r → r < m → q (.fz (.int r)) [src a, .fz (.int m)]
def CSource (K : PySem.W.Frag) : FS := fun ss q _ => ∃ a ns, ss = [scr K a ns] ∧ ns.length ≤ 63 ∧ ∀ b, q (src b) [scr K a ns]
theorem draw_sp {K : PySem.W.Frag} {vs : List V} {H : Hp} {Q : VK} {E : XK} (h : spP K 2 CDraw vs H Q E) : spDraw vs H Q E := by
  obtain ⟨ss, F, Ms, M0, q, w, _, sa, o, ⟨a, m, rfl, h0, h1, hq⟩, kq, _⟩ := h
  cases sa with
  | cons a1 t =>
    cases t with
    | cons a2 t =>
      cases t
      obtain ⟨rfl, a1⟩ := a1
      obtain ⟨rfl, a2⟩ := a2
      cases a2
      rw [List.append_assoc] at o
      refine ⟨_, _, rfl, a, m, F, _, M0, rfl, rfl, h0, h1, a1, o, fun r S' H' r0 r1 hs o' => ?_⟩
      refine kq _ _ (.int r) [] F (S' ++ ([] ++ [])) H' (hq r r0 r1) (Same.refl _) ⟨rfl, .int r⟩ (.cons ⟨rfl, hs⟩ (.cons ⟨rfl, .int m⟩ .nil)) ?_
      rw [List.append_nil, List.append_nil]
      exact o'
theorem source_sp {K : PySem.W.Frag} {vs : List V} {H : Hp} {Q : VK} {E : XK} (h : spP K 1 (CSource K) vs H Q E) : spSource K vs H Q E := by
  obtain ⟨ss, F, Ms, M0, q, w, _, sa, o, ⟨a, ns, rfl, h0, hq⟩, kq, _⟩ := h
  cases sa with
  | cons a1 t =>
    cases t
    obtain ⟨rfl, rfl, a1⟩ := a1
    refine ⟨_, rfl, a, ns, F, M0, rfl, a1, h0, o, fun b S H' hs o' => ?_⟩
    exact kq _ _ (.ref b) S F ([] ++ []) H' (hq b) (Same.refl _) ⟨rfl, hs⟩ (.cons ⟨rfl, rfl, a1⟩ .nil) o'
theorem Ok1.imp {P : Program} {w : World} {K : PySem.W.Frag} {mg : Str → Option Value} {base : Heap} {x : Str} {k : Nat} {sp sp' : Sp} (h : Ok1 P w K mg base x k sp) (i : ∀ vs H Q E, sp' vs H Q E → sp vs H Q E) : Ok1 P w K mg base x k sp' := by
  obtain ⟨f, h1, h2, h3⟩ := h
  exact ⟨f, h1, h2, h3.imp i⟩
theorem Ok1x.imp {P : Program} {w : World} {K : PySem.W.Frag} {mg : Str → Option Value} {base : Heap} {x : Str} {k : Nat} {sp sp' : Sp} (h : Ok1x P w K mg base x k sp) (i : ∀ vs H Q E, sp' vs H Q E → sp vs H Q E) : Ok1x P w K mg base x k sp' := by
  obtain ⟨f, h1, h2, h3⟩ := h
  exact ⟨f, h1, h2, h3.imp i⟩
/-! ### the law -/
def CLaw (K : PySem.W.Frag) : FS := fun ss q _ => ∃ a ns, ss = [scr K a ns] ∧ ns.length ≤ 63 ∧ ∀ ss', q (.fz (.bl true)) ss'
def spLawP (K : PySem.W.Frag) : Sp := spP K 1 (CLaw K)
theorem law_pre {K : PySem.W.Frag} (H : Hp) (a : Addr) (ns : List Int) (hl : ns.length ≤ 63) (hS : SqL K H a (ns.map V.int)) : spLawP K [.ref a] H (fun v _ => v = .bl true) (fun _ _ _ => False) := by
  refine ⟨[scr K a ns], H, [], [], fun r _ => r = .fz (.bl true), fun _ _ _ => False, rfl, SlAll.cons (S := []) (M := []) ⟨rfl, rfl, hS⟩ .nil, Own.start H, ⟨a, ns, rfl, hl, fun _ => rfl⟩, ?_, fun _ _ _ _ _ _ _ _ z => z.elim⟩
  rintro r ss' v S F' Ms' H' rfl _ ⟨_, sl⟩ _ _
  cases sl
  rfl
abbrev WF : WX := fun _ _ _ _ => False
end Pu

/-! ## Pu: displays and calls of built-ins with effects; comprehensions with effects; readings -/
namespace Pu
open PySem PySem.Spec PyProof.Rows L2 Ed
def vals : List PArg → Option (List D)
  | [] => some []
  | .v d :: as => (vals as).map (d :: ·)
  | .b _ :: _ => none
theorem vals_rp {K : PySem.W.Frag} {F : Hp} {σ : L2.St} : ∀ {as : List PArg} {vs : List V} {ds : List D}, ArgR K F σ as vs → vals as = some ds → RpAll K F vs ds
  | _, _, ds, .nil, h => by
    cases h
    exact .nil
  | .v d :: as, _, ds, .v a t, h => by
    unfold vals at h
    cases q : vals as with
    | none =>
      rw [q] at h
      cases h
    | some es =>
      rw [q] at h
      cases h
      exact .cons a (vals_rp t q)
  | .b i :: as, _, ds, .b a t, h => by cases h
theorem rp_vwAll {K : PySem.W.Frag} {F : Hp} {M : Cells} : ∀ {vs : List V} {ds : List D}, RpAll K F vs ds → VwAll K F M vs (ds.map N.f)
  | _, _, .nil => .nil
  | _, _, .cons a t => .cons (Vw.of a) (rp_vwAll t)
def xTup (fa : FA) : FX := fun env q w => fa env (fun as env' => ∃ ds, vals as = some ds ∧ ds.length ≤ 1000 ∧ q (.fz (.tup ds)) env') w
def xLst (fa : FA) : FX := fun env q w => fa env (fun as env' => ∃ ds, vals as = some ds ∧ ds.length ≤ 1000 ∧ ∀ v, q (.ow (ol v ds)) env') w
def xArgs (o : List N → Option N) (fa : FA) : FX := fun env q w => fa env (fun as env' => ∃ ds d, vals as = some ds ∧ o (ds.map N.f) = some (.f d) ∧ q (.fz d) env') w
section
variable {X : Cx} {K : PySem.W.Frag} {W : WX} {es : List Expr} {e : Expr} {fa : FA} {pos p : Pos}
theorem px_tup {x1} (h : PAX X K W es fa) : PX X K W (.Tuple es x1 pos) (xTup fa) := fun hK => pe_imp (pe_tup (h hK)) fun σ H Q ⟨env, F, M, M0, q, w, rp, o, h, k, kw⟩ =>
  ⟨env, F, M, M0, _, w, rp, o, h, fun as env' vs F' M' H' ⟨ds, hd, hl, hq⟩ s' ar rp' o' => by
    have r := vals_rp ar hd
    refine ⟨by rw [r.len]; exact sz1 hl, fun p hp => ?_⟩
    have n := o'.free hp
    exact k _ env' _ [] _ M' _ hq (s'.trans (same_upd n)) ⟨rfl, .tup (SqT.of upd_same) (r.mono (same_upd n))⟩ (rp'.mono (same_upd n)) (o'.newF hp), kw⟩
theorem px_lst (h : PAX X K W es fa) : PX X K W (.List es pos) (xLst fa) := fun hK => pe_imp (pe_lst (h hK)) fun σ H Q ⟨env, F, M, M0, q, w, rp, o, h, k, kw⟩ =>
  ⟨env, F, M, M0, _, w, rp, o, h, fun as env' vs F' M' H' ⟨ds, hd, hl, hq⟩ s' ar rp' o' => by
    have r := vals_rp ar hd
    refine ⟨by rw [r.len]; exact sz1 hl, fun p hp => ?_⟩
    exact k _ env' _ [(p, .lst vs)] F' M' _ (hq p) s' (ow_ol r) rp' (o'.newM hp), kw⟩
theorem px_args {c : Expr} {r : List V → Hp → VK → Prop} {o : List N → Option N} (s : SA K r o) (h : PE X c (tCB r (LAX K W fa))) : PX X K W c (xArgs o fa) := fun hK => pe_imp h fun σ H Q ⟨env, F, M, M0, q, w, rp, ow, h, k, kw⟩ =>
  ⟨env, F, M, M0, _, w, rp, ow, h, fun as env' vs F' M' H' ⟨ds, d, hd, ho, hq⟩ s' ar rp' o' => s.run (M := M') (M0 := M0) o' (rp_vwAll (vals_rp ar hd)) ho fun v F2 H2 s2 o2 w2 => k _ env' v [] F2 M' H2 hq (s'.trans s2) ⟨rfl, w2.f⟩ (rp'.mono s2) o2, kw⟩
end
/-! ### comprehensions with effects: I by the turn, the list so far, the slots -/
/-- the slots vs as they were, where they are kept -/
def keepE (env1 : Env) (v : Nat) : Option Sl := match env1[v]? with
  | some (some (.fz d)) => some (.fz d)
  | _ => none
def resE (env1 env2 : Env) : List Nat → Env
  | [] => env2
  | v :: vs => resE env1 (env2.set v (keepE env1 v)) vs
def xLc (fi : FI) (vs : List Nat) (st : Tg) (ft : FT) (fe : FX) : FX := fun env q w => fi env (fun ds env1 => ds.length ≤ sizeLine ∧ ∃ I : Nat → List D → Env → Prop, I 0 [] (wipeE env1 vs) ∧
  (∀ i d acc env2, ds[i]? = some d → I i acc env2 → ∃ env3, st d env2 = some env3 ∧ ft env3 (fun c env4 => if c = true then xD fe env4 (fun _ _ _ => False) (fun y env5 => I (i + 1) (acc ++ [y]) (wipeE env5 vs)) else I (i + 1) acc (wipeE env4 vs)) (fun _ _ _ => False)) ∧
  ∀ acc env2, I ds.length acc env2 → ∀ v, q (.ow (ol v acc)) (resE env1 env2 vs)) w
def PXTs (X : Cx) (K : PySem.W.Frag) (W : WX) (ifs : List Expr) (f : FT) : Prop := X.K = K → PTs X ifs (LT K W f)
def tYesX : FT := fun env q _ => q true env
theorem pxts_nil {X : Cx} {K : PySem.W.Frag} {W : WX} : PXTs X K W [] tYesX := fun _ => pts_imp pts_nil fun σ H Q ⟨env, F, M, M0, q, w, rp, o, h, k, kw⟩ => k true env F M H h (Same.refl _) rp o
theorem pxts_one {X : Cx} {K : PySem.W.Frag} {W : WX} {e : Expr} {f : FT} (h : PXT X K W e f) : PXTs X K W [e] f := fun hK => pts_one (h hK)
theorem rep_any {K : PySem.W.Frag} {F : Hp} : ∀ {σ : L2.St} {e : Env} {M : Cells} {v : Nat} {o : Option V}, Rep K F σ e M → e[v]? = some none → Rep K F (σ.set v o) e M
  | _, _, _, v, o, .nil, h => by cases h
  | _, _, _, 0, o, .non r, h => .non r
  | _, _, _, 0, o, .som q r, h => by cases h
  | _, _, _, v + 1, o, .non r, h => .non (rep_any r h)
  | _, _, _, v + 1, o, .som q r, h => .som q (rep_any r h)
theorem rep_res1 {K : PySem.W.Frag} {F0 F : Hp} {σ σ2 : L2.St} {env1 env2 : Env} {M1 M2 : Cells} {v : Nat} (s : Same F0 F) (rp1 : Rep K F0 σ env1 M1) (hl : σ2.length = σ.length) (rp2 : Rep K F σ2 env2 M2) :
    ∃ σ3 M3 T, M2.Perm (T ++ M3) ∧ Rep K F σ3 (env2.set v (keepE env1 v)) M3 ∧ σ3.length = σ.length ∧ σ3[v]? = σ[v]? ∧ ∀ j, j ≠ v → σ3[j]? = σ2[j]? := by
  by_cases hv : v < σ.length
  · obtain ⟨M3, sub, r3⟩ := rp2.drop v
    obtain ⟨T, pT⟩ := sub_perm sub
    have hlen : env2.length = σ.length := by rw [← rp2.len, hl]
    have hn : (env2.set v none)[v]? = some none := List.getElem?_set_self (by omega)
    have r4 := rep_any (o := σ[v]) r3 hn
    rw [List.set_set] at r4
    have g1 : (σ2.set v σ[v])[v]? = σ[v]? := by
      rw [List.getElem?_set_self (by omega), List.getElem?_eq_getElem hv]
    have g2 : ∀ j, j ≠ v → (σ2.set v σ[v])[j]? = σ2[j]? := fun j hj => List.getElem?_set_ne (Ne.symm hj)
    unfold keepE
    split
    · rename_i d hd
      obtain ⟨u, _, _, _, hu, ⟨_, ru⟩, _⟩ := rp1.at hd
      obtain ⟨M4, p4, r5⟩ := r4.lay (s := .fz d) (v := u) (S := []) hn (g1.trans hu) ⟨rfl, ru.mono s⟩
      rw [List.set_set] at r5
      exact ⟨_, M4, T, (pT.trans (List.perm_append_comm)).trans (p4.symm.append_left T), r5, by rw [List.length_set, hl], g1, g2⟩
    · exact ⟨_, M3, T, pT.trans List.perm_append_comm, r4, by rw [List.length_set, hl], g1, g2⟩
  · refine ⟨σ2, M2, [], .refl _, ?_, hl, ?_, fun _ _ => rfl⟩
    · have hlen : env2.length = σ.length := by rw [← rp2.len, hl]
      rw [List.set_eq_of_length_le (by omega)]
      exact rp2
    · rw [List.getElem?_eq_none (by omega), List.getElem?_eq_none (by omega)]
theorem rep_res {K : PySem.W.Frag} {F0 F : Hp} {σ : L2.St} {env1 : Env} {M1 : Cells} (s : Same F0 F) (rp1 : Rep K F0 σ env1 M1) : ∀ (vs : List Nat) {σ2 : L2.St} {env2 : Env} {M2 : Cells}, σ2.length = σ.length → (∀ j, j ∉ vs → σ2[j]? = σ[j]?) → Rep K F σ2 env2 M2 → ∃ M' T, M2.Perm (T ++ M') ∧ Rep K F σ (resE env1 env2 vs) M'
  | [], σ2, env2, M2, hl, hj, rp2 => by
    have e : σ2 = σ := List.ext_getElem? fun j => hj j (fun z => by cases z)
    subst e
    exact ⟨M2, [], .refl _, rp2⟩
  | v :: vs, σ2, env2, M2, hl, hj, rp2 => by
    obtain ⟨σ3, M3, T, p3, r3, h3, g1, g2⟩ := rep_res1 (v := v) s rp1 hl rp2
    obtain ⟨M4, T4, p4, r4⟩ := rep_res s rp1 vs h3 (fun j hjv => by
      by_cases e : j = v
      · rw [e]
        exact g1
      · rw [g2 j e]
        exact hj j fun z => (List.mem_cons.mp z).elim e hjv) r3
    refine ⟨M4, T ++ T4, ?_, r4⟩
    rw [List.append_assoc]
    exact p3.trans (p4.append_left T)
section
variable {X : Cx} {K : PySem.W.Frag} {W : WX} {e tg elt it : Expr} {ifs : List Expr} {scope : Scope} {own : List (Str × Nat)} {fe : FX} {fi : FI} {ft : FT} {st : Tg} {l : List Nat} {pos : Pos}
theorem lcX_imp {vs : List Nat} (hl : ∀ i ∈ l, i ∈ vs) : ∀ σ H Q, LX K W (xLc fi vs st ft fe) σ H Q → tLc (LIX K W fi) (LTg K l st) (LT K WF ft) (LX K WF fe) vs σ H Q := fun σ H Q ⟨env, F, M, M0, q, w, rp, o, h, k, kw⟩ => by
  refine ⟨env, F, M, M0, _, w, rp, o, h, fun ds env1 J F1 M1 H1 ⟨hsz, I, h0, hturn, hend⟩ s1 wk rp1 o1 => ?_, kw⟩
  obtain ⟨Gd, Y, wk, gd, y⟩ := wk
  obtain ⟨Mw, sub, rpw⟩ := rep_wipe rp1 vs
  obtain ⟨R, hR⟩ := sub_perm sub
  have oW : Own F1 (Mw ++ M0) H1 := by
    have z := o1.perm (hR.append_right M0)
    rw [List.append_assoc] at z
    exact z.sub ((List.Sublist.refl Mw).append (List.sublist_append_right R M0))
  have wff : ∀ {F2 : Hp} {M2 : Cells}, WFit K F2 M2 WF (fun _ _ _ => False) := fun {F2 M2} _ _ _ _ _ _ _ _ _ z => z.elim
  refine lcb (F := F1) (M := Mw ++ M0) wk oW (fun i acc F' M' => Same F1 F' ∧ ∃ env2 M2 ra, M' = M2 ++ M0 ∧ Rep K F' (wipe σ vs) env2 M2 ∧ RpAll K F' acc ra ∧ I i ra env2 ∧ acc.length ≤ i) ⟨Same.refl _, _, Mw, [], rfl, rpw, .nil, h0, Nat.zero_le _⟩ ?_ ?_ ?_
  · rintro Dd i acc F' M' H' _ ⟨s', _⟩ o'
    exact gd H' (s'.trans o'.fr) fun _ z => (nomatch z)
  · rintro Dd i x acc F' M' H' H'' hi ⟨s', env2, M2, ra, rfl, rp2, rr, hI, hla⟩ o' hy
    obtain ⟨d, F2, hd, s2, o2, rd⟩ := y i H' x H'' F' _ hi s' o' hy
    obtain ⟨env3, hst, hft⟩ := hturn i d ra env2 hd hI
    have pp : ∀ (Mx : Cells), ((Dd, HO.lst acc) :: (Mx ++ M0)).Perm (Mx ++ ((Dd, HO.lst acc) :: M0)) := fun Mx => perm_mid [(Dd, HO.lst acc)] Mx M0
    refine ⟨env2, F2, M2, (Dd, .lst acc) :: M0, d, env3, rp2.mono s2, o2.perm (pp M2), rd, hst, fun σ3 M3 T of3 p3 rp3 => ⟨wipe_off of3 hl, ?_⟩⟩
    have o3 : Own F2 (M3 ++ ((Dd, .lst acc) :: M0)) H'' := own_less p3 (o2.perm (pp M2))
    have hwo : wipe σ3 vs = wipe σ vs := wipe_off of3 hl
    have sz : acc.length < sizeLine := by
      have := (List.getElem?_eq_some_iff.mp hd).1
      omega
    -- a turn's end
    have fin : ∀ {F5 H5 : Hp} {M5 : Cells} {env5 : Env}, Rep K F5 σ3 env5 M5 → Own F5 (M5 ++ ((Dd, .lst acc) :: M0)) H5 → ∃ M6, Rep K F5 (wipe σ vs) (wipeE env5 vs) M6 ∧ Own F5 ((Dd, .lst acc) :: (M6 ++ M0)) H5 := by
      intro F5 H5 M5 env5 rp5 o5
      obtain ⟨M6, sub6, rp6⟩ := rep_wipe rp5 vs
      obtain ⟨R6, hR6⟩ := sub_perm sub6
      rw [hwo] at rp6
      refine ⟨M6, rp6, ?_⟩
      have z := own_less (T := R6) (M' := M6) (hR6.trans List.perm_append_comm) o5
      exact z.perm (pp M6).symm
    refine ⟨env3, F2, M3, _, _, _, rp3, o3, hft, fun c env4 F4 M4 H4 hq s4 rp4 o4 => ?_, wff⟩
    cases c with
    | true =>
      refine iteT ?_
      have hq : xD fe env4 (fun _ _ _ => False) (fun y env5 => I (i + 1) (ra ++ [y]) (wipeE env5 vs)) := by
        rw [if_pos rfl] at hq
        exact hq
      refine lx_d rp4 o4 hq wff fun yd env5 v F5 M5 H5 hI5 s5 r5 rp5 o5 => ?_
      obtain ⟨M6, rp6, o6⟩ := fin rp5 o5
      refine lcN ⟨acc, F5, M6 ++ M0, sz, ⟨s'.trans (s2.trans (s4.trans s5)), _, M6, ra ++ [yd], rfl, rp6, (rr.mono (s2.trans (s4.trans s5))).app (.cons r5 .nil), hI5, ?_⟩, o6⟩
      rw [List.length_append]
      show acc.length + 1 ≤ i + 1
      omega
    | false =>
      refine iteF ?_
      have hq : I (i + 1) ra (wipeE env4 vs) := by
        rw [if_neg Bool.false_ne_true] at hq
        exact hq
      obtain ⟨M6, rp6, o6⟩ := fin rp4 o4
      exact ⟨acc, F4, M6 ++ M0, ⟨s'.trans (s2.trans s4), _, M6, ra, rfl, rp6, rr.mono (s2.trans s4), hq, by omega⟩, o6⟩
  · rintro Dd acc F' M' H' nD ⟨s', env2, M2, ra, rfl, rp2, rr, hI, _⟩ o'
    obtain ⟨M3, T, p3, r3⟩ := rep_res s' rp1 vs (wipe_length σ _) (fun j hj => wipe_out hj) rp2
    refine k _ _ _ [(Dd, .lst acc)] F' M3 H' (hend ra env2 hI Dd) (s1.trans s') (ow_ol rr) r3 ?_
    have z : Own F' (M2 ++ ((Dd, .lst acc) :: M0)) H' := o'.perm (perm_mid [(Dd, HO.lst acc)] M2 M0)
    exact (own_less p3 z).perm (perm_mid [(Dd, HO.lst acc)] M3 M0).symm
theorem px_lc (hc : X.calm = true) (hN : X.N.Nodup) (hi : PIX X K W tg it fi) (ok : BlkOk X.N X.env.scope scope own) (hl : ∀ i ∈ l, i ∈ own.map (·.2))
    (hg : ∀ (s : Shared) (H : Hp) (C : Addr) (cl : List (Str × Addr)) (fp : List Addr), PTg (X.blk s H scope (compEnvC scope cl C X.env) fp) K tg l st)
    (ht : ∀ (s : Shared) (H : Hp) (C : Addr) (cl : List (Str × Addr)) (fp : List Addr), PXTs (X.blk s H scope (compEnvC scope cl C X.env) fp) K WF ifs ft)
    (he : ∀ (s : Shared) (H : Hp) (C : Addr) (cl : List (Str × Addr)) (fp : List Addr), PX (X.blk s H scope (compEnvC scope cl C X.env) fp) K WF elt fe) (hs : ∀ x, foldedSetIterable it X.env x = pure x := by intro _; rfl) :
    PX X K W (.ListComp elt [⟨tg, it, ifs, 0⟩] scope pos) (xLc fi (own.map (·.2)) st ft fe) := fun hK =>
  pe_imp (pe_lc hc hN (hi hK) ok (fun s H C cl fp => hg s H C cl fp hK) (fun s H C cl fp => ht s H C cl fp hK) (fun s H C cl fp => he s H C cl fp hK) hs) (lcX_imp hl)
theorem lx_n {g : G} : ∀ σ H Q, LX K W (xN g) σ H Q → LN K g σ H Q := fun σ H Q ⟨env, F, M, M0, q, w, rp, o, ⟨n, hg, hq⟩, k, kw⟩ =>
  ⟨env, F, M, M0, _, rp, o, hg, fun a v S F' H' s' o' w' => k _ env v S F' M H' (hq a) s' w' (rp.mono s') o'⟩
/-- a name is set -/
theorem set_imp {i : Nat} {fx : FX} {te : TE} (h : ∀ σ H Q, LX K W fx σ H Q → te σ H Q) : ∀ E σ H, LS K W (sSet i fx) E σ H → tAsg te (gName i) E σ H := fun E σ H ⟨env, F, M, M0, e, rp, o, hh, ft⟩ =>
  h σ H _ ⟨env, F, M, M0, _, _, rp, o, hh, fun r env' v S F' M' H' ⟨hi, hq⟩ s' sl rp' o' => by
    obtain ⟨A, S0, B, hM, put⟩ := rp'.put hi
    subst hM
    exact ft.nx _ _ F' _ H' hq s' (put F' r v S (Same.refl _) sl) (own_put o'), ft.ex⟩
theorem pp_setLcN {i : Nat} {y : Str} {py spos : Pos} {gi : GI} {c : B} {g : G} (hc : X.calm = true) (hN : X.N.Nodup) (hy : X.N[i]? = some y) (hyl : X.env.scope.names.lookup y = some .local) (hsw : swapsWith (.ListComp elt [⟨tg, it, ifs, 0⟩] scope pos) (some (.Name y py)) spos.line X.env = pure true) (hi : PIt X K tg it gi) (ok : BlkOk X.N X.env.scope scope own) (hl : ∀ i ∈ l, i ∈ own.map (·.2))
    (hg : ∀ (s : Shared) (H : Hp) (C : Addr) (cl : List (Str × Addr)) (fp : List Addr), PTg (X.blk s H scope (compEnvC scope cl C X.env) fp) K tg l st)
    (ht : ∀ (s : Shared) (H : Hp) (C : Addr) (cl : List (Str × Addr)) (fp : List Addr), PBs (X.blk s H scope (compEnvC scope cl C X.env) fp) K ifs c)
    (he : ∀ (s : Shared) (H : Hp) (C : Addr) (cl : List (Str × Addr)) (fp : List Addr), PD (X.blk s H scope (compEnvC scope cl C X.env) fp) K elt g) (hs : ∀ x, foldedSetIterable it X.env x = pure x := by intro _; rfl) :
    PP X K W (.Assign [.Name y py] (.ListComp elt [⟨tg, it, ifs, 0⟩] scope pos) spos) (sSet i (xN (gLc gi (own.map (·.2)) st c g))) := fun hK =>
  ps_imp (ps_setLc hc hN hy hyl hsw (hi hK) ok (fun s H C cl fp => hg s H C cl fp hK) (fun s H C cl fp => ht s H C cl fp hK) (fun s H C cl fp => he s H C cl fp hK) hs) (set_imp fun σ H Q h => lcN_imp hl σ H Q (lx_n σ H Q h))
theorem pp_setLcX {i : Nat} {y : Str} {py spos : Pos} (hc : X.calm = true) (hN : X.N.Nodup) (hy : X.N[i]? = some y) (hyl : X.env.scope.names.lookup y = some .local) (hsw : swapsWith (.ListComp elt [⟨tg, it, ifs, 0⟩] scope pos) (some (.Name y py)) spos.line X.env = pure true) (hi : PIX X K W tg it fi) (ok : BlkOk X.N X.env.scope scope own) (hl : ∀ i ∈ l, i ∈ own.map (·.2))
    (hg : ∀ (s : Shared) (H : Hp) (C : Addr) (cl : List (Str × Addr)) (fp : List Addr), PTg (X.blk s H scope (compEnvC scope cl C X.env) fp) K tg l st)
    (ht : ∀ (s : Shared) (H : Hp) (C : Addr) (cl : List (Str × Addr)) (fp : List Addr), PXTs (X.blk s H scope (compEnvC scope cl C X.env) fp) K WF ifs ft)
    (he : ∀ (s : Shared) (H : Hp) (C : Addr) (cl : List (Str × Addr)) (fp : List Addr), PX (X.blk s H scope (compEnvC scope cl C X.env) fp) K WF elt fe) (hs : ∀ x, foldedSetIterable it X.env x = pure x := by intro _; rfl) :
    PP X K W (.Assign [.Name y py] (.ListComp elt [⟨tg, it, ifs, 0⟩] scope pos) spos) (sSet i (xLc fi (own.map (·.2)) st ft fe)) := fun hK =>
  ps_imp (ps_setLc hc hN hy hyl hsw (hi hK) ok (fun s H C cl fp => hg s H C cl fp hK) (fun s H C cl fp => ht s H C cl fp hK) (fun s H C cl fp => he s H C cl fp hK) hs) (set_imp (lcX_imp hl))
end
theorem spP_nox {K : PySem.W.Frag} {n : Nat} {C : FS} {vs : List V} {H : Hp} {Q : VK} {E : XK} (hC : ∀ ss q w, C ss q w → C ss q fun _ _ _ => False) (h : spP K n C vs H Q E) : spP K n C vs H Q (fun _ _ _ => False) := by
  obtain ⟨ss, F, Ms, M0, q, w, hn, sa, o, hc, kq, kw⟩ := h
  exact ⟨ss, F, Ms, M0, q, fun _ _ _ => False, hn, sa, o, hC _ _ _ hc, kq, fun _ _ _ _ _ _ _ _ z => z.elim⟩
/-! ### readings -/
section
variable {env : Env} {e : EP'} {q : Sl → Env → Prop} {qt : Bool → Env → Prop} {w : WP} {f g : FSt} {fx fa fb : FX} {ft ft' : FT} {ar : FA} {i : Nat} {gg : G} {k : D → Env → Prop}
theorem s_seq (h : f env { e with nx := fun env' => g env' e }) : sSeq f g env e := h
theorem s_cut (Mid : Env → Prop) (h : f env { e with nx := Mid }) (k : ∀ env', Mid env' → g env' e) : sCut f g env e := ⟨Mid, h, k⟩
theorem s_nil (h : e.nx env) : sNil env e := h
theorem s_set (h : fx env (fun r env' => i < env'.length ∧ e.nx (env'.set i (some r))) e.ex) : sSet i fx env e := h
theorem s_drop (h : fx env (fun _ env' => e.nx env') e.ex) : sDrop fx env e := h
theorem s_ret (h : fx env (fun r env' => e.rt r env') e.ex) : sRet fx env e := h
theorem s_retN (h : e.rt (.fz .non) env) : sRetN env e := h
theorem s_if (h : ft env (fun c env' => if c = true then f env' e else g env' e) e.ex) : sIf ft f g env e := h
theorem s_fz (h : f (env.fz i) e) : sFz i f env e := h
theorem s_brk (h : e.bk env) : sBrk env e := h
theorem s_cont (h : e.ct env) : sCont env e := h
theorem s_asg {st : Tg} (h : xD fx env e.ex fun d env1 => ∃ env2, st d env1 = some env2 ∧ e.nx env2) : sAsg fx st env e := h
theorem x_p {d : D} (h : gg env = some (.f d)) (k : q (.fz d) env) : xP gg env q w := ⟨d, h, k⟩
theorem x_n {d : D} (h : gg env = some (.f d)) (k : ∀ v, q (.ow (ownD v d)) env) : xN gg env q w := ⟨d, h, k⟩
theorem x_nl {ds : List D} (h : gg env = some (.f (.lst ds))) (k : ∀ v, q (.ow (ol v ds)) env) : xN gg env q w := ⟨_, h, k⟩
theorem x_nd {ds : List (Key × D)} (h : gg env = some (.f (.dic ds))) (k : ∀ v, q (.ow (od v ds)) env) : xN gg env q w := ⟨_, h, k⟩
theorem x_d (h : fx env (fun r env' => ∃ d, r.fzD = some d ∧ k d env') w) : xD fx env w k := h
/-- a frozen value goes on -/
theorem x_fz {d : D} (h : k d env) : ∃ d', (Sl.fz d).fzD = some d' ∧ k d' env := ⟨d, rfl, h⟩
theorem x_ow {n : N} (h : k n.toD env) : ∃ d', (Sl.ow n).fzD = some d' ∧ k d' env := ⟨_, rfl, h⟩
theorem x_dp {d : D} (h : gg env = some (.f d)) (kk : k d env) : xD (xP gg) env w k := ⟨d, h, d, rfl, kk⟩
theorem x_op {o : N → N → Option N} (h : xD fa env w fun d1 env1 => xD fb env1 w fun d2 env2 => ∃ d, o (.f d1) (.f d2) = some (.f d) ∧ q (.fz d) env2) : xOp o fa fb env q w := h
theorem x_un {o : N → Option N} (h : xD fa env w fun d1 env1 => ∃ d, o (.f d1) = some (.f d) ∧ q (.fz d) env1) : xUn o fa env q w := h
theorem t_p {c : Bool} {b : B} (h : b env = some c) (k : qt c env) : tP b env qt w := ⟨c, h, k⟩
theorem t_x (h : xD fx env w fun d env' => ∃ c, truD d = some c ∧ qt c env') : tX fx env qt w := h
theorem t_xb (h : xD fx env w fun d env' => ∃ c, d = .bl c ∧ qt c env') : tXb fx env qt w := h
theorem t_and (h : ft env (fun c env' => if c = true then ft' env' qt w else qt false env') w) : tAndX ft ft' env qt w := h
theorem t_or (h : ft env (fun c env' => if c = true then qt true env' else ft' env' qt w) w) : tOrX ft ft' env qt w := h
theorem t_not (h : ft env (fun c env' => qt (!c) env') w) : tNotX ft env qt w := h
/-- one draw; the source in slot i -/
theorem x_draw {gl : G} {a : Addr} {m : Int} (hs : env[i]? = some (some (src a))) (hg : gl env = some (.f (.int m))) (h0 : 0 < m) (h1 : m < 2 ^ 120) (k : ∀ r, 0 ≤ r → r < m → q (.fz (.int r)) env) : xCall0 2 CDraw (aB i (aV (xP gl) aNil)) env q w := by
  refine ⟨⟨_, hs⟩, _, hg, _, rfl, rfl, [src a, .fz (.int m)], ?_, rfl, a, m, rfl, h0, h1, fun r r0 r1 => ?_⟩
  · show (match env[i]?, slots env [.v (.int m)] with
      | some (some s), some ss => some (s :: ss)
      | _, _ => none) = _
    rw [hs]
    rfl
  · show q (.fz (.int r)) (env.set i (some (src a)))
    rw [set_same hs]
    exact k r r0 r1
end
/-- the slots in l are anything -/
def AnyAt : List Nat → Env → (Env → Prop) → Prop
  | [], e, P => P e
  | i :: is, e, P => ∃ y, AnyAt is (e.set i y) P
end Pu

/-! ## Pu: readings, by steps -/
namespace Pu
open PySem PySem.Spec PyProof.Rows L2 Ed
section
variable {env env2 : Env} {e : EP'} {q : Sl → Env → Prop} {qt : Bool → Env → Prop} {qi : List D → Env → Prop} {qa : List PArg → Env → Prop} {w : WP} {f g : FSt} {fx fa fb : FX} {ft ft' : FT} {fi : FI} {ar : FA} {i : Nat} {gg : G} {k : D → Env → Prop} {st : Tg} {P : Env → Prop} {r : Sl} {d : D}
theorem s_fz2 (h : env.fz i = env2) (k : f env2 e) : sFz i f env e := by
  show f (env.fz i) e
  rw [h]
  exact k
theorem x_st (hl : Nat.ble (i + 1) env.length = true) (he : env.set i (some r) = env2) (k : P env2) : i < env.length ∧ P (env.set i (some r)) := ⟨Nat.le_of_ble_eq_true hl, by rw [he]; exact k⟩
theorem s_for (h : fi env (fun ds env1 => ∃ I : Nat → Env → Prop, I 0 env1 ∧ (∀ i d env2, ds[i]? = some d → I i env2 → ∃ env3, st d env2 = some env3 ∧ f env3 { e with nx := I (i + 1), ct := I (i + 1), bk := e.nx }) ∧ ∀ env2, I ds.length env2 → e.nx env2) e.ex) : sFor fi st f env e := h
theorem s_dput (h : xD fb env e.ex fun d env1 => (∃ n, env1.node i = some n) ∧ xD fa env1 e.ex fun dk env2 => ∃ v kvs k, env2[i]? = some (some (.ow (od v kvs))) ∧ keyD dk = some k ∧ kvs.length < sizeLine ∧ e.nx (env2.set i (some (.ow (od v (putD kvs k d)))))) : sDput i fa fb env e := h
theorem i_l (h : xD fx env w fun d env' => ∃ ds, d = .lst ds ∧ qi ds env') : iL1 fx env qi w := h
theorem i_t (h : xD fx env w fun d env' => ∃ ds, d = .tup ds ∧ qi ds env') : iT1 fx env qi w := h
theorem i_r1 (h : xD fx env w fun d env' => ∃ n, d = .int n ∧ n < 2 ^ 62 ∧ -(2 ^ 62) ≤ n ∧ qi (rng 0 n.toNat) env') : iR1 fx env qi w := h
theorem i_r2 (h : xD fa env w fun d1 env1 => xD fb env1 w fun d2 env2 => ∃ m n, d1 = .int m ∧ d2 = .int n ∧ (-(2 ^ 62) ≤ m ∧ m < 2 ^ 62 ∧ -(2 ^ 62) ≤ n ∧ n < 2 ^ 62) ∧ qi (rng m (n - m).toNat) env2) : iR2 fa fb env qi w := h
theorem i_dn (h : xD fa env w fun d1 env1 => xD fb env1 w fun d2 env2 => ∃ m n, d1 = .int m ∧ d2 = .int n ∧ (-(2 ^ 62) ≤ m ∧ m < 2 ^ 62 ∧ -(2 ^ 62) ≤ n ∧ n < 2 ^ 62) ∧ qi (rngD m (m - n).toNat) env2) : iDn fa fb env qi w := h
theorem i_e (h : xD fx env w fun d env' => ∃ ds, d = .lst ds ∧ qi (enumD ds) env') : iE1 fx env qi w := h
theorem i_s (h : xD fx env w fun d env' => ∃ z, d = .str z ∧ qi (chars z) env') : iS1 fx env qi w := h
theorem x_tup (h : ar env (fun as env' => ∃ ds, vals as = some ds ∧ ds.length ≤ 1000 ∧ q (.fz (.tup ds)) env') w) : xTup ar env q w := h
theorem x_lst (h : ar env (fun as env' => ∃ ds, vals as = some ds ∧ ds.length ≤ 1000 ∧ ∀ v, q (.ow (ol v ds)) env') w) : xLst ar env q w := h
theorem a_nil (h : qa [] env) : aNil env qa w := h
theorem a_v (h : xD fx env w fun d env1 => ar env1 (fun as env2 => qa (.v d :: as) env2) w) : aV fx ar env qa w := h
theorem a_b {s : Sl} (hs : env[i]? = some (some s)) (h : ar env (fun as env2 => qa (.b i :: as) env2) w) : aB i ar env qa w := ⟨⟨s, hs⟩, h⟩
theorem x_call0 {n : Nat} {C : FS} (h : ar env (fun as env1 => ndA as = true ∧ ∃ ss, slots env1 as = some ss ∧ ss.length = n ∧ C ss (fun r ss' => q r (back env1 as ss')) (fun _ _ _ => False)) w) : xCall0 n C ar env q w := h
theorem x_call {n : Nat} {C : FS} (h : ar env (fun as env1 => ndA as = true ∧ ∃ ss, slots env1 as = some ss ∧ ss.length = n ∧ C ss (fun r ss' => q r (back env1 as ss')) (fun c fs ss' => w c fs (back env1 as ss'))) w) : xCall n C ar env q w := h
theorem x_dnew (h : ∀ v, q (.ow (od v [])) env) : xDnew env q w := h
theorem x_dtup (h : ar env (fun as env' => ∃ ds, vals as = some ds ∧ ds.length ≤ 1000 ∧ ∃ d', (Sl.fz (.tup ds)).fzD = some d' ∧ k d' env') w) : xD (xTup ar) env w k := h
/-- a call that is not of the source: its arguments are there -/
theorem x_ar {n : Nat} {C : FS} {as : List PArg} {ss : List Sl} {qq : Sl → List Sl → Prop} {ww : Str → List (Str × D) → List Sl → Prop} (h1 : ndA as = true) (h2 : slots env as = some ss) (h3 : ss.length = n) (h : C ss qq ww) : ndA as = true ∧ ∃ ss, slots env as = some ss ∧ ss.length = n ∧ C ss qq ww := ⟨h1, ss, h2, h3, h⟩
/-- xs.append(e), xs.pop(e) -/
theorem x_appS (h1 : isOl env i) (h : xD fa env w fun d env1 => ∃ v ds, env1[i]? = some (some (.ow (ol v ds))) ∧ ds.length < sizeLine ∧ q (.fz .non) (env1.set i (some (.ow (ol v (ds ++ [d])))))) : xApp i fa env q w := ⟨h1, h⟩
theorem is_ol {v : Addr} {ds : List D} (h : env[i]? = some (some (.ow (ol v ds)))) : isOl env i := ⟨v, ds, h⟩
theorem x_app2 {R : Addr → List D → Prop} {v : Addr} {ds : List D} (h0 : env[i]? = some (some (.ow (ol v ds)))) (hl : ds.length < sizeLine) (k : R v ds) : ∃ v ds, env[i]? = some (some (.ow (ol v ds))) ∧ ds.length < sizeLine ∧ R v ds := ⟨v, ds, h0, hl, k⟩
theorem x_popS (h1 : isOl env i) (h : xD fa env w fun d env1 => ∃ v ds k y, env1[i]? = some (some (.ow (ol v ds))) ∧ d = .int (Int.ofNat k) ∧ k < 2 ^ 63 ∧ ds[k]? = some y ∧ q (.fz y) (env1.set i (some (.ow (ol v (ds.eraseIdx k)))))) : xPopA i fa env q w := ⟨h1, h⟩
theorem x_pop2 {R : Addr → List D → Nat → D → Prop} {v : Addr} {ds : List D} {j : Nat} {y : D} {m : Int} (h0 : env[i]? = some (some (.ow (ol v ds)))) (hm : m = Int.ofNat j) (hj : j < 2 ^ 63) (hy : ds[j]? = some y) (k : R v ds j y) :
    ∃ v ds k y, env[i]? = some (some (.ow (ol v ds))) ∧ D.int m = .int (Int.ofNat k) ∧ k < 2 ^ 63 ∧ ds[k]? = some y ∧ R v ds k y := ⟨v, ds, j, y, h0, by rw [hm], hj, hy, k⟩
theorem x_insS (h1 : isOl env i) (h : xD fa env w fun d1 env1 => xD fb env1 w fun d2 env2 => ∃ v ds k, env2[i]? = some (some (.ow (ol v ds))) ∧ d1 = .int (Int.ofNat k) ∧ k ≤ 1000 ∧ ds.length < sizeLine ∧ q (.fz .non) (env2.set i (some (.ow (ol v (ds.take k ++ [d2] ++ ds.drop k)))))) : xIns i fa fb env q w := ⟨h1, h⟩
theorem x_ins2 {R : Addr → List D → Nat → Prop} {v : Addr} {ds : List D} {j : Nat} {m : Int} (h0 : env[i]? = some (some (.ow (ol v ds)))) (hm : m = Int.ofNat j) (hj : j ≤ 1000) (hl : ds.length < sizeLine) (k : R v ds j) :
    ∃ v ds k, env[i]? = some (some (.ow (ol v ds))) ∧ D.int m = .int (Int.ofNat k) ∧ k ≤ 1000 ∧ ds.length < sizeLine ∧ R v ds k := ⟨v, ds, j, h0, by rw [hm], hj, hl, k⟩
/-- d[k] = v -/
theorem x_dput2 {R : Addr → List (Key × D) → Key → Prop} {v : Addr} {kvs : List (Key × D)} {kk : Key} {dk : D} (h0 : env[i]? = some (some (.ow (od v kvs)))) (hk : keyD dk = some kk) (hl : kvs.length < sizeLine) (k : R v kvs kk) : ∃ v kvs k, env[i]? = some (some (.ow (od v kvs))) ∧ keyD dk = some k ∧ kvs.length < sizeLine ∧ R v kvs k := ⟨v, kvs, kk, h0, hk, hl, k⟩
theorem x_seti2 {R : Addr → List D → Int → Nat → Prop} {v : Addr} {ds : List D} {j : Nat} {m : Int} (h0 : env[i]? = some (some (.ow (ol v ds)))) (hj : L2.ixN ds.length m = some j) (k : R v ds m j) : ∃ v ds j k, env[i]? = some (some (.ow (ol v ds))) ∧ D.int m = .int j ∧ L2.ixN ds.length j = some k ∧ R v ds j k := ⟨v, ds, m, j, h0, rfl, hj, k⟩
/-- a target is stored -/
theorem x_tg {st : Tg} {env3 : Env} (h : st d env = some env3) (k : P env3) : ∃ env2, st d env = some env2 ∧ P env2 := ⟨env3, h, k⟩
end
end Pu
namespace Pu
open PySem PySem.Spec PyProof.Rows L2 Ed
theorem x_source {K : PySem.W.Frag} {i : Nat} {env : Env} {q : Sl → Env → Prop} {w : WP} {a : Addr} {ns : List Int} (hs : env[i]? = some (some (scr K a ns))) (hl : ns.length ≤ 63) (k : ∀ b, q (src b) env) : xCall0 1 (CSource K) (aB i aNil) env q w := by
  refine ⟨⟨_, hs⟩, rfl, [scr K a ns], ?_, rfl, a, ns, rfl, hl, fun b => ?_⟩
  · show (match env[i]?, slots env [] with
      | some (some s), some ss => some (s :: ss)
      | _, _ => none) = _
    rw [hs]
    rfl
  · show q (src b) (env.set i (some (scr K a ns)))
    rw [set_same hs]
    exact k b
section
variable {P : D → Prop} {PI : Int → Prop} {PL : List D → Prop} {PB : Bool → Prop} {d : D} {R : Prop}
theorem e_fz (h : P d) : ∃ d', (Sl.fz d).fzD = some d' ∧ P d' := ⟨d, rfl, h⟩
theorem e_ow {v : Addr} {ds : List D} (h : P (.lst ds)) : ∃ d', (Sl.ow (ol v ds)).fzD = some d' ∧ P d' := ⟨_, congrArg some (ol_toD _ ds), h⟩
theorem e_od {v : Addr} {ds : List (Key × D)} (h : P (.dic ds)) : ∃ d', (Sl.ow (od v ds)).fzD = some d' ∧ P d' := ⟨_, congrArg some (od_toD _ ds), h⟩
theorem e_ev {o : Option N} (h : o = some (.f d)) (k : P d) : ∃ d, o = some (N.f d) ∧ P d := ⟨d, h, k⟩
theorem e_I {n : Int} (k : PI n) : ∃ m, D.int n = .int m ∧ PI m := ⟨n, rfl, k⟩
theorem e_II {n m : Int} {P2 : Int → Int → Prop} (k : P2 n m) : ∃ i j, D.int n = .int i ∧ D.int m = .int j ∧ P2 i j := ⟨n, m, rfl, rfl, k⟩
theorem e_L {ds : List D} (k : PL ds) : ∃ es, D.lst ds = .lst es ∧ PL es := ⟨ds, rfl, k⟩
theorem e_T {ds : List D} (k : PL ds) : ∃ es, D.tup ds = .tup es ∧ PL es := ⟨ds, rfl, k⟩
theorem e_S {z : Str} {PS : Str → Prop} (k : PS z) : ∃ y, D.str z = .str y ∧ PS y := ⟨z, rfl, k⟩
theorem e_B {b : Bool} (k : PB b) : ∃ c, D.bl b = .bl c ∧ PB c := ⟨b, rfl, k⟩
theorem e_tru {b : Bool} (h : truD d = some b) (k : PB b) : ∃ c, truD d = some c ∧ PB c := ⟨b, h, k⟩
theorem e_vals {as : List PArg} {ds : List D} (h : vals as = some ds) (hl : ds.length.ble 1000 = true) (k : PL ds) : ∃ ds, vals as = some ds ∧ ds.length ≤ 1000 ∧ PL ds := ⟨ds, h, Nat.le_of_ble_eq_true hl, k⟩
theorem e_b1 {n : Int} (h1 : n < 2 ^ 62) (h2 : -(2 ^ 62) ≤ n) (k : R) : n < 2 ^ 62 ∧ -(2 ^ 62) ≤ n ∧ R := ⟨h1, h2, k⟩
theorem e_b2 {m n : Int} (h1 : -(2 ^ 62) ≤ m) (h2 : m < 2 ^ 62) (h3 : -(2 ^ 62) ≤ n) (h4 : n < 2 ^ 62) (k : R) : (-(2 ^ 62) ≤ m ∧ m < 2 ^ 62 ∧ -(2 ^ 62) ≤ n ∧ n < 2 ^ 62) ∧ R := ⟨⟨h1, h2, h3, h4⟩, k⟩
end
/-! ### data of a kind -/
theorem atI_map {α β : Type} (f : α → β) (xs : List α) (i : Int) : atI (xs.map f) i = (atI xs i).map f := by
  unfold atI
  rw [List.length_map]
  cases L2.ixN xs.length i with
  | none => rfl
  | some j =>
    show (xs.map f)[j]? = _
    rw [List.getElem?_map]
    rfl
theorem atI_lt {α : Type} {xs : List α} {n : Int} (h0 : 0 ≤ n) (h1 : n < xs.length) : ∃ c, atI xs n = some c ∧ c ∈ xs := at_lt h0 h1
theorem atI_at {α : Type} {xs : List α} {j : Nat} {x : α} (h : xs[j]? = some x) : atI xs (j : Int) = some x := atI_nat h
/-- a comprehension whose elements are known -/
theorem comps_map {α : Type} {st : Tg} {c : B} {e : G} {env : Env} {enc : α → D} {f : α → D} : ∀ {xs : List α}, (∀ x ∈ xs, ∃ env', st (enc x) env = some env' ∧ c env' = some true ∧ e env' = some (.f (f x))) → comps st c e env (xs.map enc) = some (xs.map f)
  | [], _ => rfl
  | x :: xs, h => by
    obtain ⟨env', h1, h2, h3⟩ := h x List.mem_cons_self
    rw [List.map_cons]
    unfold comps
    rw [h1]
    dsimp only
    rw [h2]
    dsimp only
    rw [h3, comps_map fun y hy => h y (List.mem_cons_of_mem _ hy)]
    rfl
theorem comps_filter {α : Type} {st : Tg} {c : B} {e : G} {env : Env} {enc : α → D} {f : α → D} {p : α → Bool} : ∀ {xs : List α}, (∀ x ∈ xs, ∃ env', st (enc x) env = some env' ∧ c env' = some (p x) ∧ (p x = true → e env' = some (.f (f x)))) → comps st c e env (xs.map enc) = some ((xs.filter p).map f)
  | [], _ => rfl
  | x :: xs, h => by
    obtain ⟨env', h1, h2, h3⟩ := h x List.mem_cons_self
    rw [List.map_cons]
    unfold comps
    rw [h1]
    dsimp only
    rw [h2]
    have ih := comps_filter (xs := xs) fun y hy => h y (List.mem_cons_of_mem _ hy)
    cases hp : p x with
    | true =>
      dsimp only
      rw [h3 hp, ih, List.filter_cons_of_pos hp]
      rfl
    | false =>
      dsimp only
      rw [ih, List.filter_cons_of_neg (by rw [hp]; exact Bool.false_ne_true)]
theorem gLc_some {gi : GI} {vs : List Nat} {st : Tg} {c : B} {e : G} {env : Env} {ds rs : List D} (h : gi env = some ds) (hl : ds.length ≤ 1000) (hc : comps st c e (wipeE env vs) ds = some rs) : gLc gi vs st c e env = some (.f (.lst rs)) := by
  unfold gLc
  rw [h]
  dsimp only
  rw [if_pos (sz1 hl), hc]
  rfl
theorem gFz_some {g : G} {env : Env} {d : D} (h : g env = some (.f d)) : gFz g env = some (.f d) := by
  unfold gFz
  rw [h]
theorem giL_ol {g : G} {env : Env} {a : Addr} {ds : List D} (h : g env = some (ol a ds)) : giL g env = some ds := by
  unfold giL
  rw [h]
  exact kids_ol a ds
theorem giL_f {g : G} {env : Env} {ds : List D} (h : g env = some (.f (.lst ds))) : giL g env = some ds := by
  unfold giL
  rw [h]
  rfl
theorem len_ol {g : G} {env : Env} {a : Addr} {ds : List D} (h : g env = some (ol a ds)) : gArgs (fA1 lenD) [g] env = some (.f (.int ds.length)) := by
  unfold gArgs gAll
  rw [h]
  show (lenD (ol a ds).toD).map N.f = _
  rw [ol_toD]
  rfl
theorem len_f {g : G} {env : Env} {ds : List D} (h : g env = some (.f (.lst ds))) : gArgs (fA1 lenD) [g] env = some (.f (.int ds.length)) := by
  unfold gArgs gAll
  rw [h]
  rfl
/-- == of flat data -/
theorem eqB_str (a b : Str) : eqB (.str a) (.str b) = some (decide (a = b)) := by
  unfold eqB
  rw [if_pos ⟨rfl, rfl, rfl⟩]
  congr 1
  show decide (V.str a = V.str b) = _
  rw [Bool.eq_iff_iff]
  simp
theorem eqB_int (a b : Int) : eqB (.int a) (.int b) = some (decide (a = b)) := by
  unfold eqB
  rw [if_pos ⟨rfl, rfl, rfl⟩]
  congr 1
  show decide (V.int a = V.int b) = _
  rw [Bool.eq_iff_iff]
  simp
theorem eqB_bl (a b : Bool) : eqB (.bl a) (.bl b) = some (decide (a = b)) := by
  unfold eqB
  rw [if_pos ⟨rfl, rfl, rfl⟩]
  congr 1
  show decide (V.bl a = V.bl b) = _
  rw [Bool.eq_iff_iff]
  simp
theorem eqB_deep {x y : D} {p q : PyData} (hx : toP x = some p) (hy : toP y = some q) (sx : SeqAt.shaped p = true) (sy : SeqAt.shaped q = true) (nf : flatD x = false) : eqB x y = some (PyData.eqv p q) := by
  unfold eqB
  rw [if_neg (by rw [nf]; exact fun z => Bool.false_ne_true z.1), hx, hy]
  dsimp only
  rw [if_pos ⟨sx, sy⟩]
theorem toPs_str : ∀ (l : List Str), toPs (l.map D.str) = some (l.map PyData.str)
  | [] => rfl
  | x :: l => by
    rw [List.map_cons]
    unfold toPs
    rw [toPs_str l]
    rfl
theorem shp_strs {l : List Str} (h : ∀ x ∈ l, PyData.strOk x = true) : Shp 1 (.list (l.map .str)) := shp_list fun d hd => by
  obtain ⟨x, hx, rfl⟩ := List.mem_map.mp hd
  exact shp_str _ (h x hx)
theorem b_op {o : D → D → Option D} {ga gb : G} {env : Env} {x y : N} {c : Bool} (h1 : ga env = some x) (h2 : gb env = some y) (h3 : o x.toD y.toD = some (.bl c)) : bV (gOp (fOp o) ga gb) env = some c := by
  unfold bV gOp
  rw [h1, h2]
  dsimp only
  unfold fOp
  rw [h3]
  rfl
theorem g_op {o : D → D → Option D} {ga gb : G} {env : Env} {x y : N} {d : D} (h1 : ga env = some x) (h2 : gb env = some y) (h3 : o x.toD y.toD = some d) : gOp (fOp o) ga gb env = some (.f d) := by
  unfold gOp
  rw [h1, h2]
  dsimp only
  unfold fOp
  rw [h3]
  rfl
theorem g_opN {o : N → N → Option N} {ga gb : G} {env : Env} {x y n : N} (h1 : ga env = some x) (h2 : gb env = some y) (h3 : o x y = some n) : gOp o ga gb env = some n := by
  unfold gOp
  rw [h1, h2]
  exact h3
theorem addD_s {x y : Str} (h : x.length + y.length ≤ 1000) : addD (.str x) (.str y) = some (.str (x ++ y)) := by
  unfold addD
  dsimp only
  rw [if_pos (sz1 h)]
theorem strD_i {i : Int} (h : i.natAbs.log2 < 1920) : strD (.int i) = some (.str (Str.ofString (toString i))) := by
  unfold strD
  dsimp only
  rw [if_pos h]
theorem a1_some {o : D → Option D} {g : G} {env : Env} {x : N} {d : D} (h1 : g env = some x) (h2 : o x.toD = some d) : gArgs (fA1 o) [g] env = some (.f d) := by
  unfold gArgs gAll
  rw [h1]
  show (o x.toD).map N.f = _
  rw [h2]
  rfl
theorem a2_some {o : D → D → Option D} {g g' : G} {env : Env} {x y : N} {d : D} (h1 : g env = some x) (h1' : g' env = some y) (h2 : o x.toD y.toD = some d) : gArgs (fA2 o) [g, g'] env = some (.f d) := by
  unfold gArgs gAll gAll
  rw [h1, h1']
  show (o x.toD y.toD).map N.f = _
  rw [h2]
  rfl
theorem ixS_some {z : Str} {i : Int} {c : Nat} (hl : z.length ≤ 1000) (h : atI z.cps.toList i = some c) : ixD (.f (.str z)) (.f (.int i)) = some (.f (.str ⟨#[c]⟩)) := by
  unfold ixD
  dsimp only
  rw [if_pos (sz1 hl), h]
  rfl
theorem erase_map {α β : Type} (f : α → β) : ∀ (l : List α) (j : Nat), (l.map f).eraseIdx j = (l.eraseIdx j).map f
  | [], _ => rfl
  | a :: r, 0 => rfl
  | a :: r, j + 1 => congrArg _ (erase_map f r j)
theorem all_lit {s : Str} {p : Nat → Bool} (h : s.cps.toList.all p = true) {c : Nat} (hc : c ∈ s.cps.toList) : p c = true := List.all_eq_true.mp h c hc
theorem ok1 {c : Nat} (h : c < 0x110000) : PyData.strOk (⟨#[c]⟩ : Str) = true := by
  unfold PyData.strOk
  simp only [List.all_toArray, List.all_cons, List.all_nil, Bool.and_true]
  exact decide_eq_true h
/-! ### values of expressions, by their parts -/
section
variable {env : Env} {ga gb gc : G} {ba bb : B} {x y n : N} {d : D} {c c' : Bool} {i : Nat}
theorem ev_var (h : env.node i = some n) : gVar i env = some n := h
theorem ev_c : gC d env = some (.f d) := rfl
theorem ev_op {o : N → N → Option N} (h1 : ga env = some x) (h2 : gb env = some y) (h3 : o x y = some n) : gOp o ga gb env = some n := g_opN h1 h2 h3
theorem ev_un {o : N → Option N} (h1 : ga env = some x) (h3 : o x = some n) : gUn o ga env = some n := by
  unfold gUn
  rw [h1]
  exact h3
theorem ev_a1 {o : List N → Option N} (h1 : ga env = some x) (h3 : o [x] = some n) : gArgs o [ga] env = some n := by
  unfold gArgs gAll gAll
  rw [h1]
  exact h3
theorem ev_a0 {o : List N → Option N} (h3 : o [] = some n) : gArgs o [] env = some n := h3
theorem ev_a2 {o : List N → Option N} (h1 : ga env = some x) (h2 : gb env = some y) (h3 : o [x, y] = some n) : gArgs o [ga, gb] env = some n := by
  unfold gArgs gAll gAll gAll
  rw [h1, h2]
  exact h3
theorem ev_as {gs : List G} {o : List N → Option N} {ns : List N} (h1 : gAll gs env = some ns) (h3 : o ns = some n) : gArgs o gs env = some n := by
  unfold gArgs
  rw [h1]
  exact h3
theorem ev_nil : gAll [] env = some [] := rfl
theorem ev_cons {gs : List G} {ns : List N} (h1 : ga env = some x) (h2 : gAll gs env = some ns) : gAll (ga :: gs) env = some (x :: ns) := by
  unfold gAll
  rw [h1, h2]
theorem ev_fz (h : ga env = some (.f d)) : gFz ga env = some (.f d) := gFz_some h
theorem ev_ifT (hc : ba env = some true) (h : ga env = some n) : gIf ba ga gb env = some n := by
  unfold gIf
  rw [hc]
  exact h
theorem ev_ifF (hc : ba env = some false) (h : gb env = some n) : gIf ba ga gb env = some n := by
  unfold gIf
  rw [hc]
  exact h
theorem ev_if {z : N} (hc : ba env = some c) (h1 : c = true → ga env = some x) (h2 : c = false → gb env = some z) : gIf ba ga gb env = some (if c = true then x else z) := by
  unfold gIf
  rw [hc]
  cases c with
  | true => exact h1 rfl
  | false => exact h2 rfl
theorem ev_bV (h : ga env = some (.f (.bl c))) : bV ga env = some c := by
  unfold bV
  rw [h]
theorem ev_bT (h : ga env = some n) (k : truD n.toD = some c) : bT ga env = some c := by
  unfold bT
  rw [h]
  exact k
theorem ev_bnot (h : ba env = some c) : bNot ba env = some (!c) := by
  unfold bNot
  rw [h]
  rfl
theorem ev_band (h : ba env = some c) (k : c = true → bb env = some c') : bAnd ba bb env = some (c && c') := by
  unfold bAnd
  rw [h]
  cases c with
  | true => exact k rfl
  | false => rfl
theorem ev_bor (h : ba env = some c) (k : c = false → bb env = some c') : bOr ba bb env = some (c || c') := by
  unfold bOr
  rw [h]
  cases c with
  | true => rfl
  | false => exact k rfl
theorem ev_and (h : ga env = some (.f (.bl c))) (k : c = true → gb env = some (.f (.bl c'))) : gAnd ga gb env = some (.f (.bl (c && c'))) := by
  unfold gAnd
  rw [h]
  cases c with
  | true => exact k rfl
  | false => rfl
theorem ev_or (h : ga env = some (.f (.bl c))) (k : c = false → gb env = some (.f (.bl c'))) : gOr ga gb env = some (.f (.bl (c || c'))) := by
  unfold gOr
  rw [h]
  cases c with
  | true => rfl
  | false => exact k rfl
theorem ev_not (h : ga env = some (.f (.bl c))) : gNot ga env = some (.f (.bl (!c))) := by
  unfold gNot
  rw [h]
theorem ev_yes : bYes env = some true := rfl
/-! leaves -/
theorem lf_eqs {a b : Str} : fOp eqD (.f (.str a)) (.f (.str b)) = some (.f (.bl (decide (a = b)))) := by
  show ((eqB (.str a) (.str b)).map D.bl).map N.f = _
  rw [eqB_str]
  rfl
theorem lf_nes {a b : Str} : fOp neD (.f (.str a)) (.f (.str b)) = some (.f (.bl (!decide (a = b)))) := by
  show ((eqB (.str a) (.str b)).map _).map N.f = _
  rw [eqB_str]
  rfl
theorem lf_eqi {a b : Int} : fOp eqD (.f (.int a)) (.f (.int b)) = some (.f (.bl (decide (a = b)))) := by
  show ((eqB (.int a) (.int b)).map D.bl).map N.f = _
  rw [eqB_int]
  rfl
theorem lf_nei {a b : Int} : fOp neD (.f (.int a)) (.f (.int b)) = some (.f (.bl (!decide (a = b)))) := by
  show ((eqB (.int a) (.int b)).map _).map N.f = _
  rw [eqB_int]
  rfl
theorem lf_eqb {a b : Bool} : fOp eqD (.f (.bl a)) (.f (.bl b)) = some (.f (.bl (decide (a = b)))) := by
  show ((eqB (.bl a) (.bl b)).map D.bl).map N.f = _
  rw [eqB_bl]
  rfl
theorem lf_neb {a b : Bool} : fOp neD (.f (.bl a)) (.f (.bl b)) = some (.f (.bl (!decide (a = b)))) := by
  show ((eqB (.bl a) (.bl b)).map _).map N.f = _
  rw [eqB_bl]
  rfl
theorem lf_cat {a b : Str} (h : a.length + b.length ≤ 1000000) : fOp addD (.f (.str a)) (.f (.str b)) = some (.f (.str (a ++ b))) := by
  show (addD (.str a) (.str b)).map N.f = _
  unfold addD
  dsimp only
  rw [if_pos (by rw [sizeLine_eq]; omega)]
  rfl
theorem lf_len {a : Addr} {ds : List D} : fA1 lenD [ol a ds] = some (.f (.int ds.length)) := by
  show (lenD (ol a ds).toD).map N.f = _
  rw [ol_toD]
  rfl
theorem lf_lst {ns : List N} {ds : List D} (h : fds ns = some ds) (hl : ds.length.ble 1000 = true) : mkL ns = some (.f (.lst ds)) := by
  unfold mkL
  rw [h]
  dsimp only
  rw [if_pos (Nat.le_of_ble_eq_true hl)]
theorem lf_tup {ns : List N} {ds : List D} (h : fds ns = some ds) (hl : ds.length.ble 1000 = true) : mkT ns = some (.f (.tup ds)) := by
  unfold mkT
  rw [h]
  dsimp only
  rw [if_pos (Nat.le_of_ble_eq_true hl)]
theorem lf_strI {i : Int} (h : i.natAbs.log2 < 1920) : fA1 strD [.f (.int i)] = some (.f (.str (Str.ofString (toString i)))) := by
  show (strD (.int i)).map N.f = _
  rw [strD_i h]
  rfl
theorem lf_gcat {x y : N} {ds es : List D} (h1 : kidsL x = some ds) (h2 : kidsL y = some es) (hl : ds.length + es.length ≤ 1000000) : gcat x y = some (.f (.lst (ds ++ es))) := by
  unfold gcat
  rw [h1, h2]
  dsimp only
  rw [if_pos (by rw [sizeLine_eq]; omega)]
end
end Pu

/-! ## Pu: containers within containers, by paths; objects -/
namespace Pu
open PySem PySem.Spec PyProof.Rows L2 Ed
open Classical in
theorem perm_by {A B : Cells} (h : ∀ c, A.count c = B.count c) : A.Perm B := List.perm_iff_count.mpr h
open Classical in
theorem by_perm {A B : Cells} (h : A.Perm B) (c : Addr × HO) : A.count c = B.count c := List.perm_iff_count.mp h c
inductive Step where
  | ix (k : Nat)
  | key (k : Key)
  | fld (f : Str)
def setK {α : Type} [DecidableEq α] (kvs : List (α × N)) (k : α) (n : N) : List (α × N) := match kvs with
  | [] => []
  | (j, m) :: r => if j = k then (j, n) :: r else (j, m) :: setK r k n
def ffind (fs : List (Str × N)) (f : Str) : Option N := (fs.find? fun kv => decide (kv.1 = f)).map Prod.snd
def N.kid : N → Step → Option N
  | .lst _ ns, .ix k => ns[k]?
  | .tup _ ns, .ix k => ns[k]?
  | .dic _ kvs, .key k => nfind kvs k
  | .obj _ _ _ fs, .fld x => ffind fs x
  | _, _ => none
def N.setKid : N → Step → N → N
  | .lst a ns, .ix k, m => .lst a (ns.set k m)
  | .tup a ns, .ix k, m => .tup a (ns.set k m)
  | .dic a kvs, .key k, m => .dic a (setK kvs k m)
  | .obj a dx C fs, .fld x, m => .obj a dx C (setK fs x m)
  | n, _, _ => n
def N.at_ : N → List Step → Option N
  | n, [] => some n
  | n, s :: p => match n.kid s with
    | some m => m.at_ p
    | none => none
def N.put : N → List Step → N → N
  | _, [], m => m
  | n, s :: p, m => match n.kid s with
    | some k => n.setKid s (k.put p m)
    | none => n
section
variable {K : PySem.W.Frag} {F : Hp}
theorem OwAll.kid : ∀ {vs : List V} {ns : List N} {S : Cells} {i : Nat} {n : N}, OwAll K F vs ns S → ns[i]? = some n → ∃ v A T B, vs[i]? = some v ∧ S = A ++ (T ++ B) ∧ Ow K F v n T ∧ ∀ F' m T', Same F F' → Ow K F' v m T' → OwAll K F' vs (ns.set i m) (A ++ (T' ++ B))
  | _, _, _, i, n, .nil, h => by cases h
  | _, _, _, 0, n, .cons (S := S) (T := T) a t, h => by
    cases h
    exact ⟨_, [], S, T, rfl, rfl, a, fun F' m T' s w => OwAll.cons (S := T') w (t.mono s)⟩
  | _, _, _, i + 1, n, .cons (S := S0) a t, h => by
    obtain ⟨v, A, T, B, h1, h2, h3, h4⟩ := OwAll.kid (i := i) t h
    refine ⟨v, S0 ++ A, T, B, h1, by rw [h2, List.append_assoc], h3, fun F' m T' s w => ?_⟩
    rw [List.append_assoc]
    exact .cons (a.mono s) (h4 F' m T' s w)
theorem OwDic.kid {k : Key} : ∀ {vs : List (Key × V)} {ns : List (Key × N)} {S : Cells} {n : N}, OwDic K F vs ns S → nfind ns k = some n → ∃ v A T B, valV vs k = some v ∧ S = A ++ (T ++ B) ∧ Ow K F v n T ∧ ∀ F' m T', Same F F' → Ow K F' v m T' → OwDic K F' vs (setK ns k m) (A ++ (T' ++ B))
  | _, _, _, n, .nil, h => by cases h
  | (k', v) :: vs, (_, n') :: ns, _, n, .cons (S := S0) (T := T0) a t, h => by
    unfold nfind at h
    unfold valV setK
    rw [List.find?_cons] at h ⊢
    by_cases hk : k' = k
    · subst hk
      simp only [decide_true] at h ⊢
      cases h
      refine ⟨v, [], S0, T0, rfl, rfl, a, fun F' m T' s w => ?_⟩
      rw [if_pos trivial]
      exact OwDic.cons (S := T') w (t.mono s)
    · simp only [hk, decide_false] at h ⊢
      obtain ⟨u, A, T, B, h1, h2, h3, h4⟩ := OwDic.kid (k := k) t h
      refine ⟨u, S0 ++ A, T, B, h1, by rw [h2, List.append_assoc], h3, fun F' m T' s w => ?_⟩
      rw [List.append_assoc]
      exact .cons (a.mono s) (h4 F' m T' s w)
theorem lookup_find {α : Type} (f : Str) : ∀ (l : List (Str × α)), l.lookup f = (l.find? fun kv => decide (kv.1 = f)).map Prod.snd
  | [] => rfl
  | (k, v) :: l => by
    rw [List.lookup_cons, List.find?_cons]
    by_cases h : k = f
    · subst h
      simp
    · have : (f == k) = false := by
        rw [beq_eq_false_iff_ne]
        exact fun z => h z.symm
      simp only [this, h, decide_false]
      exact lookup_find f l
theorem OwFs.kid {f : Str} : ∀ {vs : List (Str × V)} {ns : List (Str × N)} {S : Cells} {n : N}, OwFs K F vs ns S → ffind ns f = some n → ∃ v A T B, vs.lookup f = some v ∧ S = A ++ (T ++ B) ∧ Ow K F v n T ∧ ∀ F' m T', Same F F' → Ow K F' v m T' → OwFs K F' vs (setK ns f m) (A ++ (T' ++ B))
  | _, _, _, n, .nil, h => by cases h
  | (k', v) :: vs, (_, n') :: ns, _, n, .cons (S := S0) (T := T0) a t, h => by
    unfold ffind at h
    unfold setK
    rw [lookup_find]
    rw [List.find?_cons] at h ⊢
    by_cases hk : k' = f
    · subst hk
      simp only [decide_true] at h ⊢
      cases h
      refine ⟨v, [], S0, T0, rfl, rfl, a, fun F' m T' s w => ?_⟩
      rw [if_pos trivial]
      exact OwFs.cons (S := T') w (t.mono s)
    · simp only [hk, decide_false] at h ⊢
      obtain ⟨u, A, T, B, h1, h2, h3, h4⟩ := OwFs.kid (f := f) t h
      rw [lookup_find] at h1
      refine ⟨u, S0 ++ A, T, B, h1, by rw [h2, List.append_assoc], h3, fun F' m T' s w => ?_⟩
      rw [List.append_assoc]
      exact .cons (a.mono s) (h4 F' m T' s w)
theorem Ow.kid {v : V} {n m : N} {S : Cells} {s : Step} (h : Ow K F v n S) (e : n.kid s = some m) : ∃ u A T B, S = A ++ (T ++ B) ∧ Ow K F u m T ∧ ∀ F' m' T', Same F F' → Ow K F' u m' T' → Ow K F' v (n.setKid s m') (A ++ (T' ++ B)) := by
  unfold N.kid at e
  split at e
  · cases h with
    | lst h =>
      obtain ⟨u, A, T, B, h1, rfl, h3, h4⟩ := h.kid e
      exact ⟨u, _ :: A, T, B, rfl, h3, fun F' m' T' s w => .lst (h4 F' m' T' s w)⟩
  · cases h with
    | tup hT h =>
      obtain ⟨u, A, T, B, h1, rfl, h3, h4⟩ := h.kid e
      exact ⟨u, A, T, B, rfl, h3, fun F' m' T' s w => .tup (s _ _ hT) (h4 F' m' T' s w)⟩
  · cases h with
    | dic h =>
      obtain ⟨u, A, T, B, h1, rfl, h3, h4⟩ := h.kid e
      exact ⟨u, _ :: A, T, B, rfl, h3, fun F' m' T' s w => .dic (h4 F' m' T' s w)⟩
  · cases h with
    | obj h =>
      obtain ⟨u, A, T, B, h1, rfl, h3, h4⟩ := h.kid e
      exact ⟨u, _ :: A, T, B, rfl, h3, fun F' m' T' s w => .obj (h4 F' m' T' s w)⟩
  · cases e
theorem Ow.at_ : ∀ {p : List Step} {v : V} {n m : N} {S : Cells}, Ow K F v n S → n.at_ p = some m → ∃ u A T B, S = A ++ (T ++ B) ∧ Ow K F u m T ∧ ∀ F' m' T', Same F F' → Ow K F' u m' T' → Ow K F' v (n.put p m') (A ++ (T' ++ B))
  | [], v, n, m, S, h, e => by
    cases e
    exact ⟨v, [], S, [], by simp, h, fun F' m' T' s w => by rw [List.append_nil]; exact w⟩
  | s :: p, v, n, m, S, h, e => by
    unfold N.at_ at e
    split at e
    · rename_i k hk
      obtain ⟨u, A, T, B, rfl, h2, h3⟩ := h.kid hk
      obtain ⟨u2, A2, T2, B2, rfl, h5, h6⟩ := Ow.at_ h2 e
      refine ⟨u2, A ++ A2, T2, B2 ++ B, by simp only [List.append_assoc], h5, fun F' m' T' s' w => ?_⟩
      have z := h3 F' _ _ s' (h6 F' m' T' s' w)
      unfold N.put
      rw [hk]
      simp only [List.append_assoc] at z ⊢
      exact z
    · cases e
/-- what stands at a path of a slot, and what may take its place -/
theorem Rep.path {σ : L2.St} {env : Env} {M : Cells} {i : Nat} {p : List Step} {n m : N} (rp : Rep K F σ env M) (h : env[i]? = some (some (.ow n))) (e : n.at_ p = some m) :
    ∃ u A T B, M = A ++ (T ++ B) ∧ Ow K F u m T ∧ ∀ F' m' T', Same F F' → Ow K F' u m' T' → Rep K F' σ (env.set i (some (.ow (n.put p m')))) (A ++ (T' ++ B)) := by
  obtain ⟨v, A, S, B, hv, sl, rfl, put⟩ := rp.at h
  obtain ⟨u, A2, T, B2, rfl, h2, h3⟩ := Ow.at_ sl e
  refine ⟨u, A ++ A2, T, B2 ++ B, by simp only [List.append_assoc], h2, fun F' m' T' s w => ?_⟩
  have z := put F' (.ow (n.put p m')) v (A2 ++ (T' ++ B2)) s (h3 F' m' T' s w)
  rw [set_same hv] at z
  simp only [List.append_assoc] at z ⊢
  exact z
end
/-- the path that an expression of names, fields and subscripts walks -/
abbrev PTH := Env → Option (Nat × List Step)
def pV (i : Nat) : PTH := fun _ => some (i, [])
def pF (p : PTH) (f : Str) : PTH := fun env => match p env with
  | some (i, l) => some (i, l ++ [.fld f])
  | none => none
def pK (p : PTH) (g : G) : PTH := fun env => match p env, g env with
  | some (i, l), some n => match keyD n.toD with
    | some k => some (i, l ++ [.key k])
    | none => none
  | _, _ => none
def pI (p : PTH) (g : G) : PTH := fun env => match p env, g env with
  | some (i, l), some (.f (.int (.ofNat k))) => some (i, l ++ [.ix k])
  | _, _ => none
/-- the node at a path -/
def Env.path (env : Env) (q : Nat × List Step) : Option N := match env[q.1]? with
  | some (some (.ow n)) => n.at_ q.2
  | _ => none
def Env.putP (env : Env) (q : Nat × List Step) (m : N) : Env := match env[q.1]? with
  | some (some (.ow n)) => env.set q.1 (some (.ow (n.put q.2 m)))
  | _ => env
theorem Rep.path2 {K : PySem.W.Frag} {F H : Hp} {σ : L2.St} {env : Env} {M M0 : Cells} {q : Nat × List Step} {m : N} {a : Addr} (rp : Rep K F σ env M) (o : Own F (M ++ M0) H) (e : env.path q = some m) (ha : m.ad = some a) :
    ∃ A T B, Own F (T ++ (A ++ B)) H ∧ Ow K F (.ref a) m T ∧ ∀ F' H' m' T', Same F F' → Ow K F' (.ref a) m' T' → Own F' (T' ++ (A ++ B)) H' → ∃ M', Rep K F' σ (env.putP q m') M' ∧ Own F' (M' ++ M0) H' := by
  unfold Env.path at e
  split at e
  · rename_i n hn
    obtain ⟨u, A, T, B, rfl, h2, h3⟩ := rp.path hn e
    have hu := h2.ad ha
    subst hu
    refine ⟨A, T, B ++ M0, ?_, h2, fun F' H' m' T' s w o' => ⟨A ++ (T' ++ B), ?_, ?_⟩⟩
    · simp only [List.append_assoc] at o
      exact o.perm (perm_mid A T _)
    · unfold Env.putP
      rw [hn]
      exact h3 F' m' T' s w
    · simp only [List.append_assoc]
      exact o'.perm (perm_mid T' A _)
  · cases e
/-! ### stores at a path -/
/-- e.append(x), the list at a path -/
def xAppP (g : G) (p : PTH) (fa : FX) : FX := fun env q w => ∃ a ns0, g env = some (.lst a ns0) ∧ xD fa env w fun d env1 => ∃ pp ns, p env1 = some pp ∧ env1.path pp = some (.lst a ns) ∧ ns.length < sizeLine ∧ q (.fz .non) (env1.putP pp (.lst a (ns ++ [.f d])))
/-- e[k] = x, the dict at a path -/
def putN (kvs : List (Key × N)) (k : Key) (n : N) : List (Key × N) := if (kvs.any fun kv => decide (kv.1 = k)) = true then kvs.map (fun kv => if kv.1 = k then (kv.1, n) else kv) else kvs ++ [(k, n)]
/-- a container that is new to the dict comes under a new key -/
def PutOk (kvs : List (Key × N)) (k : Key) (n : N) : Prop := (∃ d, n = .f d) ∨ (kvs.any fun kv => decide (kv.1 = k)) = false
def Sl.nd : Sl → Option N
  | .fz d => some (.f d)
  | .ow n => some n
  | .cu _ _ => none
  | .xc _ _ _ _ _ => none
def sDputP (g : G) (p : PTH) (fk fv : FX) : FSt := fun env e => fv env (fun r env1 => ∃ a ns0 m, g env1 = some (.dic a ns0) ∧ r.nd = some m ∧ xD fk env1 e.ex fun dk env2 => ∃ pp kvs k, p env2 = some pp ∧ env2.path pp = some (.dic a kvs) ∧ keyD dk = some k ∧ kvs.length < sizeLine ∧ PutOk kvs k m ∧ e.nx (env2.putP pp (.dic a (putN kvs k m)))) e.ex
section
variable {K : PySem.W.Frag} {F : Hp}
theorem OwAll.app1 : ∀ {vs : List V} {ns : List N} {S : Cells} {v : V} {d : D}, OwAll K F vs ns S → Rp K F v d → OwAll K F (vs ++ [v]) (ns ++ [.f d]) S
  | _, _, _, v, d, .nil, r => OwAll.cons (S := []) (T := []) (.f r) .nil
  | _, _, _, v, d, .cons a t, r => .cons a (t.app1 r)
theorem OwDic.any {k : Key} : ∀ {vs : List (Key × V)} {ds : List (Key × N)} {S : Cells}, OwDic K F vs ds S → (vs.any fun kv => decide (kv.1 = k)) = (ds.any fun kv => decide (kv.1 = k))
  | _, _, _, .nil => rfl
  | _, _, _, .cons a t => by
    rw [List.any_cons, List.any_cons, t.any]
theorem OwDic.len : ∀ {vs : List (Key × V)} {ns : List (Key × N)} {S : Cells}, OwDic K F vs ns S → vs.length = ns.length
  | _, _, _, .nil => rfl
  | _, _, _, .cons _ t => congrArg (· + 1) t.len
end
section
variable {X : Cx} {K : PySem.W.Frag} {W : WX} {g : G} {p : PTH} {fa fb : FX}
theorem px_appP {c o : Expr} (ho : PD X K o g) (h : ∀ {to : TE}, PE X o to → PE X c (tBM X.K "list" rAppend to (tCons (LX K W fa) tNil))) : PX X K W c (xAppP g p fa) := fun hK => by
  refine pe_imp (h (ho hK)) fun σ H Q ⟨env, F, M, M0, q, w, rp, o, ⟨a, ns0, hg, hx⟩, k, kw⟩ => ?_
  refine ⟨env, F, M, M0, _, rp, o, hg, fun v F1 H1 s1 o1 w1 => ?_⟩
  obtain ⟨S, w1, hs⟩ := w1
  have hv := w1.ad (a := a) rfl
  subst hv
  cases w1 with
  | lst w1 =>
    rename_i vs0 S0
    have h0 := o1.mu _ (List.mem_append_left _ (hs _ List.mem_cons_self))
    refine ⟨.inl ⟨rfl, vs0, SqL.of h0⟩, lx_d (rp.mono s1) o1 hx (kw.up s1) fun d env1 y F2 M2 H2 ⟨pp, ns, hp, hpn, hl, hq⟩ s2 r2 rp2 o2 => ?_⟩
    obtain ⟨A, T, B, oT, ow, upd'⟩ := rp2.path2 o2 hpn rfl
    cases ow with
    | lst ow =>
      rename_i vs T0
      have h1 := oT.mu _ List.mem_cons_self
      have o3 : Own F2 ((a, .lst (vs ++ [y])) :: T0 ++ (A ++ B)) (upd H2 a (.lst (vs ++ [y]))) := own_upd (A := []) oT
      obtain ⟨M', rp', o'⟩ := upd' F2 _ (.lst a (ns ++ [.f d])) _ (Same.refl _) (.lst (ow.app1 r2)) o3
      exact ⟨a, vs, y, rfl, rfl, h1, by rw [ow.len]; exact hl, k _ _ .non [] F2 M' _ hq (s1.trans s2) ⟨rfl, .non⟩ rp' o'⟩
theorem OwDic.repl {F : Hp} {k : Key} {v : V} {d : D} (r : Rp K F v d) : ∀ {vs : List (Key × V)} {ns : List (Key × N)} {S : Cells}, OwDic K F vs ns S → ∃ S' T, S.Perm (T ++ S') ∧ OwDic K F (vs.map fun kv => if kv.1 = k then (kv.1, v) else kv) (ns.map fun kv => if kv.1 = k then (kv.1, .f d) else kv) S'
  | _, _, _, .nil => ⟨[], [], .refl _, .nil⟩
  | (k', u) :: vs, (_, m) :: ns, _, .cons (S := S0) a t => by
    obtain ⟨S', T, h1, h2⟩ := OwDic.repl r t
    rw [List.map_cons, List.map_cons]
    by_cases h : k' = k
    · rw [if_pos h, if_pos h]
      refine ⟨[] ++ S', S0 ++ T, ?_, .cons (.f r) h2⟩
      rw [List.append_assoc]
      exact h1.append_left S0
    · rw [if_neg h, if_neg h]
      exact ⟨S0 ++ S', T, (h1.append_left S0).trans (perm_mid S0 T S'), .cons a h2⟩
theorem OwDic.snoc {F : Hp} {k : Key} {v : V} {n : N} {Sv : Cells} (w : Ow K F v n Sv) : ∀ {vs : List (Key × V)} {ns : List (Key × N)} {S : Cells}, OwDic K F vs ns S → OwDic K F (vs ++ [(k, v)]) (ns ++ [(k, n)]) (S ++ Sv)
  | _, _, _, .nil => by
    have z := OwDic.cons (k := k) w .nil
    rw [List.append_nil] at z
    exact z
  | _, _, _, .cons a t => by
    rw [List.append_assoc]
    exact .cons a (t.snoc w)
theorem OwDic.putN {F : Hp} {k : Key} {v : V} {n : N} {Sv : Cells} {vs : List (Key × V)} {ns : List (Key × N)} {S : Cells} (h : OwDic K F vs ns S) (w : Ow K F v n Sv) (ok : PutOk ns k n) : ∃ S' T, (Sv ++ S).Perm (T ++ S') ∧ OwDic K F (putK vs k v) (Pu.putN ns k n) S' := by
  unfold putK Pu.putN
  rw [h.any]
  split
  · rename_i hh
    rcases ok with ⟨d, rfl⟩ | ok
    · cases w with
      | f r => exact h.repl r
    · rw [ok] at hh
      cases hh
  · exact ⟨S ++ Sv, [], List.perm_append_comm, h.snoc w⟩
theorem slot_nd {F : Hp} {v : V} {r : Sl} {S : Cells} {m : N} (h : SlotR K F v r S) (e : r.nd = some m) : Ow K F v m S := by
  cases r with
  | fz d =>
    cases e
    obtain ⟨rfl, h⟩ := h
    exact .f h
  | ow n =>
    cases e
    exact h
  | cu _ _ => cases e
  | xc a cls d C fs => cases e
theorem pp_dputP {st : Stmt} {o : Expr} (ho : PD X K o g) (h : ∀ {to : TE}, PE X o to → PS X st (sDPut to (LX K W fb) (LX K W fa))) : PP X K W st (sDputP g p fb fa) := fun hK => ps_imp (h (ho hK)) fun E σ H ⟨env, F, M, M0, e, rp, o, hh, ft⟩ => by
  refine ⟨env, F, M, M0, _, _, rp, o, hh, fun r env1 v S F1 M1 H1 ⟨a, ns0, m, hg, hr, hk⟩ s1 sl rp1 o1 => ?_, ft.ex⟩
  have hw := slot_nd sl hr
  -- the dict, looked at
  have o1' : Own F1 (M1 ++ (S ++ M0)) H1 := o1.perm (perm_mid S M1 M0)
  refine ⟨env1, F1, M1, S ++ M0, _, rp1, o1', hg, fun u F2 H2 s2 o2 w2 => ?_⟩
  obtain ⟨S2, w2, hs⟩ := w2
  have hu := w2.ad (a := a) rfl
  subst hu
  refine lx_d (rp1.mono s2) o2 hk ((ft.ex.up (s1.trans s2)).more) fun dk env2 y F3 M3 H3 ⟨pp, kvs, k, hp, hpn, hkk, hl, ok, hq⟩ s3 r3 rp3 o3 => ?_
  unfold Env.path at hpn
  split at hpn
  · rename_i n hn
    obtain ⟨u, A, T, B, rfl, ow, rep⟩ := rp3.path hn hpn
    have hu := ow.ad (a := a) rfl
    subst hu
    cases ow with
    | dic ow =>
      rename_i vs T0
      have o4 : Own F3 ((a, .dK vs) :: (T0 ++ (A ++ (B ++ (S ++ M0))))) H3 := by
        refine o3.perm ?_
        exact perm_by fun c => (by simp only [List.count_append, List.count_cons]; omega)
      have hm := o4.mu _ List.mem_cons_self
      obtain ⟨S', X', hp1, hd⟩ := ow.putN (hw.mono (s2.trans s3)) ok
      have o5 := own_upd (A := []) (y := .dK (putK vs k v)) o4
      have o6 : Own F3 (X' ++ ((A ++ (((a, .dK (putK vs k v)) :: S') ++ B)) ++ M0)) (upd H3 a (.dK (putK vs k v))) := by
        refine o5.perm ?_
        exact perm_by fun c => (by have := by_perm hp1 c; simp only [List.count_append, List.count_cons, List.nil_append] at this ⊢; omega)
      refine ⟨a, _, rfl, key_put (key_v r3 hkk) hm (by rw [ow.len]; exact hl), ?_⟩
      refine ft.nx _ _ F3 _ _ hq (s1.trans (s2.trans s3)) ?_ (o6.sub (List.sublist_append_right X' _))
      unfold Env.putP
      rw [hn]
      exact rep F3 _ _ (Same.refl _) (.dic hd)
  · cases hpn
/-! ### fields -/
def fldN (C f : Str) : N → Option N
  | .f (.obj C' fs) => if C' = C then ((fs.find? fun kv => decide (kv.1 = f)).map fun kv => N.f kv.2) else none
  | .obj _ _ C' fs => if C' = C then ffind fs f else none
  | _ => none
theorem rpFs_find {H : Hp} {f : Str} : ∀ {vs : List (Str × V)} {ds : List (Str × D)} {d : D}, RpFs K H vs ds → (ds.find? fun kv => decide (kv.1 = f)).map Prod.snd = some d → ∃ v, vs.lookup f = some v ∧ Rp K H v d
  | _, _, d, .nil, h => by cases h
  | (k', v) :: vs, (_, d') :: ds, d, .cons a t, h => by
    rw [lookup_find]
    rw [List.find?_cons] at h ⊢
    by_cases hk : k' = f
    · subst hk
      simp only [decide_true] at h ⊢
      cases h
      exact ⟨v, rfl, a⟩
    · simp only [hk, decide_false] at h ⊢
      obtain ⟨u, h1, h2⟩ := rpFs_find (f := f) t h
      rw [lookup_find] at h1
      exact ⟨u, h1, h2⟩
theorem pd_fld {e : Expr} {C f : Str} {pos : Pos} (cl : Cls K (He.ga K C)) (na : NoAttr K (He.ga K C) f) (he : PD X K e g) (hb : attributeBase e f X.env (eval e X.env) = eval e X.env := by rfl) : PD X K (.Attribute e f pos) (gUn (fldN C f) g) := fun hK => by
  subst hK
  refine pe_imp (pe_fld (he rfl) hb) fun σ H Q ⟨env, F, M, M0, n, rp, o, hg, k⟩ => ?_
  obtain ⟨x, h1, h2⟩ := gUn_some hg
  refine ⟨env, F, M, M0, x, rp, o, h1, fun v F' H' s' o' w => ?_⟩
  unfold fldN at h2
  split at h2
  · rename_i C' fs
    split at h2
    · rename_i hC
      subst hC
      cases q : (fs.find? fun kv => decide (kv.1 = f)) with
      | none =>
        rw [q] at h2
        cases h2
      | some kv =>
        rw [q] at h2
        cases h2
        cases w.f with
        | obj ho r =>
          obtain ⟨u, hu, ru⟩ := rpFs_find (f := f) (d := kv.2) r (by rw [q]; rfl)
          exact ⟨_, _, _, _, u, rfl, o'.fr _ _ ho, cl, na, hu, k u F' H' s' o' (Vw.of ru)⟩
    · cases h2
  · rename_i C' fs
    split at h2
    · rename_i hC
      subst hC
      obtain ⟨S, w, hs⟩ := w
      cases w with
      | obj w =>
        obtain ⟨u, A, T, B, h3, rfl, h4, _⟩ := w.kid h2
        have hm := o'.mu _ (List.mem_append_left _ (hs _ List.mem_cons_self))
        exact ⟨_, _, _, _, u, rfl, hm, cl, na, h3, k u F' H' s' o' ⟨T, h4, fun c hc => hs c (List.mem_cons_of_mem _ (List.mem_append_right _ (List.mem_append_left _ hc)))⟩⟩
    · cases h2
  · cases h2
end
end Pu

/-! ## Pu: objects made and changed, methods, errors -/
namespace Pu
open PySem PySem.Spec PyProof.Rows L2 Ed
def putFN (f : Str) (n : N) : List (Str × N) → List (Str × N)
  | [] => [(f, n)]
  | (g, x) :: r => if g = f then (g, n) :: r else (g, x) :: putFN f n r
section
variable {K : PySem.W.Frag} {F : Hp}
theorem OwFs.putF {f : Str} {v : V} {n : N} {Sv : Cells} (w : Ow K F v n Sv) : ∀ {vs : List (Str × V)} {ns : List (Str × N)} {S : Cells}, OwFs K F vs ns S → ∃ S' T, (Sv ++ S).Perm (T ++ S') ∧ OwFs K F (L2.putF f v vs) (putFN f n ns) S'
  | _, _, _, .nil => ⟨Sv ++ [], [], .refl _, .cons w .nil⟩
  | (k, u) :: vs, (_, m) :: ns, _, .cons (S := S0) (T := T0) a t => by
    unfold L2.putF putFN
    by_cases h : k = f
    · rw [if_pos h, if_pos h]
      refine ⟨Sv ++ T0, S0, ?_, .cons w t⟩
      exact perm_mid Sv S0 T0
    · rw [if_neg h, if_neg h]
      obtain ⟨S', T, h1, h2⟩ := OwFs.putF w t
      refine ⟨S0 ++ S', T, ?_, .cons a h2⟩
      exact perm_by fun c => (by have := by_perm h1 c; simp only [List.count_append] at this ⊢; omega)
theorem OwFs.len : ∀ {vs : List (Str × V)} {ns : List (Str × N)} {S : Cells}, OwFs K F vs ns S → vs.length = ns.length
  | _, _, _, .nil => rfl
  | _, _, _, .cons _ t => congrArg (· + 1) t.len
end
/-- e.f = x, the object at a path -/
def sFldP (C f : Str) (g : G) (p : PTH) (fv : FX) : FSt := fun env e => fv env (fun r env1 => ∃ a dx fs m pp, g env1 = some (.obj a dx C fs) ∧ r.nd = some m ∧ p env1 = some pp ∧ env1.path pp = some (.obj a dx C fs) ∧ fs.length < 1000 ∧ e.nx (env1.putP pp (.obj a dx C (putFN f m fs)))) e.ex
section
variable {X : Cx} {K : PySem.W.Frag} {W : WX} {g : G} {p : PTH} {fa fb : FX} {C f : Str}
theorem pp_fldP {st : Stmt} {o : Expr} (cl : Cls K (He.ga K C)) (na : NoAttr K (He.ga K C) f) (ho : PD X K o g) (h : ∀ {to : TE}, PE X o to → PS X st (sFld X.K to (LX K W fa) f)) : PP X K W st (sFldP C f g p fa) := fun hK => by
  refine ps_imp (h (ho hK)) fun E σ H ⟨env, F, M, M0, e, rp, o, hh, ft⟩ => ?_
  subst hK
  refine ⟨env, F, M, M0, _, _, rp, o, hh, fun r env1 v S F1 M1 H1 ⟨a, dx, fs, m, pp, hg, hr, hp, hpn, hl, hq⟩ s1 sl rp1 o1 => ?_, ft.ex⟩
  have hw := slot_nd sl hr
  have o1' : Own F1 (M1 ++ (S ++ M0)) H1 := o1.perm (perm_mid S M1 M0)
  refine ⟨env1, F1, M1, S ++ M0, _, rp1, o1', hg, fun u F2 H2 s2 o2 w2 => ?_⟩
  obtain ⟨S2, w2, hs⟩ := w2
  have hu := w2.ad (a := a) rfl
  subst hu
  unfold Env.path at hpn
  split at hpn
  · rename_i n hn
    obtain ⟨u, A, T, B, rfl, ow, rep⟩ := (rp1.mono s2).path hn hpn
    have hu := ow.ad (a := a) rfl
    subst hu
    cases ow with
    | obj ow =>
      rename_i fvs T0
      have o4 : Own F2 ((a, .ins (He.ga X.K C) dx fvs) :: (T0 ++ (A ++ (B ++ (S ++ M0))))) H2 := by
        refine o2.perm ?_
        exact perm_by fun c => (by simp only [List.count_append, List.count_cons]; omega)
      have hm := o4.mu _ List.mem_cons_self
      obtain ⟨S', X', hp1, hd⟩ := OwFs.putF (f := f) (hw.mono s2) ow
      have o5 := own_upd (A := []) (y := .ins (He.ga X.K C) dx (L2.putF f v fvs)) o4
      have o6 : Own F2 (X' ++ ((A ++ (((a, .ins (He.ga X.K C) dx (L2.putF f v fvs)) :: S') ++ B)) ++ M0)) (upd H2 a (.ins (He.ga X.K C) dx (L2.putF f v fvs))) := by
        refine o5.perm ?_
        exact perm_by fun c => (by have := by_perm hp1 c; simp only [List.count_append, List.count_cons, List.nil_append] at this ⊢; omega)
      refine ⟨a, _, dx, fvs, rfl, hm, cl, na, by rw [ow.len]; exact hl, ?_⟩
      refine ft.nx _ _ F2 _ _ hq (s1.trans s2) ?_ (o6.sub (List.sublist_append_right X' _))
      unfold Env.putP
      rw [hn]
      exact rep F2 _ _ (Same.refl _) (.obj hd)
  · cases hpn
end
/-! ### errors -/
/-- raise C(args): the fields are nm of the arguments -/
def sRaise (C : Str) (ok : List D → Prop) (nm : List D → List (Str × D)) (fa : FA) : FSt := fun env e => fa env (fun as env' => ∃ ds, vals as = some ds ∧ ok ds ∧ e.ex C (nm ds) env') e.ex
/-- an error whose fields are its arguments, in order -/
theorem pp_raise {X : Cx} {K : PySem.W.Frag} {W : WX} {st : Stmt} {fa : FA} {C : Str} {sp : Sp} {ok : List D → Prop} {nm : List D → List (Str × D)}
    (h : PS X st (tRaise (tMkO (He.ga K C) sp [] (LAX K W fa)) W))
    (hm : ∀ {F H : Hp} {M : Cells} {vs : List V} {ds : List D} {Q : XK}, Own F M H → RpAll K F vs ds → ok ds → (∀ d F' H' fvs, Same F F' → Own F' M H' → F' d = some (.xd fvs) → RpFs K F' fvs (nm ds) → Q (.ref (He.ga K C)) (some d) H') → MkE (He.ga K C) sp vs H Q) :
    PP X K W st (sRaise C ok nm fa) := fun hK => ps_imp h fun E σ H ⟨env, F, M, M0, e, rp, o, hh, ft⟩ =>
  ⟨env, F, M, M0, _, _, rp, o, hh, fun as env' vs F' M' H' ⟨ds, hd, hok, hx⟩ s' ar rp' o' => hm (Q := fun cls d H' => W cls d σ H') o' (vals_rp ar hd) hok fun d F2 H2 fvs s2 o2 h2 r2 => ft.ex _ _ env' _ _ σ F2 M' H2 hx (s'.trans s2) ⟨rfl, d, fvs, rfl, h2, r2⟩ (rp'.mono s2) o2, ft.ex⟩
/-- try: body except C as n (slot i): suite a d, a and d: where the error and its fields are laid -/
def sTry (m : Str → Option Bool) (i : Nat) (body : FSt) (suite : Addr → Value → Option Addr → FSt) : FSt := fun env e => body env { e with ex := fun C fs env' => ∃ b, m C = some b ∧ (b = true → i < env'.length ∧ ∀ a cls d, suite a cls d (env'.set i (some (.xc a cls d C fs))) { e with nx := fun env2 => e.nx (env2.set i none), bk := fun env2 => e.bk (env2.set i none), ct := fun env2 => e.ct (env2.set i none) }) ∧ (b = false → e.ex C fs env') }
/-- e.f within the suite -/
noncomputable def gXf (a : Addr) (cls : Value) (d : Option Addr) (i : Nat) (C f : Str) : G := fun env => match env[i]? with
  | some (some (.xc a' cls' d' C' fs)) => open Classical in if a' = a ∧ cls' = cls ∧ d' = d ∧ C' = C then (fs.find? fun kv => decide (kv.1 = f)).map fun kv => .f kv.2 else none
  | _ => none
theorem pd_xf {X : Cx} {K : PySem.W.Frag} {a : Addr} {C f : Str} {oe : Obj} {cls : Value} {d : Option Addr} {pn : List (Addr × Obj)} {e : Expr} {i : Nat} {pos : Pos} (T : XfC K (He.ga K C)) (hno : PySem.W.findIn K (.ref (He.ga K C)) f = some none)
    (hz : Zc cls d oe) (hf : ∃ vs, oe.data = .fields vs) (he : PE (X.suite a ((a, oe) :: pn)) e (tVar i)) (hb : attributeBase e f X.env (eval e X.env) = eval e X.env := by rfl) :
    PD (X.suite a ((a, oe) :: pn)) K (.Attribute e f pos) (gXf a cls d i C f) := fun hK => by
  have hK' : X.K = K := hK
  subst hK'
  refine pe_imp (pe_xf T hno hz hf he hb) fun σ H Q ⟨env, F, M, M0, n, rp, o, hg, k⟩ => ?_
  unfold gXf at hg
  split at hg
  · rename_i a' cls' d' C' fs hs
    split at hg
    · rename_i hc
      obtain ⟨rfl, rfl, rfl, rfl⟩ := hc
      obtain ⟨v, A, S, B, h1, h2, h3, _⟩ := rp.at hs
      cases q : (fs.find? fun kv => decide (kv.1 = f)) with
      | none =>
        rw [q] at hg
        cases hg
      | some kv =>
        rw [q] at hg
        cases hg
        cases h2.2 with
        | exc hd r =>
          obtain ⟨u, hu, ru⟩ := rpFs_find (f := f) (d := kv.2) r (by rw [q]; rfl)
          exact ⟨_, h1, rfl, rfl, _, _, u, rfl, o.fr _ _ hd, hu, k u F H (Same.refl _) o (Vw.of ru)⟩
    · cases hg
  · cases hg
theorem rep_drop {K : PySem.W.Frag} {F H : Hp} {σ : L2.St} {env : Env} {M M0 : Cells} (rp : Rep K F σ env M) (o : Own F (M ++ M0) H) (i : Nat) (x : Option V) : ∃ M', Rep K F (σ.set i x) (env.set i none) M' ∧ Own F (M' ++ M0) H := by
  obtain ⟨M', sub, r⟩ := rp.drop i
  obtain ⟨T, hT⟩ := sub_perm sub
  refine ⟨M', ?_, own_less (hT.trans List.perm_append_comm) o⟩
  by_cases hi : i < env.length
  · have z := rep_any (o := x) r (List.getElem?_set_self hi)
    rw [List.set_set] at z
    exact z
  · have hs : ¬ i < σ.length := by rw [rp.len]; exact hi
    rw [List.set_eq_of_length_le (by omega)] at r ⊢
    rw [List.set_eq_of_length_le (by omega)] at r
    rw [List.set_eq_of_length_le (by omega)]
    exact r
theorem pp_try {X : Cx} {K : PySem.W.Frag} {W : WX} {st : Stmt} {c : Value} {i : Nat} {body : FSt} {suite : Addr → Value → Option Addr → FSt} {m : Str → Option Bool}
    (h : PS X st (tTryAs K c i (fun W => LS K W body) (fun a cls d => LS K W (suite a cls d)) W))
    (hm : ∀ C b, m C = some b → PySem.W.exmOne K (.ref (He.ga K C)) c = some b) : PP X K W st (sTry m i body suite) := fun hK => ps_imp h fun E σ H ⟨env, F, M, M0, e, rp, o, hh, ft⟩ =>
  ⟨env, F, M, M0, _, rp, o, hh, ⟨ft.nx, ft.rt, ft.bk, ft.ct, fun C fs env' cls d σ' F' M' H' ⟨b, hb, h1, h2⟩ s' xr rp' o' => by
    obtain ⟨rfl, da, fvs, rfl, hda, hfs⟩ := id xr
    refine ⟨b, hm C b hb, fun hbt a na => ?_, fun hbf => ft.ex C fs env' _ _ σ' F' M' H' (h2 hbf) s' xr rp' o'⟩
    obtain ⟨hi, hs⟩ := h1 hbt
    obtain ⟨A, S0, B, hM, put⟩ := rp'.put hi
    subst hM
    have rp2 := put F' (.xc a (.ref (He.ga K C)) (some da) C fs) (.ref a) [] (Same.refl _) ⟨rfl, .exc hda hfs⟩
    refine ⟨_, F', _, M0, _, rp2, own_put (S := []) o', hs a _ _, ?_⟩
    have fu := ft.up s'
    refine ⟨fun env2 σ2 F2 M3 H2 hq s2 rp3 o3 => ?_, fu.rt, fun env2 σ2 F2 M3 H2 hq s2 rp3 o3 => ?_, fun env2 σ2 F2 M3 H2 hq s2 rp3 o3 => ?_, fu.ex⟩
    · obtain ⟨M4, rp4, o4⟩ := rep_drop rp3 o3 i none
      exact fu.nx _ _ F2 M4 H2 hq s2 rp4 o4
    · obtain ⟨M4, rp4, o4⟩ := rep_drop rp3 o3 i none
      exact fu.bk _ _ F2 M4 H2 hq s2 rp4 o4
    · obtain ⟨M4, rp4, o4⟩ := rep_drop rp3 o3 i none
      exact fu.ct _ _ F2 M4 H2 hq s2 rp4 o4⟩⟩
end Pu

/-! ## Pu: isinstance, methods, new objects, constants of the module -/
namespace Pu
open PySem PySem.Spec PyProof.Rows L2 Ed
/-! ### isinstance of built-in types -/
def tyD : D → Option String
  | .non => some "NoneType"
  | .bl _ => some "bool"
  | .int _ => some "int"
  | .str _ => some "str"
  | .lst _ => some "list"
  | .tup _ => some "tuple"
  | .dic _ => some "dict"
  | _ => none
theorem ty_of {K : PySem.W.Frag} {H : Hp} {v : V} {d : D} {t : String} (r : Rp K H v d) (h : tyD d = some t) : TyX K H v (.type t) := by
  cases r with
  | non => cases h; exact .base .non
  | bl b => cases h; exact .base (.bl b)
  | int i => cases h; exact .base (.int i)
  | str s => cases h; exact .base (.str s)
  | lst hh a => cases h; exact .base (.lst hh)
  | tup hh a =>
    cases h
    rcases hh with (hh | ⟨o, hh⟩) | ⟨o, its, n, hk, hc, _⟩
    · exact .base (.tup hh)
    · exact .fTuple hh
    · exact .kTuple hk hc
  | dic hh a => cases h; exact .base (.dK hh)
  | _ => cases h
def isiB (T : String) (d : D) : Option Bool := match tyD d with
  | some t => kitB t T
  | none => none
def isiD (T : String) : D → Option D := fun d => (isiB T d).map D.bl
section
variable {X : Cx} {K : PySem.W.Frag} {W : WX} {e : Expr} {g : G} {pos p : Pos}
/-- isinstance(e, T) -/
theorem pd_isi {T : String} {call : Expr} (h : PE X call (tCB (rIsi X.K) (tCons (LG K g) (tCons (tC (.ty T)) tNil)))) : PD X K call (gUn (fUn (isiD T)) g) := fun hK => by
  subst hK
  refine pe_imp h fun σ H Q ⟨env, F, M, M0, n, rp, o, hg, k⟩ => ?_
  obtain ⟨x, h1, h2⟩ := gUn_some hg
  refine ⟨env, F, M, M0, x, rp, o, h1, fun v F' H' s' o' w => ?_⟩
  unfold fUn isiD isiB at h2
  cases q : tyD x.toD with
  | none =>
    rw [q] at h2
    cases h2
  | some t =>
    rw [q] at h2
    dsimp only at h2
    cases q2 : kitB t T with
    | none =>
      rw [q2] at h2
      cases h2
    | some b =>
      rw [q2] at h2
      cases h2
      exact ⟨v, .ty T, .type t, .type T, b, rfl, .ty T, ty_of (w.rp o') q, kit_ty q2, k (.bl b) F' H' s' o' (Vw.of (.bl b))⟩
/-- isinstance(e, (T, U)) -/
def isiD2 (T U : String) : D → Option D := fun d => match isiB T d, isiB U d with
  | some a, some b => some (.bl (a || b))
  | _, _ => none
theorem pd_isi2 {T U : String} {call : Expr} (h : PE X call (tCB (rIsiT X.K) (tCons (LG K g) (tCons (tTup (tCons (tC (.ty T)) (tCons (tC (.ty U)) tNil))) tNil)))) : PD X K call (gUn (fUn (isiD2 T U)) g) := fun hK => by
  subst hK
  refine pe_imp h fun σ H Q ⟨env, F, M, M0, n, rp, o, hg, k⟩ => ?_
  obtain ⟨x, h1, h2⟩ := gUn_some hg
  refine ⟨env, F, M, M0, x, rp, o, h1, fun v F' H' s' o' w => ?_⟩
  unfold fUn isiD2 isiB at h2
  cases q : tyD x.toD with
  | none =>
    rw [q] at h2
    cases h2
  | some t =>
    rw [q] at h2
    dsimp only at h2
    cases q1 : kitB t T with
    | none =>
      rw [q1] at h2
      cases h2
    | some b1 =>
      cases q2 : kitB t U with
      | none =>
        rw [q1, q2] at h2
        cases h2
      | some b2 =>
        rw [q1, q2] at h2
        cases h2
        refine ⟨by show 2 ≤ sizeLine; decide, fun tp hp => ?_⟩
        have n := o'.free hp
        have o2 := o'.newF (x := .tup [.ty T, .ty U]) hp
        refine ⟨v, tp, [.ty T, .ty U], .type t, [.type T, .type U], b1 || b2, rfl, upd_same, .cons (.ty T) (.cons (.ty U) .nil), ty_of ((w.rp o').mono (same_upd hp)) q, ?_, k (.bl _) _ _ (s'.trans (same_upd n)) o2 (Vw.of (.bl _))⟩
        refine kitAny_cons (kit_ty q1) (fun hb => ?_) (fun hb => by rw [hb]; rfl)
        rw [hb, Bool.false_or]
        refine kitAny_cons (kit_ty q2) (fun hb2 => ?_) (fun hb => hb)
        rw [hb2]
        rfl
end
end Pu

namespace Pu
open PySem PySem.Spec PyProof.Rows L2 Ed
/-! ### a method that may raise -/
def tMethW (C : Addr) (m : Str) (sp : Sp) (W : WX) (ta : TE) (t : TA) : TE := fun σ H Q => ta σ H fun x H1 => ∃ a dx fs, x = .ref a ∧ H1 a = some (.ins C dx fs) ∧ fs.lookup m = none ∧ t σ H1 fun vs H2 => sp (x :: vs) H2 Q fun cls d H' => W cls d σ H'
theorem pe_methW {X : Cx} {k : Nat} {C f : Addr} {m : Str} {sp : Sp} {W : WX} {o e : Expr} {es : List Expr} {ta : TE} {t : TA} {apos pos : Pos} {pl : Sem Bool} (he : PE X o ta) (c : Cls X.K C) (hm : Meth X.K C m f)
    (F : FnR X.prog X.w X.K X.mg X.base (CX X.prog X.w) k f sp) (hr : Room k X.A) (tk : Takes X W) (ha : PA X (e :: es) t)
    (hst : starEach (e :: es) X.env = (false, eval e X.env) :: starEach es X.env := by rfl) (hpl : (backTo pos (starEach es X.env)).any (·.1) = false := by rfl)
    (ht : eval (.Call (.Attribute o m apos) (e :: es) [] pos) X.env = (do
      let ov ← eval o X.env
      standAt apos.atName
      let (f, first) ← holding [ov] (getMethod ov m pl)
      callWith pos f first (backTo pos (starEach (e :: es) X.env)) (backToKw pos (keywordEach [] X.env))) := by rfl) :
    PE X (.Call (.Attribute o m apos) (e :: es) [] pos) (tMethW C m sp W ta t) := by
  refine ⟨fun pins s σ H Q I h => ?_⟩
  refine PySem.W.methodCall_KW (pl := pl) (thn (he.run pins s σ H _ I h) fun u s1 ⟨x, H1, I1, rx, a, dx, fs, ex, ea, l, q⟩ => ?_) ht
  subst ex
  obtain rfl : u = Value.ref a := rx
  refine getmeth_ok I1 ea c hm l ?_
  refine PySem.W.callWith_K (first := [.ref a]) (h₀ := X.base) I.ok.mod.kin hm.kp (thn (ha.run pos pins s1 σ H1 _ I1 q) fun us s2 ⟨vs, H2, I2, r, q2⟩ => ⟨I2.kIn, ?_⟩) hst hpl
  exact run_fnW (us := .ref a :: us) (vs := .ref a :: vs) F hr tk I2 (.cons rfl r) q2
/-! ### an object whose __init__ may raise -/
def tMakeW (C : Addr) (sp : Sp) (W : WX) (t : TA) : TE := fun σ H Q => t σ H fun vs H1 => ∀ x dx, H1 x = Option.none → H1 dx = Option.none → dx ≠ x →
  sp (V.ref x :: vs) (upd (upd H1 dx (.own x)) x (.ins C dx [])) (fun v H2 => v = .non ∧ Q (.ref x) H2) fun cls d H' => W cls d σ H'
theorem run_makeW {X : Cx} {k : Nat} {f C : Addr} {sp : Sp} {W : WX} {pins : List (Addr × Obj)} {σ : L2.St} {H : Hp} {s : Shared} {Q : VK} {us : List Value} {vs : List V} (M : Mk X.K C f) (F : FnR X.prog X.w X.K X.mg X.base (CX X.prog X.w) k f sp) (hr : Room (k + 1) X.A) (tk : Takes X W) (I : Inv X pins σ H s) (r : Vals vs us)
    (h : ∀ x dx, H x = Option.none → H dx = Option.none → dx ≠ x → sp (V.ref x :: vs) (upd (upd H dx (.own x)) x (.ins C dx [])) (fun v H2 => v = .non ∧ Q (.ref x) H2) fun cls d H' => W cls d σ H') :
    wpAny (model X.prog X.w) X.A (call (.ref C) us) (EP X pins σ Q) X.xe s := by
  have hq := h (s.heap.objs.size + 1) s.heap.objs.size (I.hok.fresh (Nat.le_succ _)) (I.hok.fresh (Nat.le_refl _)) (Nat.ne_of_lt (Nat.lt_succ_self _))
  have I2 := Inv.made (C := C) I
  have r2 : Vals (V.ref (s.heap.objs.size + 1) :: vs) (Value.ref (s.heap.objs.size + 1) :: us) := .cons rfl r
  refine wpAny_call (make_map (f := f) I.kIn M.makes M.init (beq_iff_eq.mp M.fn) (codeAny_mono (F _ X.stack _ _ (Value.ref (s.heap.objs.size + 1) :: us) _ _ _ (hr.make C us []) (I2.env0.make C us []) r2 hq) fun r s' hq' => ?_))
  cases r with
  | error e => exact tk e s' (XE.of_call I2 (fun _ _ _ z => z) hq')
  | ok fl =>
    cases fl with
    | ret u =>
      obtain ⟨v, H', I3, rv, ev, q3⟩ := I2.after hq'
      subst ev
      exact ⟨rv, ⟨V.ref (s.heap.objs.size + 1), H', I3, rfl, q3⟩⟩
    | next => exact False.elim hq'
    | brk => exact False.elim hq'
    | cont => exact False.elim hq'
theorem pe_makeW {X : Cx} {k : Nat} {f C : Addr} {sp : Sp} {W : WX} {x : Str} {e : Expr} {es : List Expr} {t : TA} {p pos : Pos} (M : Mk X.K C f) (F : FnR X.prog X.w X.K X.mg X.base (CX X.prog X.w) k f sp) (hr : Room (k + 1) X.A) (hg : Gl X x) (hm : X.mg x = some (.ref C)) (tk : Takes X W) (ha : PA X (e :: es) t) (hdb : (x == ("__debug__" : Str)) = false := by decide)
    (he : starEach (e :: es) X.env = (false, eval e X.env) :: starEach es X.env := by rfl) (hpl : (backTo pos (starEach es X.env)).any (·.1) = false := by rfl) : PE X (.Call (.Name x p) (e :: es) [] pos) (tMakeW C sp W t) := by
  refine ⟨fun pins s σ H Q I h => ?_⟩
  refine wpAny_Call_Name_kw (ld_glob I hg hm ?_ hdb)
  refine PySem.W.callWith_K (h₀ := X.base) I.ok.mod.kin M.kp (thn (ha.run pos pins s σ H _ I h) fun us s1 ⟨vs, H1, I1, r, q⟩ => ⟨I1.kIn, ?_⟩) he hpl
  exact run_makeW M F hr tk I1 r q
/-! ### methods over slots -/
/-- a receiver that is kept -/
def xMethV (C m : Str) (n : Nat) (S : FS) (fx : FX) (fa : FA) : FX := fun env q w => xD fx env w fun d env1 => ∃ fs, d = .obj C fs ∧ (fs.find? fun kv => decide (kv.1 = m)) = none ∧ fa env1 (fun as env2 => ndA as = true ∧ ∃ ss, slots env2 as = some ss ∧ ss.length + 1 = n ∧ S (.fz d :: ss) (fun r ss' => q r (back env2 (.v d :: as) ss')) (fun c fs ss' => w c fs (back env2 (.v d :: as) ss'))) w
/-- a receiver that is owned, in slot i -/
def xMethB (C m : Str) (n : Nat) (S : FS) (i : Nat) (fa : FA) : FX := fun env q w => ∃ a dx fs, env[i]? = some (some (.ow (.obj a dx C fs))) ∧ (fs.find? fun kv => decide (kv.1 = m)) = none ∧ fa env (fun as env2 => ndA (.b i :: as) = true ∧ ∃ ss, slots env2 (.b i :: as) = some ss ∧ ss.length = n ∧ S ss (fun r ss' => q r (back env2 (.b i :: as) ss')) (fun c fs ss' => w c fs (back env2 (.b i :: as) ss'))) w
theorem rpFs_none {K : PySem.W.Frag} {H : Hp} {f : Str} : ∀ {vs : List (Str × V)} {ds : List (Str × D)}, RpFs K H vs ds → (ds.find? fun kv => decide (kv.1 = f)) = none → vs.lookup f = none
  | _, _, .nil, _ => rfl
  | (k', v) :: vs, (_, d') :: ds, .cons a t, h => by
    rw [lookup_find]
    rw [List.find?_cons] at h ⊢
    by_cases hk : k' = f
    · subst hk
      simp at h
    · simp only [hk, decide_false] at h ⊢
      have z := rpFs_none (f := f) t h
      rw [lookup_find] at z
      exact z
theorem owFs_none {K : PySem.W.Frag} {F : Hp} {f : Str} : ∀ {vs : List (Str × V)} {ds : List (Str × N)} {S : Cells}, OwFs K F vs ds S → (ds.find? fun kv => decide (kv.1 = f)) = none → vs.lookup f = none
  | _, _, _, .nil, _ => rfl
  | (k', v) :: vs, (_, d') :: ds, _, .cons a t, h => by
    rw [lookup_find]
    rw [List.find?_cons] at h ⊢
    by_cases hk : k' = f
    · subst hk
      simp at h
    · simp only [hk, decide_false] at h ⊢
      have z := owFs_none (f := f) t h
      rw [lookup_find] at z
      exact z
section
variable {X : Cx} {K : PySem.W.Frag} {W : WX} {fx : FX} {fa : FA} {C m : Str} {n i : Nat} {S : FS} {call : Expr}
theorem px_methV (h : PE X call (tMethW (He.ga K C) m (spP K n S) W (LX K W fx) (LAX K W fa))) : PX X K W call (xMethV C m n S fx fa) := fun hK => pe_imp h fun σ H Q ⟨env, F, M, M0, q, w, rp, o, hx, k, kw⟩ =>
  lx_d rp o hx kw fun d env1 v F1 M1 H1 ⟨fs, hd, hnm, hfa⟩ s1 r1 rp1 o1 => by
    subst hd
    have r1' := r1
    cases r1 with
    | obj ho rf =>
      refine ⟨_, _, _, rfl, o1.fr _ _ ho, rpFs_none rf hnm, ?_⟩
      refine ⟨env1, F1, M1, M0, _, w, rp1, o1, hfa, fun as env2 vs F2 M2 H2 ⟨nd, ss, hss, hn, hS⟩ s2 ar rp2 o2 => ?_, kw.up s1⟩
      exact call_core (as := .v (.obj C fs) :: as) (ss := .fz (.obj C fs) :: ss) (w' := w) (q := q) k (s1.trans s2) (.v (r1'.mono s2) ar) rp2 o2 nd (by show (slots env2 as).map _ = _; rw [hss]; rfl) hn hS fun c fs env' cls d F' M' H' a b c' d' e' => kw c fs env' cls d σ F' M' H' a b c' d' e'
theorem px_methB (h : PE X call (tMethW (He.ga K C) m (spP K n S) W (tVar i) (LAX K W fa))) : PX X K W call (xMethB C m n S i fa) := fun hK => pe_imp h fun σ H Q ⟨env, F, M, M0, q, w, rp, o, ⟨a, dx, fs, hs, hnm, hfa⟩, k, kw⟩ => by
  obtain ⟨v, A, S0, B, hv, sl, rfl, _⟩ := rp.at hs
  cases sl with
  | obj sl =>
    refine ⟨_, hv, _, _, _, rfl, o.mu _ (List.mem_append_left _ (List.mem_append_right _ (List.mem_append_left _ List.mem_cons_self))), owFs_none sl hnm, ?_⟩
    refine ⟨env, F, _, M0, _, w, rp, o, hfa, fun as env2 vs F2 M2 H2 ⟨nd, ss, hss, hn, hS⟩ s2 ar rp2 o2 => ?_, kw⟩
    exact call_core (as := .b i :: as) (w' := w) (q := q) k s2 (.b hv ar) rp2 o2 nd hss hn hS fun c fs env' cls d F' M' H' a b c' d' e' => kw c fs env' cls d σ F' M' H' a b c' d' e'
/-! ### new objects -/
def xMake (C : Str) (n : Nat) (S : FS) (fa : FA) : FX := fun env q w => fa env (fun as env1 => ndA as = true ∧ ∃ ss, slots env1 as = some ss ∧ ss.length + 1 = n ∧ ∀ a dx, S (.ow (.obj a dx C []) :: ss) (fun r ss' => ∃ n' ss2, r = .fz .non ∧ ss' = .ow n' :: ss2 ∧ n'.ad = some a ∧ q (.ow n') (back env1 as ss2)) (fun c fs ss' => ∃ s0 ss2, ss' = s0 :: ss2 ∧ w c fs (back env1 as ss2))) w
theorem px_make (h : PE X call (tMakeW (He.ga K C) (spP K n S) W (LAX K W fa))) : PX X K W call (xMake C n S fa) := fun hK => pe_imp h fun σ H Q ⟨env, F, M, M0, q, w, rp, o, hx, k, kw⟩ =>
  ⟨env, F, M, M0, _, w, rp, o, hx, fun as env1 vs F1 M1 H1 ⟨nd, ss, hss, hn, hS⟩ s1 ar rp1 o1 x dx nx ndx ne => by
    obtain ⟨Ms, R, h1, h2, h3⟩ := call_split ar rp1 hss nd
    have ox : Own F1 ((x, .ins (He.ga K C) dx []) :: (M1 ++ M0)) (upd (upd H1 dx (.own x)) x (.ins (He.ga K C) dx [])) := by
      refine Own.newM (o1.lose ndx) ?_
      rw [upd_ne (Ne.symm ne)]
      exact nx
    have o2 : Own F1 (((x, .ins (He.ga K C) dx []) :: Ms) ++ (R ++ M0)) (upd (upd H1 dx (.own x)) x (.ins (He.ga K C) dx [])) := by
      refine ox.perm ?_
      exact perm_by fun c => (by have := by_perm h2 c; simp only [List.count_append, List.count_cons, List.cons_append] at this ⊢; omega)
    refine ⟨.ow (.obj x dx C []) :: ss, F1, _, R ++ M0, _, _, hn, SlAll.cons (S := [(x, .ins (He.ga K C) dx [])]) (Ow.obj .nil) h1, o2, hS x dx, fun r ss' v S' F' Ms' H' ⟨n', ss2, hr, hss', had, hq⟩ s' sr sa o' => ?_, fun c fs ss' cls d F' Ms' H' ⟨s0, ss2, hss', hw⟩ s' xr sa o' => ?_⟩
    · subst hr hss'
      obtain ⟨rfl, sr⟩ := sr
      cases sr
      cases sa with
      | cons a1 a2 =>
        rename_i S1 Ms2
        have hv := Ow.ad a1 had
        obtain ⟨M2, T, p2, r2⟩ := h3 F' ss2 _ s' a2
        refine ⟨rfl, k _ _ (.ref x) S1 F' M2 H' hq (s1.trans s') a1 r2 ?_⟩
        have pp : ([] ++ ((S1 ++ Ms2) ++ (R ++ M0))).Perm (T ++ (S1 ++ (M2 ++ M0))) := perm_by fun c => (by have := by_perm p2 c; simp only [List.count_append, List.nil_append] at this ⊢; omega)
        exact (o'.perm pp).sub (List.sublist_append_right T _)
    · subst hss'
      cases sa with
      | cons a1 a2 =>
        rename_i S1 Ms2
        obtain ⟨M2, T, p2, r2⟩ := h3 F' ss2 _ s' a2
        refine kw c fs _ cls d σ F' M2 H' hw (s1.trans s') xr r2 ?_
        have pp : ((S1 ++ Ms2) ++ (R ++ M0)).Perm ((S1 ++ T) ++ (M2 ++ M0)) := perm_by fun c => (by have := by_perm p2 c; simp only [List.count_append] at this ⊢; omega)
        exact (o'.perm pp).sub (List.sublist_append_right _ _), kw⟩
end
/-- a promise of a def that raises nothing serves where it might -/
theorem FnR.x0 {P : Program} {w : World} {K : PySem.W.Frag} {mg : Str → Option Value} {base : Heap} {k : Nat} {f : Addr} {n : Nat} {S : FS} (h : FnR P w K mg base CX0 k f (spP K n S)) : True := trivial
end Pu

/-! ## Pu: == and != of dicts of data -/
namespace Pu
open PySem PySem.Spec PyProof.Rows L2 Ed
inductive HitsD (K : PySem.W.Frag) (H : Hp) (ls : List (Key × V)) : List (Key × V) → Bool → Prop
  | nil : HitsD K H ls [] true
  | miss {k : Key} {v : V} {r : List (Key × V)} : valV ls k = none → HitsD K H ls ((k, v) :: r) false
  | hit {k : Key} {v u : V} {r : List (Key × V)} {p q : PyData} {b : Bool} : valV ls k = some u → Dp K H v p → Dp K H u q → SeqAt.shaped p = true → SeqAt.shaped q = true → HitsD K H ls r b → HitsD K H ls ((k, v) :: r) (PyData.eqv p q && b)
theorem hits_keq {X : Cx} {pins : List (Addr × Obj)} {σ : L2.St} {H : Hp} {s : Shared} (I : Inv X pins σ H s) {A : Around} (hu : A.in1.units + 64 < cLine) {ls : List (Key × V)} {vb : List (Key × Value)} (rb : KV ls vb) {ks : List (Key × V)} {va : List (Key × Value)}
    (ra : KV ks va) : ∀ {b : Bool}, HitsD X.K H ls ks b → PySem.W.KeqHits A.in1 s vb va b := by
  unfold KV at ra
  induction ra with
  | nil =>
    intro b h
    cases h
    exact .nil
  | @cons p q ps qs h t k =>
    intro b hb
    obtain ⟨h1, h2⟩ := h
    obtain ⟨key, v⟩ := q
    have h1' : p.1 = key := h1
    obtain ⟨pk, pv⟩ := p
    cases hb with
    | miss hm =>
      refine .miss ?_
      have rr : RelO none (valueAt vb pk) := by rw [← hm]; exact rb.val pk
      have h1'' : pk = key := h1'
      rw [h1''] at rr
      cases e : valueAt vb key with
      | none => rfl
      | some y =>
        rw [e] at rr
        cases rr
    | hit hm d1 d2 s1 s2 hr =>
      rename_i u p1 q1 b1
      have rr : RelO (some u) (valueAt vb pk) := by rw [← hm]; exact rb.val pk
      obtain ⟨y, hy, ry⟩ := rr.some_of
      have h1'' : pk = key := h1'
      rw [h1''] at hy
      obtain ⟨as, r1⟩ := Dp.reads I _ _ _ d1 h2
      obtain ⟨bs, r2⟩ := Dp.reads I _ _ _ d2 ry
      exact .hit hy (PySem.W.keq_at r1 r2 s1 s2 hu) (k hr)
def rEqDD (K : PySem.W.Frag) : R2 := fun x y H Q => ∃ a b ks ls r, x = .ref a ∧ y = .ref b ∧ H a = some (.dK ks) ∧ H b = some (.dK ls) ∧ HitsD K H ls ks r ∧ Q (.bl (ks.length == ls.length && r)) H
def rNeDD (K : PySem.W.Frag) : R2 := fun x y H Q => ∃ a b ks ls r, x = .ref a ∧ y = .ref b ∧ H a = some (.dK ks) ∧ H b = some (.dK ls) ∧ HitsD K H ls ks r ∧ Q (.bl (!(ks.length == ls.length && r))) H
section
variable {X : Cx}
theorem op_eqDD (hu : X.A.units + 66 < cLine) : OpR X (compareOp .Eq) (rEqDD X.K) := by
  intro pins s σ H x y v u Q I rx ry h
  obtain ⟨a, b, ks, ls, r, rfl, rfl, ea, eb, hh, q⟩ := h
  obtain rfl : v = Value.ref a := rx
  obtain rfl : u = Value.ref b := ry
  obtain ⟨_, ya, va, ra, da⟩ := (show ObjOk X.prog X.w H s.heap a (.dK ks) from I.hok a _ ea)
  obtain ⟨_, yb, vb, rb, db⟩ := (show ObjOk X.prog X.w H s.heap b (.dK ls) from I.hok b _ eb)
  refine PySem.W.keq_eq (knd := mixKind X.prog X.w) ya yb da db (by omega) (fun _ => hits_keq I (by show X.A.units + 1 + 64 < _; omega) rb ra hh) ?_
  rw [← ra.length, ← rb.length]
  exact ⟨.bl _, H, I, rfl, q⟩
theorem op_neDD (hu : X.A.units + 66 < cLine) : OpR X (compareOp .NotEq) (rNeDD X.K) := by
  intro pins s σ H x y v u Q I rx ry h
  obtain ⟨a, b, ks, ls, r, rfl, rfl, ea, eb, hh, q⟩ := h
  obtain rfl : v = Value.ref a := rx
  obtain rfl : u = Value.ref b := ry
  obtain ⟨_, ya, va, ra, da⟩ := (show ObjOk X.prog X.w H s.heap a (.dK ks) from I.hok a _ ea)
  obtain ⟨_, yb, vb, rb, db⟩ := (show ObjOk X.prog X.w H s.heap b (.dK ls) from I.hok b _ eb)
  refine PySem.W.keq_ne (knd := mixKind X.prog X.w) ya yb da db (by omega) (fun _ => hits_keq I (by show X.A.units + 1 + 64 < _; omega) rb ra hh) ?_
  rw [← ra.length, ← rb.length]
  exact ⟨.bl _, H, I, rfl, q⟩
end
def hitsB (ls : List (Key × D)) : List (Key × D) → Option Bool
  | [] => some true
  | (k, d) :: r => match dfind ls k with
    | none => some false
    | some e => match toP d, toP e, hitsB ls r with
      | some p, some q, some b => if SeqAt.shaped p = true ∧ SeqAt.shaped q = true then some (PyData.eqv p q && b) else none
      | _, _, _ => none
def eqdB : D → D → Option Bool
  | .dic ks, .dic ls => (hitsB ls ks).map fun r => ks.length == ls.length && r
  | _, _ => none
def eqdD : D → D → Option D := fun x y => (eqdB x y).map D.bl
def nedD : D → D → Option D := fun x y => (eqdB x y).map fun b => .bl (!b)
theorem rpDic_len {K : PySem.W.Frag} {H : Hp} : ∀ {vs : List (Key × V)} {ds : List (Key × D)}, RpDic K H vs ds → vs.length = ds.length
  | _, _, .nil => rfl
  | _, _, .cons _ t => by rw [List.length_cons, List.length_cons, rpDic_len t]
theorem hitsB_inv {K : PySem.W.Frag} {H : Hp} {vl : List (Key × V)} {ls : List (Key × D)} (rl : RpDic K H vl ls) : ∀ {vk : List (Key × V)} {ks : List (Key × D)} {b : Bool}, RpDic K H vk ks → hitsB ls ks = some b → HitsD K H vl vk b
  | _, _, _, .nil, h => by
    cases h
    exact .nil
  | _, (k, d) :: ks, b, .cons a t, h => by
    unfold hitsB at h
    rcases rpDic_find (k := k) rl with ⟨e1, e2⟩ | ⟨v, d', e1, e2, rv⟩
    · rw [e2] at h
      cases h
      exact .miss e1
    · rw [e2] at h
      dsimp only at h
      split at h
      · rename_i p q b' q1 q2 q3
        split at h
        · rename_i c
          cases h
          exact .hit e1 (rp_dp a q1) (rp_dp rv q2) c.1 c.2 (hitsB_inv rl t q3)
        · cases h
      · cases h
theorem eqdB_inv {K : PySem.W.Frag} {H : Hp} {v1 v2 : V} {d1 d2 : D} {b : Bool} (r1 : Rp K H v1 d1) (r2 : Rp K H v2 d2) (h : eqdB d1 d2 = some b) : ∃ a c ks ls r, v1 = .ref a ∧ v2 = .ref c ∧ H a = some (.dK ks) ∧ H c = some (.dK ls) ∧ HitsD K H ls ks r ∧ b = (ks.length == ls.length && r) := by
  unfold eqdB at h
  split at h
  · rename_i ks ls
    cases r1 with
    | dic h1 a1 =>
      cases r2 with
      | dic h2 a2 =>
        cases q : hitsB ls ks with
        | none =>
          rw [q] at h
          cases h
        | some r =>
          rw [q] at h
          cases h
          exact ⟨_, _, _, _, r, rfl, rfl, h1, h2, hitsB_inv a2 a1 q, by rw [rpDic_len a1, rpDic_len a2]⟩
  · cases h
theorem s2_eqd {K : PySem.W.Frag} : S2 K (rEqDD K) (fOp eqdD) := s2_flat fun H v1 v2 d1 d2 d Q r1 r2 e => by
  unfold eqdD at e
  cases q : eqdB d1 d2 with
  | none =>
    rw [q] at e
    cases e
  | some b =>
    rw [q] at e
    cases e
    refine ⟨rfl, fun k => ?_⟩
    obtain ⟨a, c, ks, ls, r, h1, h2, h3, h4, h5, rfl⟩ := eqdB_inv r1 r2 q
    exact ⟨a, c, ks, ls, r, h1, h2, h3, h4, h5, k⟩
theorem s2_ned {K : PySem.W.Frag} : S2 K (rNeDD K) (fOp nedD) := s2_flat fun H v1 v2 d1 d2 d Q r1 r2 e => by
  unfold nedD at e
  cases q : eqdB d1 d2 with
  | none =>
    rw [q] at e
    cases e
  | some b =>
    rw [q] at e
    cases e
    refine ⟨rfl, fun k => ?_⟩
    obtain ⟨a, c, ks, ls, r, h1, h2, h3, h4, h5, rfl⟩ := eqdB_inv r1 r2 q
    exact ⟨a, c, ks, ls, r, h1, h2, h3, h4, h5, k⟩
section
variable {X : Cx} {K : PySem.W.Frag} {a b : Expr} {ga gb : G} {pos : Pos} {W : WX} {fa fb : FX}
theorem pd_eqd (hu : X.A.units + 66 < cLine) (ha : PD X K a ga) (hb : PD X K b gb) : PD X K (.Compare a [.Eq] [b] pos) (gOp (fOp eqdD) ga gb) := fun hK => by
  subst hK
  exact pd_cmp (op_eqDD hu) s2_eqd ha hb (nobehind _ (by decide) (by decide)) rfl
theorem pd_ned (hu : X.A.units + 66 < cLine) (ha : PD X K a ga) (hb : PD X K b gb) : PD X K (.Compare a [.NotEq] [b] pos) (gOp (fOp nedD) ga gb) := fun hK => by
  subst hK
  exact pd_cmp (op_neDD hu) s2_ned ha hb (nobehind _ (by decide) (by decide)) rfl
theorem pb_eqd (hu : X.A.units + 66 < cLine) (ha : PD X K a ga) (hb : PD X K b gb) : PB X K (.Compare a [.Eq] [b] pos) (bV (gOp (fOp eqdD) ga gb)) := fun hK => by
  subst hK
  exact pb_cmp (op_eqDD hu) s2_eqd ha hb (nobehind _ (by decide) (by decide)) rfl
theorem pb_ned (hu : X.A.units + 66 < cLine) (ha : PD X K a ga) (hb : PD X K b gb) : PB X K (.Compare a [.NotEq] [b] pos) (bV (gOp (fOp nedD) ga gb)) := fun hK => by
  subst hK
  exact pb_cmp (op_neDD hu) s2_ned ha hb (nobehind _ (by decide) (by decide)) rfl
theorem px_eqd (hu : X.A.units + 66 < cLine) (ha : PX X K W a fa) (hb : PX X K W b fb) : PX X K W (.Compare a [.Eq] [b] pos) (xOp (fOp eqdD) fa fb) := fun hK => by
  subst hK
  exact px_cmp (op_eqDD hu) s2_eqd ha hb (nobehind _ (by decide) (by decide)) rfl
theorem px_ned (hu : X.A.units + 66 < cLine) (ha : PX X K W a fa) (hb : PX X K W b fb) : PX X K W (.Compare a [.NotEq] [b] pos) (xOp (fOp nedD) fa fb) := fun hK => by
  subst hK
  exact px_cmp (op_neDD hu) s2_ned ha hb (nobehind _ (by decide) (by decide)) rfl
theorem pxt_eqd (hu : X.A.units + 66 < cLine) (ha : PX X K W a fa) (hb : PX X K W b fb) : PXT X K W (.Compare a [.Eq] [b] pos) (tXb (xOp (fOp eqdD) fa fb)) := fun hK => by
  subst hK
  exact pxt_op (op_eqDD hu) s2_eqd ha hb (nobehind _ (by decide) (by decide)) rfl
theorem pxt_ned (hu : X.A.units + 66 < cLine) (ha : PX X K W a fa) (hb : PX X K W b fb) : PXT X K W (.Compare a [.NotEq] [b] pos) (tXb (xOp (fOp nedD) fa fb)) := fun hK => by
  subst hK
  exact pxt_op (op_neDD hu) s2_ned ha hb (nobehind _ (by decide) (by decide)) rfl
end
theorem spP_no {K : PySem.W.Frag} {n : Nat} {C : FS} {vs : List V} {H : Hp} {Q : VK} {E : XK} (h : ∀ ss q w, C ss q w → False) : ¬ spP K n C vs H Q E := fun ⟨ss, _, _, _, q, w, _, _, _, hC, _⟩ => h ss q w hC
end Pu

/-! ## the orders of classes, plainly -/
namespace Ed
open PySem PySem.Spec PyProof.Rows L2
abbrev Names := List Str
/-- each name once, in the order of their first standing -/
def distF (acc : Names) : Names → Names
  | [] => acc
  | x :: r => distF (if x ∈ acc then acc else acc ++ [x]) r
def dist (xs : Names) : Names := distF [] xs
def barredBy (rows : List Names) (h : Str) : Bool := rows.any fun o => decide (h ∈ o.drop 1)
def ffh (rows all : List Names) : Option Str := match rows with
  | [] => none
  | [] :: r => ffh r all
  | (h :: _) :: r => if barredBy all h = true then ffh r all else some h
def full (rows : List Names) : List Names := rows.filter fun r => !r.isEmpty
def takeH (t : Str) (r : Names) : Names := match r with
  | [] => []
  | h :: q => if h = t then q else h :: q
def stepR (rows : List Names) (t : Str) : List Names := full (rows.map (takeH t))
def heads (rows : List Names) : Names := rows.filterMap List.head?
def tot (rows : List Names) : Nat := (rows.map List.length).sum
/-- the merge: the heads of the rows that are left, or the order -/
def mergeN : Nat → List Names → Except Names Names
  | 0, _ => .ok []
  | n + 1, rows => if rows = [] then .ok [] else match ffh rows rows with
    | none => .error (dist (heads rows))
    | some t => match mergeN n (stepR rows t) with
      | .ok l => .ok (t :: l)
      | .error e => .error e
def merge (rows : List Names) : Except Names Names := mergeN (tot rows + 1) (full rows)
theorem tot_full (rows : List Names) : tot (full rows) = tot rows := by
  induction rows with
  | nil => rfl
  | cons r q ih =>
    unfold full tot at *
    cases r with
    | nil =>
      rw [List.filter_cons_of_neg (by simp), ih, List.map_cons, List.sum_cons]
      simp
    | cons a b =>
      rw [List.filter_cons_of_pos (by simp), List.map_cons, List.sum_cons, ih, List.map_cons, List.sum_cons]
theorem takeH_le (t : Str) (r : Names) : (takeH t r).length ≤ r.length := by
  cases r with
  | nil => exact Nat.le_refl _
  | cons h q =>
    show (if h = t then q else h :: q).length ≤ (h :: q).length
    by_cases e : h = t
    · rw [if_pos e]
      exact Nat.le_succ _
    · rw [if_neg e]
      exact Nat.le_refl _
theorem tot_take (t : Str) (rows : List Names) : tot (rows.map (takeH t)) ≤ tot rows := by
  induction rows with
  | nil => exact Nat.le_refl _
  | cons r q ih =>
    unfold tot at *
    rw [List.map_cons, List.map_cons, List.sum_cons, List.map_cons, List.sum_cons]
    have := takeH_le t r
    omega
theorem ffh_mem {rows all : List Names} {t : Str} (h : ffh rows all = some t) : ∃ q, (t :: q) ∈ rows ∧ barredBy all t = false := by
  induction rows with
  | nil => cases h
  | cons r rows ih =>
    cases r with
    | nil =>
      obtain ⟨q, h1, h2⟩ := ih h
      exact ⟨q, List.mem_cons_of_mem _ h1, h2⟩
    | cons a b =>
      unfold ffh at h
      split at h
      · obtain ⟨q, h1, h2⟩ := ih h
        exact ⟨q, List.mem_cons_of_mem _ h1, h2⟩
      · rename_i hb
        cases h
        exact ⟨b, List.mem_cons_self, by simpa using hb⟩
theorem tot_step {rows : List Names} {t : Str} {q : Names} (h : (t :: q) ∈ rows) : tot (stepR rows t) < tot rows := by
  unfold stepR
  rw [tot_full]
  induction rows with
  | nil => cases h
  | cons r rows ih =>
    unfold tot at *
    rw [List.map_cons, List.map_cons, List.sum_cons, List.map_cons, List.sum_cons]
    rcases List.mem_cons.mp h with h | h
    · have h1 : takeH t r = q := by
        rw [← h]
        show (if t = t then q else t :: q) = q
        rw [if_pos rfl]
      have h2 := tot_take t rows
      unfold tot at h2
      rw [h1, ← h, List.length_cons]
      omega
    · have := ih h
      have := takeH_le t r
      omega
/-- enough turns -/
theorem mergeN_more : ∀ (n m : Nat) (rows : List Names), tot rows < n → tot rows < m → mergeN n rows = mergeN m rows
  | 0, _, _, h, _ => absurd h (Nat.not_lt_zero _)
  | _, 0, _, _, h => absurd h (Nat.not_lt_zero _)
  | n + 1, m + 1, rows, h1, h2 => by
    unfold mergeN
    split
    · rfl
    · cases e : ffh rows rows with
      | none => rfl
      | some t =>
        obtain ⟨q, hq, _⟩ := ffh_mem e
        have hlt := tot_step hq
        dsimp only
        rw [mergeN_more n m (stepR rows t) (by omega) (by omega)]
/-! ### data of names -/
def dS (r : Names) : PyData := .list (r.map .str)
theorem dpAll_str {K : PySem.W.Frag} {F : Hp} : ∀ {r : Names} {vs : List V}, DpAll K F vs (r.map PyData.str) → vs = r.map V.str
  | [], _, h => dpAll_nil_inv h
  | x :: r, _, h => by
    obtain ⟨v, ws, rfl, h1, h2⟩ := dpAll_cons_inv h
    rw [dp_str_inv h1, dpAll_str h2]
    rfl
theorem dp_names {K : PySem.W.Frag} {F : Hp} {v : V} {r : Names} (h : Dp K F v (dS r)) : ∃ l, v = .ref l ∧ SqL K F l (r.map V.str) := by
  obtain ⟨l, xs, rfl, hq, ha⟩ := dp_list_inv h
  rw [dpAll_str ha] at hq
  exact ⟨l, rfl, hq⟩
theorem names_dp {K : PySem.W.Frag} {F : Hp} {l : Addr} {r : Names} (h : SqL K F l (r.map V.str)) : Dp K F (.ref l) (dS r) := .lst h (dpAll_strs r)
theorem inV_str (x : Str) (r : Names) : inV (.str x) (r.map V.str) = decide (x ∈ r) := by
  unfold inV
  induction r with
  | nil => rfl
  | cons y r ih =>
    rw [List.map_cons, List.any_cons, ih]
    by_cases e : y = x
    · subst e
      simp [eqV]
    · have e2 : eqV (.str y) (.str x) = false := by
        simp [eqV, e]
      rw [e2, Bool.false_or, decide_eq_decide]
      constructor
      · exact List.mem_cons_of_mem _
      · intro h
        rcases List.mem_cons.mp h with h | h
        · exact absurd h.symm e
        · exact h
theorem flat_strs (r : Names) : (r.map V.str).all flatV = true := by
  rw [List.all_eq_true]
  intro z hz
  obtain ⟨q, _, rfl⟩ := List.mem_map.mp hz
  rfl
/-- x in a list of names -/
theorem r_inS {K : PySem.W.Frag} {H : Hp} {Q : VK} {l : Addr} {r : Names} {x : Str} {neg : Bool} (h : SqL K H l (r.map V.str)) (q : Q (.bl (if neg then !decide (x ∈ r) else decide (x ∈ r))) H) : rIn K neg (.str x) (.ref l) H Q :=
  ⟨l, _, rfl, .inl h, rfl, flat_strs r, by rw [inV_str]; exact q⟩
/-- a while loop: Pv m, m going down -/
def WhN (tb : TS) (D : Ends) (Pv : Nat → L2.St → Hp → Prop) (m : Nat) (σ : L2.St) (b : Bool) (H1 : Hp) : Prop := if b = true then ∃ N : L2.St → Hp → Prop, (∀ σ' H', N σ' H' → ∃ m', m' < m ∧ Pv m' σ' H') ∧ tb { D with nx := N, ct := N, bk := D.nx } σ H1 else D.nx σ H1
theorem whT {tb : TS} {D : Ends} {Pv : Nat → L2.St → Hp → Prop} {m : Nat} {σ : L2.St} {b : Bool} {H1 : Hp} (hb : b = true) (h : tb { D with nx := fun σ' H' => ∃ m', m' < m ∧ Pv m' σ' H', ct := fun σ' H' => ∃ m', m' < m ∧ Pv m' σ' H', bk := D.nx } σ H1) : WhN tb D Pv m σ b H1 := by
  subst hb
  exact ⟨_, fun _ _ z => z, h⟩
theorem whF {tb : TS} {D : Ends} {Pv : Nat → L2.St → Hp → Prop} {m : Nat} {σ : L2.St} {b : Bool} {H1 : Hp} (hb : b = false) (h : D.nx σ H1) : WhN tb D Pv m σ b H1 := by
  subst hb
  exact h
theorem whileb {tc : TT} {tb : TS} {D : Ends} {σ : L2.St} {H : Hp} (Pv : Nat → L2.St → Hp → Prop) {m0 : Nat} (h0 : Pv m0 σ H) (hs : ∀ m σ H, Pv m σ H → tc σ H (WhN tb D Pv m σ)) : tWhile tc tb D σ H := ⟨Pv, ⟨m0, h0⟩, hs⟩
end Ed

namespace Ed
open PySem PySem.Spec PyProof.Rows L2
def linAll (f : Str → Except Names Names) : Names → Except Names (List Names)
  | [] => .ok []
  | x :: r => match f x with
    | .error e => .error e
    | .ok l => match linAll f r with
      | .error e => .error e
      | .ok ls => .ok (l :: ls)
/-- the order of a class: n turns deep -/
def lin (B : Str → Names) : Nat → Str → Except Names Names
  | 0, _ => .ok []
  | n + 1, x => match linAll (lin B n) (B x) with
    | .error e => .error e
    | .ok ls => match merge (ls ++ [B x]) with
      | .error e => .error e
      | .ok m => .ok (x :: m)
structure Dag (B : Str → Names) (ρ : Str → Nat) (dom : Names) : Prop where
  sub : ∀ x ∈ dom, ∀ y ∈ B x, y ∈ dom ∧ ρ y < ρ x
def linR (B : Str → Names) (ρ : Str → Nat) (x : Str) : Except Names Names := lin B (ρ x + 1) x
theorem linAll_congr {f g : Str → Except Names Names} : ∀ {xs : Names}, (∀ x ∈ xs, f x = g x) → linAll f xs = linAll g xs
  | [], _ => rfl
  | x :: r, h => by
    unfold linAll
    rw [h x List.mem_cons_self, linAll_congr fun y hy => h y (List.mem_cons_of_mem _ hy)]
theorem lin_more {B : Str → Names} {ρ : Str → Nat} {dom : Names} (D : Dag B ρ dom) : ∀ (n m : Nat) (x : Str), x ∈ dom → ρ x < n → ρ x < m → lin B n x = lin B m x
  | 0, _, _, _, h, _ => absurd h (Nat.not_lt_zero _)
  | _, 0, _, _, _, h => absurd h (Nat.not_lt_zero _)
  | n + 1, m + 1, x, hx, h1, h2 => by
    unfold lin
    rw [linAll_congr fun y hy => lin_more D n m y (D.sub x hx y hy).1 (by have := (D.sub x hx y hy).2; omega) (by have := (D.sub x hx y hy).2; omega)]
theorem linR_eq {B : Str → Names} {ρ : Str → Nat} {dom : Names} (D : Dag B ρ dom) {x : Str} (hx : x ∈ dom) : linR B ρ x = (match linAll (linR B ρ) (B x) with
    | .error e => .error e
    | .ok ls => match merge (ls ++ [B x]) with
      | .error e => .error e
      | .ok m => .ok (x :: m)) := by
  unfold linR
  rw [lin]
  rw [linAll_congr fun y hy => lin_more D (ρ x) (ρ y + 1) y (D.sub x hx y hy).1 (D.sub x hx y hy).2 (Nat.lt_succ_self _)]
/-- the first wrong one -/
theorem linAll_err {f : Str → Except Names Names} {e : Names} : ∀ {xs : Names} {i : Nat} {y : Str}, xs[i]? = some y → (∀ z ∈ xs.take i, ∃ l, f z = .ok l) → f y = .error e → linAll f xs = .error e
  | [], _, _, h, _, _ => by cases h
  | x :: r, 0, y, h, _, he => by
    cases h
    unfold linAll
    rw [he]
  | x :: r, i + 1, y, h, hp, he => by
    obtain ⟨l, hl⟩ := hp x List.mem_cons_self
    unfold linAll
    rw [hl]
    dsimp only
    rw [linAll_err (xs := r) (i := i) h (fun z hz => hp z (List.mem_cons_of_mem _ hz)) he]
theorem linAll_ok {f : Str → Except Names Names} {g : Str → Names} : ∀ {xs : Names}, (∀ z ∈ xs, f z = .ok (g z)) → linAll f xs = .ok (xs.map g)
  | [], _ => rfl
  | x :: r, h => by
    unfold linAll
    rw [h x List.mem_cons_self]
    dsimp only
    rw [linAll_ok (xs := r) fun z hz => h z (List.mem_cons_of_mem _ hz)]
    rfl
theorem linAll_inv {f : Str → Except Names Names} : ∀ {xs : Names} {ls : List Names}, linAll f xs = .ok ls → ls.length = xs.length ∧ ∀ l ∈ ls, ∃ x ∈ xs, f x = .ok l
  | [], ls, h => by
    cases h
    exact ⟨rfl, fun _ z => by cases z⟩
  | x :: r, ls, h => by
    unfold linAll at h
    cases e : f x with
    | error e1 =>
      rw [e] at h
      cases h
    | ok l =>
      rw [e] at h
      dsimp only at h
      cases e2 : linAll f r with
      | error e1 =>
        rw [e2] at h
        cases h
      | ok ls' =>
        rw [e2] at h
        cases h
        obtain ⟨h1, h2⟩ := linAll_inv (xs := r) e2
        refine ⟨congrArg Nat.succ h1, fun q hq => ?_⟩
        rcases List.mem_cons.mp hq with rfl | hq
        · exact ⟨x, List.mem_cons_self, e⟩
        · obtain ⟨y, hy, z⟩ := h2 q hq
          exact ⟨y, List.mem_cons_of_mem _ hy, z⟩
/-! a merged order has each name once, and only names of the rows -/
theorem mem_takeH {t y : Str} {r : Names} (h : y ∈ takeH t r) : y ∈ r := by
  cases r with
  | nil => cases h
  | cons a q =>
    have h : y ∈ (if a = t then q else a :: q) := h
    split at h
    · exact List.mem_cons_of_mem _ h
    · exact h
theorem mem_step {rows : List Names} {t y : Str} {r : Names} (hr : r ∈ stepR rows t) (hy : y ∈ r) : ∃ r' ∈ rows, y ∈ r' := by
  have h := (List.mem_filter.mp hr).1
  obtain ⟨r', h1, rfl⟩ := List.mem_map.mp h
  exact ⟨r', h1, mem_takeH hy⟩
theorem step_gone {rows : List Names} {t : Str} (hb : barredBy rows t = false) {r : Names} (hr : r ∈ stepR rows t) : t ∉ r := by
  have h := (List.mem_filter.mp hr).1
  obtain ⟨r', h1, rfl⟩ := List.mem_map.mp h
  have hd : ¬ t ∈ r'.drop 1 := fun z => by
    unfold barredBy at hb
    rw [List.any_eq_false] at hb
    exact hb r' h1 (decide_eq_true z)
  cases r' with
  | nil => exact fun z => by cases z
  | cons a q =>
    show t ∉ (if a = t then q else a :: q)
    split
    · exact hd
    · rename_i hne
      intro z
      rcases List.mem_cons.mp z with z | z
      · exact hne z.symm
      · exact hd z
theorem mergeN_mem : ∀ {n : Nat} {rows : List Names} {l : Names}, mergeN n rows = .ok l → l.Nodup ∧ ∀ y ∈ l, ∃ r ∈ rows, y ∈ r
  | 0, rows, l, h => by
    cases h
    exact ⟨List.nodup_nil, fun _ z => by cases z⟩
  | n + 1, rows, l, h => by
    unfold mergeN at h
    split at h
    · cases h
      exact ⟨List.nodup_nil, fun _ z => by cases z⟩
    · cases e : ffh rows rows with
      | none =>
        rw [e] at h
        cases h
      | some t =>
        rw [e] at h
        dsimp only at h
        cases e2 : mergeN n (stepR rows t) with
        | error x =>
          rw [e2] at h
          cases h
        | ok l' =>
          rw [e2] at h
          cases h
          obtain ⟨q, hq, hb⟩ := ffh_mem e
          obtain ⟨h1, h2⟩ := mergeN_mem e2
          refine ⟨List.nodup_cons.mpr ⟨fun z => ?_, h1⟩, fun y hy => ?_⟩
          · obtain ⟨r, hr, z⟩ := h2 t z
            exact step_gone hb hr z
          · rcases List.mem_cons.mp hy with rfl | hy
            · exact ⟨_, hq, List.mem_cons_self⟩
            · obtain ⟨r, hr, z⟩ := h2 y hy
              exact mem_step hr z
theorem merge_mem {rows : List Names} {l : Names} (h : merge rows = .ok l) : l.Nodup ∧ ∀ y ∈ l, ∃ r ∈ rows, y ∈ r := by
  obtain ⟨h1, h2⟩ := mergeN_mem h
  refine ⟨h1, fun y hy => ?_⟩
  obtain ⟨r, hr, z⟩ := h2 y hy
  exact ⟨r, (List.mem_filter.mp hr).1, z⟩
theorem nodup_le {α : Type} [DecidableEq α] : ∀ {l m : List α}, l.Nodup → (∀ x ∈ l, x ∈ m) → l.length ≤ m.length
  | [], _, _, _ => Nat.zero_le _
  | a :: r, m, nd, h => by
    have nd := List.nodup_cons.mp nd
    have hm := h a List.mem_cons_self
    have e := List.length_erase_of_mem hm
    have h2 : r.length ≤ (m.erase a).length := nodup_le nd.2 fun x hx => (List.mem_erase_of_ne (fun z : x = a => nd.1 (by rw [← z]; exact hx))).mpr (h x (List.mem_cons_of_mem _ hx))
    have : 0 < m.length := List.length_pos_of_mem hm
    rw [List.length_cons]
    omega
theorem linR_mem {B : Str → Names} {ρ : Str → Nat} {dom : Names} (D : Dag B ρ dom) : ∀ (n : Nat) {x : Str} {l : Names}, x ∈ dom → ρ x < n → linR B ρ x = .ok l → l.Nodup ∧ ∀ y ∈ l, y ∈ dom ∧ ρ y ≤ ρ x
  | 0, _, _, _, h, _ => absurd h (Nat.not_lt_zero _)
  | n + 1, x, l, hx, hn, h => by
    rw [linR_eq D hx] at h
    cases e : linAll (linR B ρ) (B x) with
    | error z =>
      rw [e] at h
      cases h
    | ok ls =>
      rw [e] at h
      dsimp only at h
      cases e2 : merge (ls ++ [B x]) with
      | error z =>
        rw [e2] at h
        cases h
      | ok m =>
        rw [e2] at h
        cases h
        obtain ⟨h1, h2⟩ := merge_mem e2
        have key : ∀ y ∈ m, y ∈ dom ∧ ρ y < ρ x := fun y hy => by
          obtain ⟨r, hr, z⟩ := h2 y hy
          rcases List.mem_append.mp hr with hr | hr
          · obtain ⟨b, hb, hl⟩ := (linAll_inv e).2 r hr
            obtain ⟨hbd, hbr⟩ := D.sub x hx b hb
            obtain ⟨_, h4⟩ := linR_mem D n hbd (by omega) hl
            obtain ⟨h5, h6⟩ := h4 y z
            exact ⟨h5, by omega⟩
          · rw [List.mem_singleton.mp hr] at z
            exact D.sub x hx y z
        refine ⟨List.nodup_cons.mpr ⟨fun z => ?_, h1⟩, fun y hy => ?_⟩
        · have := (key x z).2
          omega
        · rcases List.mem_cons.mp hy with rfl | hy
          · exact ⟨hx, Nat.le_refl _⟩
          · obtain ⟨h3, h4⟩ := key y hy
            exact ⟨h3, by omega⟩
theorem linR_len {B : Str → Names} {ρ : Str → Nat} {dom : Names} (D : Dag B ρ dom) {x : Str} {l : Names} (hx : x ∈ dom) (h : linR B ρ x = .ok l) : l.length ≤ dom.length := by
  obtain ⟨h1, h2⟩ := linR_mem D (ρ x + 1) hx (Nat.lt_succ_self _) h
  exact nodup_le h1 fun y hy => (h2 y hy).1
end Ed

/-! ## orders by other names -/
namespace Ed
open PySem PySem.Spec PyProof.Rows L2
def mapE (f : Str → Str) : Except Names Names → Except Names Names
  | .ok l => .ok (l.map f)
  | .error e => .error (e.map f)
/-- f tells the names of dom apart -/
def InjOn (f : Str → Str) (dom : Names) : Prop := ∀ x ∈ dom, ∀ y ∈ dom, f x = f y → x = y
def InRows (dom : Names) (rows : List Names) : Prop := ∀ r ∈ rows, ∀ x ∈ r, x ∈ dom
section
variable {f : Str → Str} {dom : Names}
theorem mem_mapI (hf : InjOn f dom) {x : Str} {r : Names} (hx : x ∈ dom) (hr : ∀ y ∈ r, y ∈ dom) : f x ∈ r.map f ↔ x ∈ r := by
  constructor
  · intro h
    obtain ⟨y, hy, e⟩ := List.mem_map.mp h
    rw [← hf y (hr y hy) x hx e]
    exact hy
  · exact fun h => List.mem_map.mpr ⟨x, h, rfl⟩
theorem barred_map (hf : InjOn f dom) {x : Str} (hx : x ∈ dom) : ∀ {rows : List Names}, InRows dom rows → barredBy (rows.map (List.map f)) (f x) = barredBy rows x
  | [], _ => rfl
  | r :: q, h => by
    have ih := barred_map hf hx (rows := q) fun r hr => h r (List.mem_cons_of_mem _ hr)
    unfold barredBy at *
    rw [List.map_cons, List.any_cons, List.any_cons, ih]
    congr 1
    rw [← List.map_drop, decide_eq_decide]
    exact mem_mapI hf hx fun y hy => h r List.mem_cons_self y (List.mem_of_mem_drop hy)
theorem ffh_map (hf : InjOn f dom) {all : List Names} (ha : InRows dom all) : ∀ {rows : List Names}, InRows dom rows → ffh (rows.map (List.map f)) (all.map (List.map f)) = (ffh rows all).map f
  | [], _ => rfl
  | [] :: q, h => ffh_map hf ha (rows := q) fun r hr => h r (List.mem_cons_of_mem _ hr)
  | (a :: b) :: q, h => by
    have ih := ffh_map hf ha (rows := q) fun r hr => h r (List.mem_cons_of_mem _ hr)
    have hb := barred_map hf (h (a :: b) List.mem_cons_self a List.mem_cons_self) ha
    show (if barredBy (all.map (List.map f)) (f a) = true then ffh (q.map (List.map f)) (all.map (List.map f)) else some (f a)) = (if barredBy all a = true then ffh q all else some a).map f
    rw [hb, ih]
    split <;> rfl
theorem takeH_map (hf : InjOn f dom) {t : Str} (ht : t ∈ dom) {r : Names} (hr : ∀ x ∈ r, x ∈ dom) : takeH (f t) (r.map f) = (takeH t r).map f := by
  cases r with
  | nil => rfl
  | cons a b =>
    show (if f a = f t then b.map f else f a :: b.map f) = (if a = t then b else a :: b).map f
    by_cases e : a = t
    · rw [if_pos e, if_pos (congrArg f e)]
    · rw [if_neg e, if_neg fun z => e (hf a (hr a List.mem_cons_self) t ht z)]
      rfl
theorem full_map : ∀ (rows : List Names), full (rows.map (List.map f)) = (full rows).map (List.map f)
  | [] => rfl
  | [] :: q => full_map q
  | (a :: b) :: q => by
    show (f a :: b.map f) :: full (q.map (List.map f)) = ((a :: b) :: full q).map (List.map f)
    rw [full_map q]
    rfl
theorem step_map (hf : InjOn f dom) {t : Str} (ht : t ∈ dom) {rows : List Names} (h : InRows dom rows) : stepR (rows.map (List.map f)) (f t) = (stepR rows t).map (List.map f) := by
  unfold stepR
  rw [← full_map, List.map_map, List.map_map]
  congr 1
  apply List.map_congr_left
  intro r hr
  exact takeH_map hf ht (h r hr)
theorem heads_map : ∀ (rows : List Names), heads (rows.map (List.map f)) = (heads rows).map f
  | [] => rfl
  | [] :: q => heads_map q
  | (a :: b) :: q => congrArg _ (heads_map q)
theorem distF_map (hf : InjOn f dom) : ∀ {xs acc : Names}, (∀ x ∈ xs, x ∈ dom) → (∀ x ∈ acc, x ∈ dom) → distF (acc.map f) (xs.map f) = (distF acc xs).map f
  | [], _, _, _ => rfl
  | x :: r, acc, h, ha => by
    have hx := h x List.mem_cons_self
    have e : (if f x ∈ acc.map f then acc.map f else acc.map f ++ [f x]) = (if x ∈ acc then acc else acc ++ [x]).map f := by
      by_cases hm : x ∈ acc
      · rw [if_pos hm, if_pos ((mem_mapI hf hx ha).mpr hm)]
      · rw [if_neg hm, if_neg fun z => hm ((mem_mapI hf hx ha).mp z), List.map_append]
        rfl
    show distF (if f x ∈ acc.map f then acc.map f else acc.map f ++ [f x]) (r.map f) = (distF (if x ∈ acc then acc else acc ++ [x]) r).map f
    rw [e]
    refine distF_map hf (fun y hy => h y (List.mem_cons_of_mem _ hy)) fun y hy => ?_
    split at hy
    · exact ha y hy
    · rcases List.mem_append.mp hy with hy | hy
      · exact ha y hy
      · rw [List.mem_singleton.mp hy]
        exact hx
theorem heads_in {rows : List Names} (h : InRows dom rows) : ∀ x ∈ heads rows, x ∈ dom := fun x hx => by
  obtain ⟨r, hr, e⟩ := List.mem_filterMap.mp hx
  cases r with
  | nil => cases e
  | cons a b =>
    cases e
    exact h _ hr _ List.mem_cons_self
theorem step_in {rows : List Names} {t : Str} (h : InRows dom rows) : InRows dom (stepR rows t) := fun r hr x hx => by
  obtain ⟨r', h1, h2⟩ := mem_step hr hx
  exact h r' h1 x h2
theorem tot_map (rows : List Names) : tot (rows.map (List.map f)) = tot rows := by
  unfold tot
  rw [List.map_map]
  congr 1
  apply List.map_congr_left
  intro r _
  exact List.length_map _
theorem mergeN_map (hf : InjOn f dom) : ∀ (n : Nat) {rows : List Names}, InRows dom rows → mergeN n (rows.map (List.map f)) = mapE f (mergeN n rows)
  | 0, _, _ => rfl
  | n + 1, rows, h => by
    unfold mergeN
    by_cases e : rows = []
    · subst e
      rfl
    · rw [if_neg e, if_neg fun z => e (List.map_eq_nil_iff.mp z), ffh_map hf h h]
      cases e2 : ffh rows rows with
      | none =>
        show Except.error (dist (heads (rows.map (List.map f)))) = Except.error ((dist (heads rows)).map f)
        rw [heads_map]
        congr 1
        exact distF_map (acc := []) hf (heads_in h) fun x z => by cases z
      | some t =>
        obtain ⟨q, hq, _⟩ := ffh_mem e2
        have ht := h _ hq _ List.mem_cons_self
        show (match mergeN n (stepR (rows.map (List.map f)) (f t)) with
          | .ok l => Except.ok (f t :: l)
          | .error e => .error e) = mapE f (match mergeN n (stepR rows t) with
          | .ok l => Except.ok (t :: l)
          | .error e => .error e)
        rw [step_map hf ht h, mergeN_map hf n (step_in h)]
        cases mergeN n (stepR rows t) <;> rfl
theorem merge_map (hf : InjOn f dom) {rows : List Names} (h : InRows dom rows) : merge (rows.map (List.map f)) = mapE f (merge rows) := by
  unfold merge
  rw [tot_map, full_map]
  exact mergeN_map hf _ fun r hr => h r (List.mem_filter.mp hr).1
/-! errors name names of the rows -/
theorem distF_in : ∀ {xs acc : Names}, (∀ x ∈ xs, x ∈ dom) → (∀ x ∈ acc, x ∈ dom) → ∀ x ∈ distF acc xs, x ∈ dom
  | [], _, _, ha, x, hx => ha x hx
  | y :: r, acc, h, ha, x, hx => by
    refine distF_in (xs := r) (fun z hz => h z (List.mem_cons_of_mem _ hz)) (fun z hz => ?_) x hx
    split at hz
    · exact ha z hz
    · rcases List.mem_append.mp hz with hz | hz
      · exact ha z hz
      · rw [List.mem_singleton.mp hz]
        exact h y List.mem_cons_self
theorem mergeN_err : ∀ {n : Nat} {rows : List Names} {e : Names}, InRows dom rows → mergeN n rows = .error e → ∀ x ∈ e, x ∈ dom
  | 0, _, _, _, h => by cases h
  | n + 1, rows, e, hi, h => by
    unfold mergeN at h
    split at h
    · cases h
    · cases e1 : ffh rows rows with
      | none =>
        rw [e1] at h
        cases h
        exact distF_in (heads_in hi) fun x z => by cases z
      | some t =>
        rw [e1] at h
        dsimp only at h
        cases e2 : mergeN n (stepR rows t) with
        | ok l =>
          rw [e2] at h
          cases h
        | error e' =>
          rw [e2] at h
          cases h
          exact mergeN_err (step_in hi) e2
theorem merge_err {rows : List Names} {e : Names} (hi : InRows dom rows) (h : merge rows = .error e) : ∀ x ∈ e, x ∈ dom := mergeN_err (fun r hr => hi r (List.mem_filter.mp hr).1) h
theorem linAll_errI {g : Str → Except Names Names} {e : Names} : ∀ {xs : Names}, linAll g xs = .error e → ∃ x ∈ xs, g x = .error e
  | [], h => by cases h
  | x :: r, h => by
    unfold linAll at h
    cases e1 : g x with
    | error z =>
      rw [e1] at h
      cases h
      exact ⟨x, List.mem_cons_self, e1⟩
    | ok l =>
      rw [e1] at h
      dsimp only at h
      cases e2 : linAll g r with
      | ok ls =>
        rw [e2] at h
        cases h
      | error z =>
        rw [e2] at h
        cases h
        obtain ⟨y, hy, q⟩ := linAll_errI e2
        exact ⟨y, List.mem_cons_of_mem _ hy, q⟩
end
section
variable {B : Str → Names} {ρ : Str → Nat} {dom : Names}
theorem rows_in (D : Dag B ρ dom) {x : Str} (hx : x ∈ dom) {ls : List Names} (h : linAll (linR B ρ) (B x) = .ok ls) : InRows dom (ls ++ [B x]) := fun r hr y hy => by
  rcases List.mem_append.mp hr with hr | hr
  · obtain ⟨b, hb, hl⟩ := (linAll_inv h).2 r hr
    exact ((linR_mem D (ρ b + 1) (D.sub x hx b hb).1 (Nat.lt_succ_self _) hl).2 y hy).1
  · rw [List.mem_singleton.mp hr] at hy
    exact (D.sub x hx y hy).1
theorem linR_err (D : Dag B ρ dom) : ∀ (n : Nat) {x : Str} {e : Names}, x ∈ dom → ρ x < n → linR B ρ x = .error e → ∀ y ∈ e, y ∈ dom
  | 0, _, _, _, h, _ => absurd h (Nat.not_lt_zero _)
  | n + 1, x, e, hx, hn, h => by
    rw [linR_eq D hx] at h
    cases e1 : linAll (linR B ρ) (B x) with
    | error z =>
      rw [e1] at h
      cases h
      obtain ⟨b, hb, q⟩ := linAll_errI e1
      exact linR_err D n (D.sub x hx b hb).1 (by have := (D.sub x hx b hb).2; omega) q
    | ok ls =>
      rw [e1] at h
      dsimp only at h
      cases e2 : merge (ls ++ [B x]) with
      | ok m =>
        rw [e2] at h
        cases h
      | error z =>
        rw [e2] at h
        cases h
        exact merge_err (rows_in D hx e1) e2
/-- what is told names names of dom -/
theorem told_in (D : Dag B ρ dom) {x : Str} (hx : x ∈ dom) : (∀ l, linR B ρ x = .ok l → ∀ y ∈ l, y ∈ dom) ∧ ∀ e, linR B ρ x = .error e → ∀ y ∈ e, y ∈ dom :=
  ⟨fun l h y hy => ((linR_mem D (ρ x + 1) hx (Nat.lt_succ_self _) h).2 y hy).1, fun e h => linR_err D (ρ x + 1) hx (Nat.lt_succ_self _) h⟩
theorem linAll_map {g g' : Str → Except Names Names} {f : Str → Str} : ∀ {xs : Names}, (∀ x ∈ xs, g' (f x) = mapE f (g x)) → linAll g' (xs.map f) = (match linAll g xs with
    | .ok ls => .ok (ls.map (List.map f))
    | .error e => .error (e.map f))
  | [], _ => rfl
  | x :: r, h => by
    have ih := linAll_map (xs := r) fun y hy => h y (List.mem_cons_of_mem _ hy)
    rw [List.map_cons]
    unfold linAll
    rw [h x List.mem_cons_self, ih]
    cases g x with
    | error e => rfl
    | ok l =>
      show (match (match linAll g r with
          | .ok ls => Except.ok (ls.map (List.map f))
          | .error e => .error (e.map f)) with
        | .error e => Except.error e
        | .ok ls => .ok (l.map f :: ls)) = _
      cases linAll g r <;> rfl
/-- a class by another name -/
theorem linR_map {B' : Str → Names} {ρ' : Str → Nat} {dom' : Names} {f : Str → Str} (D : Dag B ρ dom) (D' : Dag B' ρ' dom') (hf : InjOn f dom) (hd : ∀ x ∈ dom, f x ∈ dom' ∧ B' (f x) = (B x).map f) : ∀ (n : Nat) {x : Str}, x ∈ dom → ρ x < n → linR B' ρ' (f x) = mapE f (linR B ρ x)
  | 0, _, _, h => absurd h (Nat.not_lt_zero _)
  | n + 1, x, hx, hn => by
    rw [linR_eq D hx, linR_eq D' (hd x hx).1, (hd x hx).2]
    rw [linAll_map (g := linR B ρ) fun y hy => linR_map D D' hf hd n (D.sub x hx y hy).1 (by have := (D.sub x hx y hy).2; omega)]
    cases e1 : linAll (linR B ρ) (B x) with
    | error z => rfl
    | ok ls =>
      dsimp only
      have e2 : ls.map (List.map f) ++ [(B x).map f] = (ls ++ [B x]).map (List.map f) := by rw [List.map_append]; rfl
      rw [e2, merge_map hf (rows_in D hx e1)]
      cases merge (ls ++ [B x]) <;> rfl
end
end Ed

/-! heads that are told: each once -/
namespace Ed
open PySem PySem.Spec PyProof.Rows L2
theorem distF_nd : ∀ {xs acc : Names}, acc.Nodup → (distF acc xs).Nodup
  | [], acc, h => h
  | x :: r, acc, h => by
    unfold distF
    split
    · exact distF_nd h
    · rename_i hx
      refine distF_nd (List.nodup_append.mpr ⟨h, List.nodup_cons.mpr ⟨fun z => (by cases z), List.nodup_nil⟩, ?_⟩)
      intro a ha b hb e
      rw [List.mem_singleton.mp hb] at e
      exact hx (e ▸ ha)
theorem mergeN_nd : ∀ {n : Nat} {rows : List Names} {e : Names}, mergeN n rows = .error e → e.Nodup
  | 0, _, _, h => by cases h
  | n + 1, rows, e, h => by
    unfold mergeN at h
    split at h
    · cases h
    · split at h
      · cases h
        exact distF_nd List.nodup_nil
      · split at h
        · cases h
        · rename_i z hz
          cases h
          exact mergeN_nd hz
theorem linR_nd {B : Str → Names} {ρ : Str → Nat} {dom : Names} (D : Dag B ρ dom) : ∀ (n : Nat) {x : Str} {e : Names}, x ∈ dom → ρ x < n → linR B ρ x = .error e → e.Nodup
  | 0, _, _, _, h, _ => absurd h (Nat.not_lt_zero _)
  | n + 1, x, e, hx, hn, h => by
    rw [linR_eq D hx] at h
    cases q : linAll (linR B ρ) (B x) with
    | error z =>
      rw [q] at h
      cases h
      obtain ⟨y, hy, h2⟩ := linAll_errI q
      have := D.sub x hx y hy
      exact linR_nd D n this.1 (by omega) h2
    | ok ls =>
      rw [q] at h
      dsimp only at h
      split at h
      · rename_i z hz
        cases h
        exact mergeN_nd hz
      · cases h
theorem told_len {B : Str → Names} {ρ : Str → Nat} {dom : Names} (D : Dag B ρ dom) {x : Str} (hx : x ∈ dom) : (∀ l, linR B ρ x = .ok l → l.length ≤ dom.length) ∧ ∀ e, linR B ρ x = .error e → e.length ≤ dom.length :=
  ⟨fun l h => linR_len D hx h, fun e h => nodup_le (linR_nd D (ρ x + 1) hx (Nat.lt_succ_self _) h) ((told_in D hx).2 e h)⟩
def resV (r : Except Names Names) : Bool × Names := match r with
  | .ok l => (true, l)
  | .error e => (false, e)
end Ed

/-! ## Pu: names as data -/
namespace Pu
open PySem PySem.Spec PyProof.Rows L2 Ed
theorem units66 {k : Nat} {A : Around} (r : Room k A) : A.units + 66 < cLine := by have := r.un; omega
/-- names as data -/
def dN (l : Names) : D := .lst (l.map D.str)
/-- a dict as a table of bases -/
structure TabD (kvs : List (Key × D)) (B : Str → Names) (dom : Names) : Prop where
  ex : ∀ x ∈ dom, dfind kvs (.inr x) = some (dN (B x))
  sm : dom.length ≤ 30
  few : ∀ x ∈ dom, (B x).length ≤ 10
abbrev RW := Str × Names
def numS (c : Str) (i : Nat) : Str := c ++ Str.ofString (toString (i : Int))
theorem num_inj : ∀ i : Fin 20, ∀ j : Fin 20, Str.ofString (toString ((i : Nat) : Int)) = Str.ofString (toString ((j : Nat) : Int)) → i = j := by decide +kernel
theorem app_inj {c d u v : Str} (hl : c.length = d.length) (h : c ++ u = d ++ v) : u = v := by
  have e : c.cps.toList ++ u.cps.toList = d.cps.toList ++ v.cps.toList := by
    rw [← Array.toList_append, ← Array.toList_append]
    exact congrArg (fun z : Str => z.cps.toList) h
  have hl' : c.cps.toList.length = d.cps.toList.length := hl
  have e2 := List.append_inj_right e hl'
  cases u
  cases v
  congr 1
  exact Array.toList_inj.mp e2
theorem numS_inj {c d : Str} {i j : Nat} (hc : c.length = d.length) (hi : i < 20) (hj : j < 20) (h : numS c i = numS d j) : i = j := by
  have e := num_inj ⟨i, hi⟩ ⟨j, hj⟩ (app_inj hc h)
  exact congrArg Fin.val e
theorem num_ok : ∀ i : Fin 20, PyData.strOk (Str.ofString (toString ((i : Nat) : Int))) = true := by decide +kernel
theorem num_len : ∀ i : Fin 20, (Str.ofString (toString ((i : Nat) : Int))).length ≤ 2 := by decide +kernel
def namesOf (rs : List RW) : Names := rs.map Prod.fst
def basesOf (rs : List RW) (x : Str) : Names := match rs.find? (fun r => decide (r.1 = x)) with
  | some r => r.2
  | none => []
def rankOf (rs : List RW) (x : Str) : Nat := rs.findIdx (fun r => decide (r.1 = x))
theorem log_small {i : Nat} (h : i < 20) : ((0 : Int) + (i : Int)).natAbs.log2 < 1920 := by
  rw [Int.zero_add, Int.natAbs_natCast]
  by_cases hz : i = 0
  · rw [hz]
    decide
  · exact (Nat.log2_lt hz).mpr (Nat.lt_of_lt_of_le (show i < 2 ^ 5 by omega) (by decide))
theorem erase_perm {α : Type} : ∀ {l : List α} {i : Nat} (h : i < l.length), (l[i] :: l.eraseIdx i).Perm l
  | a :: r, 0, _ => .refl _
  | a :: r, i + 1, h => by
    have hi : i < r.length := Nat.lt_of_succ_lt_succ h
    exact (List.Perm.swap a r[i] (r.eraseIdx i)).trans ((erase_perm hi).cons a)
theorem putD_new {kvs : List (Key × D)} {k : Key} {d : D} (h : ∀ kv ∈ kvs, kv.1 ≠ k) : putD kvs k d = kvs ++ [(k, d)] := by
  unfold putD
  rw [if_neg]
  intro z
  obtain ⟨kv, h1, h2⟩ := List.any_eq_true.mp z
  exact h kv h1 (of_decide_eq_true h2)
def dRw (r : RW) : D := .tup [.str r.1, dN r.2]
theorem neD_nil {l : Names} (h : ∀ x ∈ l, PyData.strOk x = true) : neD (dN l) (.lst []) = some (.bl (!l.isEmpty)) := by
  unfold neD
  rw [eqB_deep (p := .list (l.map .str)) (q := .list []) (by unfold dN toP; rw [toPs_str]; rfl) rfl ((shp_strs h).shaped) (by rfl) rfl]
  cases l <;> rfl
theorem dfind_put {kvs : List (Key × D)} {k j : Key} {d : D} : dfind (putD kvs j d) k = if k = j then some d else dfind kvs k := by
  have rep : ∀ (l : List (Key × D)), dfind (l.map fun kv => if kv.1 = j then (kv.1, d) else kv) k = if k = j then (if (l.any fun kv => decide (kv.1 = j)) = true then some d else none) else dfind l k := by
    intro l
    induction l with
    | nil => by_cases e : k = j <;> simp [dfind, e]
    | cons p r ih =>
      unfold dfind at ih ⊢
      rw [List.map_cons, List.find?_cons, List.find?_cons, List.any_cons]
      by_cases h1 : p.1 = j
      · rw [if_pos h1]
        by_cases h2 : k = j
        · subst h2
          simp [h1]
        · have : p.1 ≠ k := fun z => h2 (z.symm.trans h1)
          simp only [this, decide_false]
          rw [if_neg h2] at ih ⊢
          exact ih
      · rw [if_neg h1]
        by_cases h2 : p.1 = k
        · have h3 : ¬ k = j := fun z => h1 (h2.trans z)
          simp [h2, h3]
        · simp only [h2, decide_false, h1, Bool.false_or]
          exact ih
  have app : ∀ (l : List (Key × D)), dfind (l ++ [(j, d)]) k = (dfind l k).or (if j = k then some d else none) := by
    intro l
    unfold dfind
    rw [List.find?_append]
    cases l.find? (fun kv => decide (kv.1 = k)) with
    | some p => rfl
    | none =>
      rw [Option.none_or, Option.map_none, Option.none_or, List.find?_cons]
      by_cases e : j = k <;> simp [e]
  unfold putD
  split
  · rename_i h
    rw [rep, if_pos h]
  · rename_i h
    rw [app]
    by_cases e : k = j
    · subst e
      have hn : dfind kvs k = none := by
        unfold dfind
        rw [List.find?_eq_none.mpr fun kv hkv z => h (List.any_eq_true.mpr ⟨kv, hkv, z⟩)]
        rfl
      rw [hn]
      simp
    · rw [if_neg e, if_neg (Ne.symm e)]
      cases dfind kvs k <;> rfl
theorem merge_find {v : D} {k : Key} : ∀ {kvs acc : List (Key × D)}, ((∃ u, (k, u) ∈ kvs) ∨ dfind acc k = some v) → (∀ u, (k, u) ∈ kvs → u = v) → dfind (mergeD acc kvs) k = some v
  | [], acc, h, _ => by
    rcases h with ⟨u, h⟩ | h
    · cases h
    · exact h
  | (j, y) :: r, acc, h, hp => by
    show dfind (mergeD (putD acc j y) r) k = some v
    refine merge_find ?_ fun u hu => hp u (List.mem_cons_of_mem _ hu)
    by_cases e : k = j
    · refine .inr ?_
      rw [dfind_put, if_pos e, hp y (by rw [e]; exact List.mem_cons_self)]
    · rcases h with ⟨u, h⟩ | h
      · rcases List.mem_cons.mp h with h | h
        · cases h
          exact absurd rfl e
        · exact .inl ⟨u, h⟩
      · refine .inr ?_
        rw [dfind_put, if_neg e]
        exact h
def kvR (r : RW) : Key × D := (.inr r.1, dN r.2)
theorem prs_rows : ∀ (rs : List RW), prs (rs.map dRw) = some (rs.map kvR)
  | [] => rfl
  | r :: rs => by
    show (match keyD (.str r.1), prs (rs.map dRw) with
      | some k, some q => some ((k, dN r.2) :: q)
      | _, _ => none) = _
    rw [prs_rows rs]
    rfl
theorem lf_dict {n : N} {rs : List RW} (h : kidsL n = some (rs.map dRw)) : gdict [n] = some (.f (.dic (mergeD [] (rs.map kvR)))) := by
  unfold gdict
  dsimp only
  rw [h]
  dsimp only
  rw [prs_rows]
  rfl
theorem tab_rows {rs : List RW} {B : Str → Names} {dom : Names} (hd : ∀ x ∈ dom, ∃ r ∈ rs, r.1 = x) (hB : ∀ r ∈ rs, r.1 ∈ dom → B r.1 = r.2) (sm : dom.length ≤ 30) (few : ∀ x ∈ dom, (B x).length ≤ 10) : TabD (mergeD [] (rs.map kvR)) B dom := by
  refine ⟨fun x hx => ?_, sm, few⟩
  obtain ⟨r, hr, rfl⟩ := hd x hx
  refine merge_find (.inl ⟨dN r.2, List.mem_map.mpr ⟨r, hr, rfl⟩⟩) fun u hu => ?_
  obtain ⟨q, hq, e⟩ := List.mem_map.mp hu
  have e1 : q.1 = r.1 := Sum.inr.inj (congrArg Prod.fst e)
  have e2 : dN q.2 = u := congrArg Prod.snd e
  rw [← e2, ← e1, hB q hq (by rw [e1]; exact hx)]
theorem eqv_strs : ∀ l : Names, PyData.eqvAll (l.map .str) (l.map .str) = true
  | [] => rfl
  | x :: l => by
    rw [List.map_cons, PyData.eqvAll, eqv_strs l, PyData.eqv]
    simp
theorem neD_same {b : Bool} {l : Names} (h : ∀ x ∈ l, PyData.strOk x = true) : neD (.tup [.bl b, dN l]) (.tup [.bl b, dN l]) = some (.bl false) := by
  have t : toP (.tup [.bl b, dN l]) = some (.tuple [.bool b, .list (l.map .str)]) := by
    unfold dN
    simp only [toP, toPs, toPs_str, Option.map_some]
  have s : SeqAt.shaped (.tuple [.bool b, .list (l.map .str)]) = true := (shp_tuple (n := 1) fun d hd => by
    rcases List.mem_cons.mp hd with rfl | hd
    · exact shp_bool _ _
    · rw [List.mem_singleton.mp hd]
      exact shp_strs h).shaped
  unfold neD
  rw [eqB_deep t t s s rfl]
  have e : PyData.eqv (.tuple [.bool b, .list (l.map .str)]) (.tuple [.bool b, .list (l.map .str)]) = true := by
    rw [PyData.eqv, PyData.eqvAll, PyData.eqvAll, PyData.eqvAll, PyData.eqv, PyData.eqv, eqv_strs]
    simp
  rw [e]
  rfl
theorem giR_some {g : G} {env : Env} {n : Int} (h : g env = some (.f (.int n))) (h1 : n < 2 ^ 62) (h2 : -(2 ^ 62) ≤ n) : giR g env = some (rng 0 n.toNat) := by
  unfold giR
  rw [h]
  dsimp only
  rw [if_pos ⟨h1, h2⟩]
theorem nfind_f (x : Key) : ∀ (l : List (Key × D)), nfind (l.map fun kv : Key × D => (kv.1, N.f kv.2)) x = (dfind l x).map N.f := by
  intro l
  unfold nfind dfind
  rw [List.find?_map]
  rw [show ((fun kv : Key × N => decide (kv.1 = x)) ∘ fun kv : Key × D => (kv.1, N.f kv.2)) = fun kv : Key × D => decide (kv.1 = x) from rfl]
  cases l.find? (fun kv : Key × D => decide (kv.1 = x)) <;> rfl
theorem lf_dget {a : Addr} {kvs : List (Key × D)} {x : Str} {d : D} (h : dfind kvs (.inr x) = some d) : dgetD (od a kvs) (.f (.str x)) = some (.f d) := by
  show nfind (kvs.map fun kv : Key × D => (kv.1, N.f kv.2)) (.inr x) = _
  rw [nfind_f, h]
  rfl
theorem lf_dgetF {kvs : List (Key × D)} {x : Str} {d : D} (h : dfind kvs (.inr x) = some d) : dgetD (.f (.dic kvs)) (.f (.str x)) = some (.f d) := by
  show (dfind kvs (.inr x)).map N.f = _
  rw [h]
  rfl
theorem lf_dnin {a : Addr} {kvs : List (Key × D)} {x : Str} : fOp dninD (.f (.str x)) (od a kvs) = some (.f (.bl (!(dfind kvs (.inr x)).isSome))) := by
  unfold fOp
  rw [od_toD]
  rfl
theorem lf_din {a : Addr} {kvs : List (Key × D)} {x : Str} : fOp dinD (.f (.str x)) (od a kvs) = some (.f (.bl (dfind kvs (.inr x)).isSome)) := by
  unfold fOp
  rw [od_toD]
  rfl
theorem mem_cutL {α : Type} {xs : List α} {lo hi : Option Int} {x : α} (h : x ∈ cutL xs lo hi) : x ∈ xs := by
  unfold cutL at h
  exact List.mem_of_mem_drop (List.mem_of_mem_take h)
theorem ev_sl {ga : G} {gl gh : GO} {env : Env} {n : N} {l h : Option Int} {ds : List D} (h1 : ga env = some n) (h2 : gl env = some l) (h3 : gh env = some h) (hk : kidsL n = some ds) : gSl slL ga gl gh env = some (.f (.lst (cutL ds l h))) := by
  unfold gSl
  rw [h1, h2, h3]
  dsimp only
  unfold slL
  rw [hk]
  rfl
theorem ev_goS {g : G} {env : Env} {i : Int} (h : g env = some (.f (.int i))) : goS g env = some (some i) := by
  unfold goS
  rw [h]
theorem strI_some {i : Nat} (hi : i < 20) : fA1 strD [.f (.int (0 + (i : Int)))] = some (.f (.str (Str.ofString (toString (i : Int))))) := by
  rw [lf_strI (log_small hi), Int.zero_add]
theorem eqv_str (a b : Str) : PyData.eqv (.str a) (.str b) = decide (a = b) := by
  rw [PyData.eqv]
  by_cases h : a = b <;> simp [h]
theorem eqv_strs2 : ∀ l m : Names, PyData.eqvAll (l.map .str) (m.map .str) = decide (l = m)
  | [], [] => rfl
  | [], y :: m => by
    rw [List.map_nil, List.map_cons, PyData.eqvAll]
    simp
  | x :: l, [] => by
    rw [List.map_nil, List.map_cons, PyData.eqvAll]
    simp
  | x :: l, y :: m => by
    rw [List.map_cons, List.map_cons, PyData.eqvAll, eqv_strs2 l m, eqv_str]
    by_cases h1 : x = y <;> by_cases h2 : l = m <;> simp [h1, h2]
theorem toP_names (l : Names) : toP (dN l) = some (.list (l.map .str)) := by
  unfold dN toP
  rw [toPs_str]
  rfl
theorem eqB_names {l m : Names} (h : ∀ x ∈ l, PyData.strOk x = true) (h2 : ∀ x ∈ m, PyData.strOk x = true) : eqB (dN l) (dN m) = some (decide (l = m)) := by
  rw [eqB_deep (toP_names l) (toP_names m) ((shp_strs h).shaped) ((shp_strs h2).shaped) rfl, PyData.eqv, eqv_strs2]
theorem eqD_names {l m : Names} (h : ∀ x ∈ l, PyData.strOk x = true) (h2 : ∀ x ∈ m, PyData.strOk x = true) : eqD (dN l) (dN m) = some (.bl (decide (l = m))) := by
  unfold eqD
  rw [eqB_names h h2]
  rfl
theorem neD_names {l m : Names} (h : ∀ x ∈ l, PyData.strOk x = true) (h2 : ∀ x ∈ m, PyData.strOk x = true) : neD (dN l) (dN m) = some (.bl (!decide (l = m))) := by
  unfold neD
  rw [eqB_names h h2]
  rfl
theorem eqB_told {b c : Bool} {l m : Names} (h : ∀ x ∈ l, PyData.strOk x = true) (h2 : ∀ x ∈ m, PyData.strOk x = true) : eqB (.tup [.bl b, dN l]) (.tup [.bl c, dN m]) = some (decide (b = c ∧ l = m)) := by
  have t : ∀ (b : Bool) (l : Names), toP (.tup [.bl b, dN l]) = some (.tuple [.bool b, .list (l.map .str)]) := fun b l => by
    unfold dN
    simp only [toP, toPs, toPs_str, Option.map_some]
  have s : ∀ {b : Bool} {l : Names}, (∀ x ∈ l, PyData.strOk x = true) → SeqAt.shaped (.tuple [.bool b, .list (l.map .str)]) = true := fun h => (shp_tuple (n := 1) fun d hd => by
    rcases List.mem_cons.mp hd with rfl | hd
    · exact shp_bool _ _
    · rw [List.mem_singleton.mp hd]
      exact shp_strs h).shaped
  rw [eqB_deep (t b l) (t c m) (s h) (s h2) rfl, PyData.eqv, PyData.eqvAll, PyData.eqvAll, PyData.eqvAll, PyData.eqv, PyData.eqv, eqv_strs2]
  by_cases e1 : b = c <;> by_cases e2 : l = m <;> simp [e1, e2]
theorem eqD_told {b c : Bool} {l m : Names} (h : ∀ x ∈ l, PyData.strOk x = true) (h2 : ∀ x ∈ m, PyData.strOk x = true) : eqD (.tup [.bl b, dN l]) (.tup [.bl c, dN m]) = some (.bl (decide (b = c ∧ l = m))) := by
  unfold eqD
  rw [eqB_told h h2]
  rfl
theorem neD_told {b c : Bool} {l m : Names} (h : ∀ x ∈ l, PyData.strOk x = true) (h2 : ∀ x ∈ m, PyData.strOk x = true) : neD (.tup [.bl b, dN l]) (.tup [.bl c, dN m]) = some (.bl (!decide (b = c ∧ l = m))) := by
  unfold neD
  rw [eqB_told h h2]
  rfl
/-! ### rows -/
theorem nodup_ix {α : Type} : ∀ {l : List α} {i j : Nat}, l.Nodup → ∀ (hi : i < l.length) (hj : j < l.length), l[i] = l[j] → i = j
  | x :: l, 0, 0, _, _, _, _ => rfl
  | x :: l, 0, j + 1, h, _, hj, e => absurd (show x ∈ l from (show l[j]'(Nat.lt_of_succ_lt_succ hj) = x from e.symm) ▸ List.getElem_mem (Nat.lt_of_succ_lt_succ hj)) (List.nodup_cons.mp h).1
  | x :: l, i + 1, 0, h, hi, _, e => absurd (show x ∈ l from (show l[i]'(Nat.lt_of_succ_lt_succ hi) = x from e) ▸ List.getElem_mem (Nat.lt_of_succ_lt_succ hi)) (List.nodup_cons.mp h).1
  | x :: l, i + 1, j + 1, h, hi, hj, e => congrArg (· + 1) (nodup_ix (List.nodup_cons.mp h).2 (Nat.lt_of_succ_lt_succ hi) (Nat.lt_of_succ_lt_succ hj) e)
structure RowsOk (rs : List RW) : Prop where
  nd : (namesOf rs).Nodup
  sk : ∀ x ∈ namesOf rs, PyData.strOk x = true ∧ x.length ≤ 4
  ch : ∀ i r, rs[i]? = some r → r.2.length ≤ 5 ∧ ∀ y ∈ r.2, y ∈ (rs.take i).map Prod.fst
  ln : rs.length ≤ 16
theorem RowsOk.inj {rs : List RW} (h : RowsOk rs) {i j : Nat} {r q : RW} (hi : rs[i]? = some r) (hj : rs[j]? = some q) (e : r.1 = q.1) : i = j := by
  have h1 : (namesOf rs)[i]? = some r.1 := by unfold namesOf; rw [List.getElem?_map, hi]; rfl
  have h2 : (namesOf rs)[j]? = some q.1 := by unfold namesOf; rw [List.getElem?_map, hj]; rfl
  obtain ⟨l1, e1⟩ := List.getElem?_eq_some_iff.mp h1
  obtain ⟨l2, e2⟩ := List.getElem?_eq_some_iff.mp h2
  exact nodup_ix h.nd l1 l2 (e1.trans (e.trans e2.symm))
theorem RowsOk.bases {rs : List RW} (h : RowsOk rs) {r : RW} (hr : r ∈ rs) : basesOf rs r.1 = r.2 := by
  unfold basesOf
  cases e : rs.find? (fun q => decide (q.1 = r.1)) with
  | none =>
    have := List.find?_eq_none.mp e r hr
    simp at this
  | some q =>
    have e1 : q.1 = r.1 := by
      have z := List.find?_some e
      exact of_decide_eq_true z
    obtain ⟨i, hi⟩ := List.getElem?_of_mem hr
    obtain ⟨j, hj⟩ := List.getElem?_of_mem (List.mem_of_find?_eq_some e)
    have e2 := h.inj hj hi e1
    subst e2
    rw [hi] at hj
    cases hj
    rfl
theorem RowsOk.rank {rs : List RW} (h : RowsOk rs) {i : Nat} {r : RW} (hi : rs[i]? = some r) : rankOf rs r.1 = i := by
  unfold rankOf
  have hm := List.mem_of_getElem? hi
  have hlt : rs.findIdx (fun q => decide (q.1 = r.1)) < rs.length := List.findIdx_lt_length_of_exists ⟨r, hm, decide_eq_true rfl⟩
  have h1 : (rs[rs.findIdx (fun q => decide (q.1 = r.1))]).1 = r.1 := of_decide_eq_true (List.findIdx_getElem (w := hlt))
  exact h.inj (List.getElem?_eq_getElem hlt) hi h1
theorem RowsOk.dag {rs : List RW} (h : RowsOk rs) : Dag (basesOf rs) (rankOf rs) (namesOf rs) := ⟨fun x hx y hy => by
  obtain ⟨r, hr, rfl⟩ := List.mem_map.mp hx
  rw [h.bases hr] at hy
  obtain ⟨i, hi⟩ := List.getElem?_of_mem hr
  have hm := (h.ch i r hi).2 y hy
  obtain ⟨q, hq, rfl⟩ := List.mem_map.mp hm
  obtain ⟨j, hj⟩ := List.getElem?_of_mem hq
  have hji : j < i := by
    have := (List.getElem?_eq_some_iff.mp hj).1
    rw [List.length_take] at this
    omega
  rw [List.getElem?_take_of_lt hji] at hj
  refine ⟨List.mem_map.mpr ⟨q, List.mem_of_getElem? hj, rfl⟩, ?_⟩
  rw [h.rank hj, h.rank hi]
  exact hji⟩
theorem RowsOk.snoc {rs : List RW} (h : RowsOk rs) {x : Str} {ch : Names} (hx : x ∉ namesOf rs) (x1 : PyData.strOk x = true) (x2 : x.length ≤ 4) (hl : rs.length < 16) (h3 : ch.length ≤ 5) (hc : ∀ y ∈ ch, y ∈ namesOf rs) : RowsOk (rs ++ [(x, ch)]) := by
  have en : namesOf (rs ++ [(x, ch)]) = namesOf rs ++ [x] := by unfold namesOf; rw [List.map_append]; rfl
  refine ⟨?_, ?_, fun i r hi => ?_, by rw [List.length_append]; show _ + 1 ≤ _; omega⟩
  · rw [en]
    refine List.nodup_append.mpr ⟨h.nd, List.nodup_cons.mpr ⟨fun z => (by cases z), List.nodup_nil⟩, fun a ha b hb e => ?_⟩
    rw [List.mem_singleton.mp hb] at e
    exact hx (e ▸ ha)
  · rw [en]
    intro y hy
    rcases List.mem_append.mp hy with hy | hy
    · exact h.sk y hy
    · rw [List.mem_singleton.mp hy]
      exact ⟨x1, x2⟩
  · by_cases e : i < rs.length
    · rw [List.getElem?_append_left e] at hi
      rw [List.take_append_of_le_length (by omega)]
      exact h.ch i r hi
    · have e2 : i = rs.length := by
        have := (List.getElem?_eq_some_iff.mp hi).1
        rw [List.length_append] at this
        have : i < rs.length + 1 := this
        omega
      subst e2
      rw [List.getElem?_append_right (Nat.le_refl _), Nat.sub_self] at hi
      cases hi
      rw [List.take_append_of_le_length (Nat.le_refl _), List.take_length]
      exact ⟨h3, hc⟩
theorem RowsOk.nil : RowsOk [] := ⟨List.nodup_nil, fun _ z => (by cases z), fun _ _ z => (by cases z), Nat.zero_le _⟩
theorem RowsOk.small {rs : List RW} (ok : RowsOk rs) {x : Str} (hx : x ∈ namesOf rs) : rankOf rs x < 20 := by
  obtain ⟨r, hr, rfl⟩ := List.mem_map.mp hx
  obtain ⟨i, hi⟩ := List.getElem?_of_mem hr
  rw [ok.rank hi]
  have := (List.getElem?_eq_some_iff.mp hi).1
  have := ok.ln
  omega
/-- the table, whatever order the rows stand in -/
theorem RowsOk.tab {rs qs : List RW} (ok : RowsOk rs) (hp : ∀ r, r ∈ qs ↔ r ∈ rs) : TabD (mergeD [] (qs.map kvR)) (basesOf rs) (namesOf rs) := by
  refine tab_rows (fun x hx => ?_) (fun r hr _ => ok.bases ((hp r).mp hr)) ?_ fun x hx => ?_
  · obtain ⟨r, hr, rfl⟩ := List.mem_map.mp hx
    exact ⟨r, (hp r).mpr hr, rfl⟩
  · unfold namesOf
    rw [List.length_map]
    have := ok.ln
    omega
  · obtain ⟨r, hr, rfl⟩ := List.mem_map.mp hx
    obtain ⟨i, hi⟩ := List.getElem?_of_mem hr
    rw [ok.bases hr]
    have := (ok.ch i r hi).1
    omega
theorem res_in {B : Str → Names} {ρ : Str → Nat} {dom : Names} (dag : Dag B ρ dom) {x : Str} (hx : x ∈ dom) : ∀ y ∈ (resV (linR B ρ x)).2, y ∈ dom := by
  cases e : linR B ρ x with
  | ok l => exact (told_in dag hx).1 l e
  | error l => exact (told_in dag hx).2 l e
theorem numS_ok {c : Str} {i : Nat} (hc : PyData.strOk c = true) (hi : i < 20) : PyData.strOk (numS c i) = true := by
  have n1 := num_ok ⟨i, hi⟩
  unfold numS PyData.strOk
  show (c.cps ++ _).all _ = true
  rw [Array.all_append, Bool.and_eq_true]
  exact ⟨hc, n1⟩
theorem numS_len {c : Str} {i : Nat} (hi : i < 20) : (numS c i).length ≤ c.length + 2 := by
  have n2 := num_len ⟨i, hi⟩
  have e : (numS c i).length = c.length + (Str.ofString (toString (i : Int))).length := Array.size_append
  have n2 : (Str.ofString (toString (i : Int))).length ≤ 2 := n2
  omega
end Pu

/-! ## Pu: sorted texts -/
namespace Pu
open PySem PySem.Spec PyProof.Rows L2 Ed
theorem ltC_total : ∀ a b : List Nat, ltCps a b = false → ltCps b a = false → a = b
  | [], [], _, _ => rfl
  | [], _ :: _, h, _ => by cases h
  | _ :: _, [], _, h => by cases h
  | x :: a, y :: b, h1, h2 => by
    simp only [ltCps, Bool.or_eq_false_iff, Bool.and_eq_false_iff, decide_eq_false_iff_not, beq_eq_false_iff_ne] at h1 h2
    have e : x = y := by omega
    subst e
    rw [ltC_total a b (h1.2.resolve_left (fun z => z rfl)) (h2.2.resolve_left (fun z => z rfl))]
theorem ltC_asym : ∀ a b : List Nat, ltCps a b = true → ltCps b a = false
  | [], [], h => by cases h
  | [], _ :: _, _ => rfl
  | _ :: _, [], h => by cases h
  | x :: a, y :: b, h => by
    simp only [ltCps, Bool.or_eq_true, Bool.and_eq_true, decide_eq_true_eq, beq_iff_eq] at h
    simp only [ltCps, Bool.or_eq_false_iff, Bool.and_eq_false_iff, decide_eq_false_iff_not, beq_eq_false_iff_ne]
    rcases h with h | ⟨rfl, h⟩
    · exact ⟨by omega, .inl (by omega)⟩
    · exact ⟨by omega, .inr (ltC_asym a b h)⟩
/-- not after, and not after: not after -/
theorem ltC_trans : ∀ a b c : List Nat, ltCps b a = false → ltCps c b = false → ltCps c a = false
  | [], _, [], _, _ => rfl
  | [], [], _ :: _, _, _ => rfl
  | [], _ :: _, _ :: _, _, _ => rfl
  | _ :: _, [], _, h, _ => by cases h
  | _ :: _, _ :: _, [], _, h => by cases h
  | x :: a, y :: b, z :: c, h1, h2 => by
    simp only [ltCps, Bool.or_eq_false_iff, Bool.and_eq_false_iff, decide_eq_false_iff_not, beq_eq_false_iff_ne] at h1 h2 ⊢
    refine ⟨by omega, ?_⟩
    by_cases e : z = x
    · subst e
      have e2 : y = z := by omega
      subst e2
      exact .inr (ltC_trans a b c (h1.2.resolve_left (fun z => z rfl)) (h2.2.resolve_left (fun z => z rfl)))
    · exact .inl e
def leS (a b : Str) : Bool := !ltCps b.cps.toList a.cps.toList
theorem leS_trans (a b c : Str) (h1 : leS a b = true) (h2 : leS b c = true) : leS a c = true := by
  unfold leS at *
  rw [Bool.not_eq_true'] at *
  exact ltC_trans _ _ _ h1 h2
theorem leS_total (a b : Str) : (leS a b || leS b a) = true := by
  unfold leS
  cases h : ltCps b.cps.toList a.cps.toList with
  | false => rfl
  | true =>
    rw [ltC_asym _ _ h]
    rfl
theorem leS_anti (a b : Str) (h1 : leS a b = true) (h2 : leS b a = true) : a = b := by
  unfold leS at *
  rw [Bool.not_eq_true'] at *
  have e := ltC_total _ _ h2 h1
  cases a
  cases b
  congr 1
  exact Array.toList_inj.mp e
theorem rising_pw : ∀ {x : Str} {r : List Str}, risingS x r = true → (x :: r).Pairwise fun a b => leS a b = true
  | x, [], _ => List.pairwise_singleton _ _
  | x, y :: r, h => by
    unfold risingS at h
    rw [Bool.and_eq_true] at h
    have ih := rising_pw h.2
    refine List.pairwise_cons.mpr ⟨fun z hz => ?_, ih⟩
    rcases List.mem_cons.mp hz with rfl | hz
    · exact h.1
    · exact leS_trans x y z h.1 ((List.pairwise_cons.mp ih).1 z hz)
theorem sorted_pw : ∀ {l : List Str}, sortedS l = true → l.Pairwise fun a b => leS a b = true
  | [], _ => .nil
  | _ :: _, h => rising_pw h
/-- sorted(l), texts -/
def sortS (l : Names) : Names := l.mergeSort leS
theorem sortS_is {l ys : Names} (hp : ys.Perm l) (hs : sortedS ys = true) : ys = sortS l :=
  List.Perm.eq_of_pairwise (fun a b _ _ h1 h2 => leS_anti a b h1 h2) (sorted_pw hs) (List.pairwise_mergeSort leS_trans leS_total l) (hp.trans (List.mergeSort_perm l leS).symm)
theorem sortS_perm {l m : Names} (h : l.Perm m) : sortS l = sortS m :=
  List.Perm.eq_of_pairwise (fun a b _ _ h1 h2 => leS_anti a b h1 h2) (List.pairwise_mergeSort leS_trans leS_total l) (List.pairwise_mergeSort leS_trans leS_total m) ((List.mergeSort_perm l leS).trans (h.trans (List.mergeSort_perm m leS).symm))
theorem sortS_mem {l : Names} {x : Str} : x ∈ sortS l ↔ x ∈ l := (List.mergeSort_perm l leS).mem_iff
def strsD : List D → Option Names
  | [] => some []
  | .str s :: ds => (strsD ds).map (s :: ·)
  | _ => none
theorem strsD_inv : ∀ {ds : List D} {l : Names}, strsD ds = some l → ds = l.map D.str
  | [], _, h => by
    cases h
    rfl
  | .str s :: ds, l, h => by
    unfold strsD at h
    cases e : strsD ds with
    | none =>
      rw [e] at h
      cases h
    | some m =>
      rw [e] at h
      cases h
      rw [strsD_inv e]
      rfl
  | .non :: _, _, h => by cases h
  | .bl _ :: _, _, h => by cases h
  | .int _ :: _, _, h => by cases h
  | .lst _ :: _, _, h => by cases h
  | .tup _ :: _, _, h => by cases h
  | .dic _ :: _, _, h => by cases h
  | .obj _ _ :: _, _, h => by cases h
  | .exc _ _ _ _ _ :: _, _, h => by cases h
  | .raw _ :: _, _, h => by cases h
theorem strsD_map : ∀ l : Names, strsD (l.map D.str) = some l
  | [] => rfl
  | x :: l => by
    rw [List.map_cons]
    unfold strsD
    rw [strsD_map l]
    rfl
def gsortedS : List N → Option N
  | [n] => match kidsL n with
    | some ds => match strsD ds with
      | some l => if l.length < 64 then some (.f (dN (sortS l))) else none
      | none => none
    | none => none
  | _ => none
theorem lf_sorted {n : N} {l : Names} (h : kidsL n = some (l.map D.str)) (hl : l.length < 64) : gsortedS [n] = some (.f (dN (sortS l))) := by
  unfold gsortedS
  dsimp only
  rw [h]
  dsimp only
  rw [strsD_map]
  dsimp only
  rw [if_pos hl]
theorem rpAll_strs2 {K : PySem.W.Frag} {F : Hp} : ∀ {l : Names} {vs : List V}, RpAll K F vs (l.map D.str) → vs = l.map V.str
  | [], _, .nil => rfl
  | x :: l, _, .cons a t => by
    cases a
    rw [rpAll_strs2 t]
    rfl
section
variable {X : Cx} {K : PySem.W.Frag} {e : Expr} {g : G} {p pos : Pos}
theorem pn_sortedS (hm : X.mg "sorted" = none) (ha : PAs X K [e] [g]) (hg : Gl X "sorted" := by rfl) (he : starEach [e] X.env = (false, eval e X.env) :: starEach [] X.env := by rfl) : PN X K (.Call (.Name "sorted" p) [e] [] pos) (gArgs gsortedS [g]) := fun hK => by
  subst hK
  refine pe_imp (pe_callB cr_sortedS hg hm (by decide +kernel) (ha rfl) (by decide) (by decide) he rfl) fun σ H Q ⟨env, F, M, M0, n, rp, o, hg, k⟩ => ?_
  obtain ⟨ns, h1, h2⟩ := gArgs_some hg
  refine ⟨env, F, M, M0, ns, rp, o, h1, fun vs F' H' s' o' w => ?_⟩
  unfold gsortedS at h2
  split at h2
  · cases w with
    | cons w1 w2 =>
      cases w2
      split at h2
      · rename_i ds q
        split at h2
        · rename_i l ql
          split at h2
          · rename_i hl
            cases h2
            have ed := strsD_inv ql
            subst ed
            obtain ⟨a1, vs, rfl, e1, r1⟩ := w1.kids o' (fun c hc => List.mem_append_left _ hc) q
            have ev := rpAll_strs2 r1
            subst ev
            refine ⟨a1, l, rfl, SqL.of e1, hl, fun ys c hp hs hn => ?_⟩
            have ey := sortS_is hp hs
            subst ey
            exact new_ol o' s' (rpAll_strs _) k c hn
          · cases h2
        · cases h2
      · cases h2
  · cases h2
end
theorem sa_sortedS {K : PySem.W.Frag} : SA K (rSortedS K) gsortedS := ⟨fun {F M M0 H vs ns n Q} o w h2 k => by
  unfold gsortedS at h2
  split at h2
  · cases w with
    | cons w1 w2 =>
      cases w2
      split at h2
      · rename_i ds q
        split at h2
        · rename_i l ql
          split at h2
          · rename_i hl
            cases h2
            have ed := strsD_inv ql
            subst ed
            obtain ⟨a1, vs, rfl, e1, r1⟩ := w1.kids o (fun c hc => List.mem_append_left _ hc) q
            have ev := rpAll_strs2 r1
            subst ev
            refine ⟨a1, l, rfl, SqL.of e1, hl, fun ys c hp hs hn => ?_⟩
            have ey := sortS_is hp hs
            subst ey
            have o1 := o.newM (x := .lst ((sortS l).map V.str)) hn
            have n1 := o1.apart 0
            exact k _ _ _ (same_upd n1) (o1.fz 0) (Vw.of (.lst upd_same (rpAll_strs _)))
          · cases h2
        · cases h2
      · cases h2
  · cases h2⟩
section
variable {X : Cx} {K : PySem.W.Frag} {W : WX} {e : Expr} {fa : FA} {p pos : Pos}
theorem px_sortedS (hm : X.mg "sorted" = none) (ha : PAX X K W [e] fa) (hg : Gl X "sorted" := by rfl) (he : starEach [e] X.env = (false, eval e X.env) :: starEach [] X.env := by rfl) : PX X K W (.Call (.Name "sorted" p) [e] [] pos) (xArgs gsortedS fa) := fun hK => by
  subst hK
  exact px_args sa_sortedS (pe_callB cr_sortedS hg hm (by decide +kernel) (ha rfl) (by decide) (by decide) he rfl) rfl
end
/-! ### sorted(l), ints -/
def leI (a b : Int) : Bool := decide (a ≤ b)
def sortI (l : List Int) : List Int := l.mergeSort leI
theorem sortI_pw (l : List Int) : (sortI l).Pairwise (· ≤ ·) := by
  have h := List.pairwise_mergeSort (le := leI) (fun a b c h1 h2 => by unfold leI at *; simp only [decide_eq_true_eq] at *; omega) (fun a b => by unfold leI; simp only [Bool.or_eq_true, decide_eq_true_eq]; omega) l
  exact h.imp fun h => of_decide_eq_true h
theorem sortI_is {l ys : List Int} (hp : ys.Perm l) (hs : ys.Pairwise (· ≤ ·)) : ys = sortI l :=
  List.Perm.eq_of_pairwise (fun a b _ _ h1 h2 => by omega) hs (sortI_pw l) (hp.trans (List.mergeSort_perm l leI).symm)
def intsD : List D → Option (List Int)
  | [] => some []
  | .int i :: ds => (intsD ds).map (i :: ·)
  | _ => none
theorem intsD_map : ∀ l : List Int, intsD (l.map D.int) = some l
  | [] => rfl
  | x :: l => by
    rw [List.map_cons]
    unfold intsD
    rw [intsD_map l]
    rfl
theorem intsD_inv {ds : List D} {l : List Int} (h : intsD ds = some l) : ds = l.map D.int := by
  induction ds generalizing l with
  | nil =>
    cases h
    rfl
  | cons d ds ih =>
    cases d with
    | int i =>
      unfold intsD at h
      cases e : intsD ds with
      | none =>
        rw [e] at h
        cases h
      | some m =>
        rw [e] at h
        cases h
        rw [ih e]
        rfl
    | _ => cases h
def gsortedI : List N → Option N
  | [n] => match kidsL n with
    | some ds => match intsD ds with
      | some l => if l.length < 64 then some (.f (.lst ((sortI l).map D.int))) else none
      | none => none
    | none => none
  | _ => none
theorem lf_sortedI {n : N} {l : List Int} (h : kidsL n = some (l.map D.int)) (hl : l.length < 64) : gsortedI [n] = some (.f (.lst ((sortI l).map D.int))) := by
  unfold gsortedI
  dsimp only
  rw [h]
  dsimp only
  rw [intsD_map]
  dsimp only
  rw [if_pos hl]
theorem rpAll_ints2 {K : PySem.W.Frag} {F : Hp} : ∀ {l : List Int} {vs : List V}, RpAll K F vs (l.map D.int) → vs = l.map V.int
  | [], _, .nil => rfl
  | x :: l, _, .cons a t => by
    cases a
    rw [rpAll_ints2 t]
    rfl
theorem rpAll_ofInts {K : PySem.W.Frag} {F : Hp} : ∀ (l : List Int), RpAll K F (l.map V.int) (l.map D.int)
  | [] => .nil
  | x :: l => .cons (.int x) (rpAll_ofInts l)
section
variable {X : Cx} {K : PySem.W.Frag} {e : Expr} {g : G} {p pos : Pos}
theorem pn_sortedI (hm : X.mg "sorted" = none) (ha : PAs X K [e] [g]) (hg : Gl X "sorted" := by rfl) (he : starEach [e] X.env = (false, eval e X.env) :: starEach [] X.env := by rfl) : PN X K (.Call (.Name "sorted" p) [e] [] pos) (gArgs gsortedI [g]) := fun hK => by
  subst hK
  refine pe_imp (pe_callB cr_sorted hg hm (by decide +kernel) (ha rfl) (by decide) (by decide) he rfl) fun σ H Q ⟨env, F, M, M0, n, rp, o, hg, k⟩ => ?_
  obtain ⟨ns, h1, h2⟩ := gArgs_some hg
  refine ⟨env, F, M, M0, ns, rp, o, h1, fun vs F' H' s' o' w => ?_⟩
  unfold gsortedI at h2
  split at h2
  · cases w with
    | cons w1 w2 =>
      cases w2
      split at h2
      · rename_i ds q
        split at h2
        · rename_i l ql
          split at h2
          · rename_i hl
            cases h2
            have ed := intsD_inv ql
            subst ed
            obtain ⟨a1, vs, rfl, e1, r1⟩ := w1.kids o' (fun c hc => List.mem_append_left _ hc) q
            have ev := rpAll_ints2 r1
            subst ev
            refine ⟨a1, l, rfl, SqL.of e1, hl, fun ys c hp hs hn => ?_⟩
            have ey := sortI_is hp hs
            subst ey
            exact new_ol o' s' (rpAll_ofInts _) k c hn
          · cases h2
        · cases h2
      · cases h2
  · cases h2
end
end Pu

/-! ## Pv: programs as functions of values. The slots without addresses; what a text does is a tree of draws with an outcome. -/
namespace Pu
open PySem PySem.Spec PyProof.Rows L2 Ed
/-! ### addresses forgotten -/
mutual
def N.er : N → N
  | .f d => .f d
  | .lst _ xs => .lst 0 (ers xs)
  | .tup _ xs => .tup 0 (ers xs)
  | .dic _ kvs => .dic 0 (erk kvs)
  | .obj _ _ C fs => .obj 0 0 C (erf fs)
def ers : List N → List N
  | [] => []
  | n :: ns => n.er :: ers ns
def erk : List (Key × N) → List (Key × N)
  | [] => []
  | (k, n) :: ns => (k, n.er) :: erk ns
def erf : List (Str × N) → List (Str × N)
  | [] => []
  | (k, n) :: ns => (k, n.er) :: erf ns
end
theorem ers_eq : ∀ ns : List N, ers ns = ns.map N.er
  | [] => rfl
  | n :: ns => by
    show n.er :: ers ns = _
    rw [ers_eq ns]
    rfl
theorem erk_eq : ∀ ns : List (Key × N), erk ns = ns.map fun kv => (kv.1, kv.2.er)
  | [] => rfl
  | (k, n) :: ns => by
    show (k, n.er) :: erk ns = _
    rw [erk_eq ns]
    rfl
theorem erf_eq : ∀ ns : List (Str × N), erf ns = ns.map fun kv => (kv.1, kv.2.er)
  | [] => rfl
  | (k, n) :: ns => by
    show (k, n.er) :: erf ns = _
    rw [erf_eq ns]
    rfl
mutual
theorem toD_er : ∀ n : N, n.er.toD = n.toD
  | .f d => rfl
  | .lst _ xs => congrArg D.lst (toDs_er xs)
  | .tup _ xs => congrArg D.tup (toDs_er xs)
  | .dic _ kvs => congrArg D.dic (toDk_er kvs)
  | .obj _ _ C fs => congrArg (D.obj C) (toDf_er fs)
theorem toDs_er : ∀ ns : List N, toDs (ers ns) = toDs ns
  | [] => rfl
  | n :: ns => by
    show n.er.toD :: toDs (ers ns) = n.toD :: toDs ns
    rw [toD_er n, toDs_er ns]
theorem toDk_er : ∀ ns : List (Key × N), toDk (erk ns) = toDk ns
  | [] => rfl
  | (k, n) :: ns => by
    show (k, n.er.toD) :: toDk (erk ns) = (k, n.toD) :: toDk ns
    rw [toD_er n, toDk_er ns]
theorem toDf_er : ∀ ns : List (Str × N), toDf (erf ns) = toDf ns
  | [] => rfl
  | (k, n) :: ns => by
    show (k, n.er.toD) :: toDf (erf ns) = (k, n.toD) :: toDf ns
    rw [toD_er n, toDf_er ns]
end
theorem er_f {n : N} {d : D} (h : n.er = .f d) : n = .f d := by
  cases n <;> first | exact h | cases h
theorem er_lst {n : N} {a : Addr} {xs : List N} (h : n.er = .lst a xs) : ∃ b ns, n = .lst b ns ∧ a = 0 ∧ xs = ns.map N.er := by
  cases n with
  | lst b ns =>
    unfold N.er at h
    cases h
    exact ⟨b, ns, rfl, rfl, ers_eq ns⟩
  | _ => cases h
theorem er_tup {n : N} {a : Addr} {xs : List N} (h : n.er = .tup a xs) : ∃ b ns, n = .tup b ns ∧ a = 0 ∧ xs = ns.map N.er := by
  cases n with
  | tup b ns =>
    unfold N.er at h
    cases h
    exact ⟨b, ns, rfl, rfl, ers_eq ns⟩
  | _ => cases h
theorem er_dic {n : N} {a : Addr} {xs : List (Key × N)} (h : n.er = .dic a xs) : ∃ b ns, n = .dic b ns ∧ a = 0 ∧ xs = ns.map fun kv => (kv.1, kv.2.er) := by
  cases n with
  | dic b ns =>
    unfold N.er at h
    cases h
    exact ⟨b, ns, rfl, rfl, erk_eq ns⟩
  | _ => cases h
theorem er_obj {n : N} {a dx : Addr} {C : Str} {xs : List (Str × N)} (h : n.er = .obj a dx C xs) : ∃ b dy ns, n = .obj b dy C ns ∧ a = 0 ∧ dx = 0 ∧ xs = ns.map fun kv => (kv.1, kv.2.er) := by
  cases n with
  | obj b dy C' ns =>
    unfold N.er at h
    cases h
    exact ⟨b, dy, ns, rfl, rfl, rfl, erf_eq ns⟩
  | _ => cases h
theorem fds_er : ∀ ns : List N, kidsL.fds (ns.map N.er) = kidsL.fds ns
  | [] => rfl
  | .f d :: ns => by
    show (kidsL.fds (ns.map N.er)).map (d :: ·) = _
    rw [fds_er ns]
    rfl
  | .lst _ _ :: ns => rfl
  | .tup _ _ :: ns => rfl
  | .dic _ _ :: ns => rfl
  | .obj _ _ _ _ :: ns => rfl
theorem kids_er (n : N) : kidsL n.er = kidsL n := by
  cases n with
  | f d => rfl
  | lst a ns =>
    show kidsL.fds (ers ns) = kidsL.fds ns
    rw [ers_eq, fds_er]
  | tup _ _ => rfl
  | dic _ _ => rfl
  | obj _ _ _ _ => rfl
theorem ol_er (a : Addr) (ds : List D) : (ol a ds).er = ol 0 ds := by
  show N.lst 0 (ers (ds.map N.f)) = _
  rw [ers_eq, List.map_map]
  rfl
theorem od_er (a : Addr) (kvs : List (Key × D)) : (od a kvs).er = od 0 kvs := by
  show N.dic 0 (erk (kvs.map fun kv => (kv.1, N.f kv.2))) = _
  rw [erk_eq, List.map_map]
  rfl
theorem ownD_er (a : Addr) (d : D) : (ownD a d).er = ownD 0 d := by
  cases d with
  | lst ds => exact ol_er a ds
  | dic ds => exact od_er a ds
  | _ => rfl
theorem ownD_er0 (d : D) : (ownD 0 d).er = ownD 0 d := ownD_er 0 d
theorem map_f_inj : ∀ {ns : List N} {ds : List D}, ns.map N.er = ds.map N.f → ns = ds.map N.f
  | [], [], _ => rfl
  | [], d :: ds, h => by cases h
  | n :: ns, [], h => by cases h
  | n :: ns, d :: ds, h => by
    rw [List.map_cons, List.map_cons] at h
    injection h with h1 h2
    rw [er_f h1, map_f_inj h2]
    rfl
theorem er_ol {n : N} {a : Addr} {ds : List D} (h : n.er = ol a ds) : ∃ b, n = ol b ds := by
  obtain ⟨b, ns, rfl, _, h2⟩ := er_lst (xs := ds.map N.f) h
  exact ⟨b, by rw [map_f_inj h2.symm]; rfl⟩
theorem mapk_f_inj : ∀ {ns : List (Key × N)} {ds : List (Key × D)}, ns.map (fun kv => (kv.1, kv.2.er)) = ds.map (fun kv => (kv.1, N.f kv.2)) → ns = ds.map fun kv => (kv.1, N.f kv.2)
  | [], [], _ => rfl
  | [], d :: ds, h => by cases h
  | n :: ns, [], h => by cases h
  | (k, n) :: ns, (k', d) :: ds, h => by
    rw [List.map_cons, List.map_cons] at h
    injection h with h1 h2
    injection h1 with h3 h4
    have h5 : k = k' := h3
    have h6 : n = .f d := er_f h4
    rw [h5, h6, mapk_f_inj h2]
    rfl
theorem er_od {n : N} {a : Addr} {ds : List (Key × D)} (h : n.er = od a ds) : ∃ b, n = od b ds := by
  obtain ⟨b, ns, rfl, _, h2⟩ := er_dic (xs := ds.map fun kv => (kv.1, N.f kv.2)) h
  exact ⟨b, by rw [mapk_f_inj h2.symm]; rfl⟩
/-! ### slots -/
/-- the error that is handled: where it is laid -/
class Xi where
  a : Addr
  cls : Value
  d : Option Addr
instance (priority := low) xi0 : Xi := ⟨0, .none, none⟩
variable [XI : Xi]
def srcT : Sl := .cu .non ⟨fun _ _ => True, fun _ h => h⟩
inductive ErS : Sl → Sl → Prop
  | fz (d : D) : ErS (.fz d) (.fz d)
  | ow (n : N) : ErS (.ow n) (.ow n.er)
  | src (a : Addr) : ErS (src a) srcT
/-- a slot that is not known may be anything -/
inductive ErO : Option Sl → Option Sl → Prop
  | non (o : Option Sl) : ErO o none
  | som {s t : Sl} : ErS s t → ErO (some s) (some t)
  | xc (C : Str) (fs : List (Str × D)) : ErO (some (.xc XI.a XI.cls XI.d C fs)) (some (.xc 0 .none none C fs))
/-- a slot that is known -/
def ErT (s t : Sl) : Prop := ErS s t ∨ ∃ C fs, s = .xc XI.a XI.cls XI.d C fs ∧ t = .xc 0 .none none C fs
inductive ErE : Env → Env → Prop
  | nil : ErE [] []
  | cons {o p : Option Sl} {e f : Env} : ErO o p → ErE e f → ErE (o :: e) (p :: f)
inductive ErL : List Sl → List Sl → Prop
  | nil : ErL [] []
  | cons {s t : Sl} {e f : List Sl} : ErS s t → ErL e f → ErL (s :: e) (t :: f)
theorem ErE.len : ∀ {e f : Env}, ErE e f → e.length = f.length
  | _, _, .nil => rfl
  | _, _, .cons _ t => congrArg (· + 1) t.len
theorem ErL.len : ∀ {e f : List Sl}, ErL e f → e.length = f.length
  | _, _, .nil => rfl
  | _, _, .cons _ t => congrArg (· + 1) t.len
theorem ErE.get : ∀ {e f : Env} {i : Nat} {t : Sl}, ErE e f → f[i]? = some (some t) → ∃ s, e[i]? = some (some s) ∧ ErT s t
  | _, _, i, t, .nil, h => by cases h
  | _, _, 0, t, .cons a _, h => by
    cases a with
    | non _ => cases h
    | som a =>
      cases h
      exact ⟨_, rfl, .inl a⟩
    | xc C fs =>
      cases h
      exact ⟨_, rfl, .inr ⟨C, fs, rfl, rfl⟩⟩
  | _, _, i + 1, t, .cons _ r, h => ErE.get (i := i) r h
theorem ErE.set : ∀ {e f : Env} {o p : Option Sl} (i : Nat), ErE e f → ErO o p → ErE (e.set i o) (f.set i p)
  | _, _, _, _, _, .nil, _ => .nil
  | _, _, _, _, 0, .cons _ r, h => .cons h r
  | _, _, _, _, i + 1, .cons a r, h => .cons a (r.set i h)
theorem ErE.wipe1 : ∀ {e f : Env} (i : Nat), ErE e f → ErE e (f.set i none)
  | _, _, _, .nil => .nil
  | _, _, 0, .cons _ r => .cons (.non _) r
  | _, _, i + 1, .cons a r => .cons a (r.wipe1 i)
theorem ErE.wipe {e f : Env} (h : ErE e f) : ∀ vs : List Nat, ErE e (wipeE f vs)
  | [] => h
  | v :: vs => (h.wipe vs).wipe1 v
theorem ErE.wipe2 {e f : Env} (h : ErE e f) : ∀ vs : List Nat, ErE (wipeE e vs) (wipeE f vs)
  | [] => h
  | v :: vs => (h.wipe2 vs).set v (.non _)
theorem ErS.node {s t : Sl} {n : N} (h : ErS s t) (hn : t.node = some n) : ∃ m, s.node = some m ∧ m.er = n := by
  cases h with
  | fz d =>
    cases hn
    exact ⟨_, rfl, rfl⟩
  | ow m =>
    cases hn
    exact ⟨_, rfl, rfl⟩
  | src a => cases hn
theorem ErS.fzD {s t : Sl} {d : D} (h : ErS s t) (hd : t.fzD = some d) : s.fzD = some d := by
  cases h with
  | fz d => exact hd
  | ow m =>
    have hd : some m.er.toD = some d := hd
    rw [toD_er] at hd
    exact hd
  | src a => cases hd
theorem ErE.node {e f : Env} {i : Nat} {n : N} (h : ErE e f) (hn : f.node i = some n) : ∃ m, e.node i = some m ∧ m.er = n := by
  unfold Env.node at hn ⊢
  split at hn
  · rename_i t ht
    obtain ⟨s, hs, r | ⟨C, fs, rfl, rfl⟩⟩ := h.get ht
    · rw [hs]
      exact r.node hn
    · cases hn
  · cases hn
theorem ErS.fz_inv {s : Sl} {d : D} (h : ErS s (.fz d)) : s = .fz d := by
  cases h
  rfl
theorem ErT.fz_inv {s : Sl} {d : D} (h : ErT s (.fz d)) : s = .fz d := by
  rcases h with h | ⟨C, fs, _, h⟩
  · exact h.fz_inv
  · cases h
theorem ErS.ow_inv {s : Sl} {n : N} (h : ErS s (.ow n)) : ∃ m, s = .ow m ∧ m.er = n := by
  cases h
  exact ⟨_, rfl, rfl⟩
theorem ErT.ow_inv {s : Sl} {n : N} (h : ErT s (.ow n)) : ∃ m, s = .ow m ∧ m.er = n := by
  rcases h with h | ⟨C, fs, _, h⟩
  · exact h.ow_inv
  · cases h
theorem ErS.src_inv {s : Sl} (h : ErS s srcT) : ∃ a, s = Pu.src a := by
  generalize e : srcT = t at h
  cases h with
  | src a => exact ⟨a, rfl⟩
  | fz d => cases e
  | ow n => cases e
theorem ErE.fz {e f : Env} (h : ErE e f) (i : Nat) : ErE (e.fz i) (f.fz i) := by
  unfold Env.fz
  cases hf : f[i]? with
  | none =>
    have : e[i]? = none := by
      rw [List.getElem?_eq_none_iff] at hf ⊢
      rw [h.len]
      exact hf
    rw [this]
    exact h
  | some o =>
    cases o with
    | none =>
      have q : f = f.set i none := (set_same hf).symm
      show ErE _ f
      rw [q]
      split
      · split
        · exact (h.set i (.non _))
        · exact h.wipe1 i
      · exact h.wipe1 i
    | some t =>
      obtain ⟨s, hs, r | ⟨C, fs, rfl, rfl⟩⟩ := h.get hf
      · rw [hs]
        show ErE (match s.fzD with | some d => _ | none => _) (match t.fzD with | some d => _ | none => _)
        cases r with
        | fz d => exact h.set i (.som (.fz d))
        | ow n =>
          show ErE (e.set i (some (.fz n.toD))) (f.set i (some (.fz n.er.toD)))
          rw [toD_er]
          exact h.set i (.som (.fz _))
        | src a => exact h
      · rw [hs]
        exact h
/-! ### expressions without effects -/
class EqvG (g : G) (g' : outParam G) : Prop where
  run : ∀ {e f : Env} {n : N}, ErE e f → g' f = some n → ∃ m, g e = some m ∧ m.er = n
class EqvB (b : B) (b' : outParam B) : Prop where
  run : ∀ {e f : Env} {c : Bool}, ErE e f → b' f = some c → b e = some c
class EqvI (b : GI) (b' : outParam GI) : Prop where
  run : ∀ {e f : Env} {c : List D}, ErE e f → b' f = some c → b e = some c
class EqvS (b : GO) (b' : outParam GO) : Prop where
  run : ∀ {e f : Env} {c : Option Int}, ErE e f → b' f = some c → b e = some c
class EqvGs (g : List G) (g' : outParam (List G)) : Prop where
  run : ∀ {e f : Env} {ns : List N}, ErE e f → gAll g' f = some ns → ∃ ms, gAll g e = some ms ∧ ms.map N.er = ns
class EqvO (o : N → N → Option N) : Prop where
  run : ∀ {a b n : N}, o a.er b.er = some n → ∃ m, o a b = some m ∧ m.er = n
class EqvU (o : N → Option N) : Prop where
  run : ∀ {a n : N}, o a.er = some n → ∃ m, o a = some m ∧ m.er = n
class EqvA (o : List N → Option N) : Prop where
  run : ∀ {a : List N} {n : N}, o (a.map N.er) = some n → ∃ m, o a = some m ∧ m.er = n
class EqvL (o : N → Option Int → Option Int → Option N) : Prop where
  run : ∀ {a n : N} {l h : Option Int}, o a.er l h = some n → ∃ m, o a l h = some m ∧ m.er = n
theorem EqvG.f {g g' : G} (h : EqvG g g') {e f : Env} {d : D} (r : ErE e f) (hg : g' f = some (.f d)) : g e = some (.f d) := by
  obtain ⟨m, h1, h2⟩ := h.run r hg
  rw [h1, er_f h2]
instance {i : Nat} : EqvG (gVar i) (gVar i) := ⟨fun r h => r.node h⟩
instance {d : D} : EqvG (gC d) (gC d) := ⟨fun r h => ⟨.f d, rfl, by cases h; rfl⟩⟩
/-- e.f, of the error in slot i -/
def gXv (i : Nat) (C f : Str) : G := fun env => match env[i]? with
  | some (some (.xc _ _ _ C' fs)) => if C' = C then (fs.find? fun kv => decide (kv.1 = f)).map fun kv => .f kv.2 else none
  | _ => none
theorem ErT.xc_inv {s : Sl} {a : Addr} {cls : Value} {d : Option Addr} {C : Str} {fs : List (Str × D)} (h : ErT s (.xc a cls d C fs)) : s = .xc XI.a XI.cls XI.d C fs := by
  rcases h with h | ⟨C, fs, rfl, h⟩
  · generalize e : Sl.xc a cls d C fs = t at h
    cases h <;> cases e
  · cases h
    rfl
instance {a : Addr} {cls : Value} {d : Option Addr} {i : Nat} {C f : Str} : @EqvG ⟨a, cls, d⟩ (gXf a cls d i C f) (gXv i C f) := letI : Xi := ⟨a, cls, d⟩; ⟨fun {e e' n} r h => by
  unfold gXv at h
  split at h
  · rename_i a' cls' d' C' fs hs
    obtain ⟨s, hs', es⟩ := r.get hs
    rw [es.xc_inv] at hs'
    refine ⟨n, ?_, ?_⟩
    · unfold gXf
      rw [hs']
      split at h
      · rename_i hc
        show (open Classical in if _ then _ else _) = _
        rw [if_pos ⟨rfl, rfl, rfl, hc⟩]
        exact h
      · cases h
    · split at h
      · cases q : (fs.find? fun kv => decide (kv.1 = f)) with
        | none =>
          rw [q] at h
          cases h
        | some kv =>
          rw [q] at h
          cases h
          rfl
      · cases h
  · cases h⟩
instance {o : N → N → Option N} {a b : G} {a_ b_ : G} [ho : EqvO o] [ha : EqvG a a_] [hb : EqvG b b_] : EqvG (gOp o a b) (gOp o a_ b_) := ⟨fun r h => by
  obtain ⟨x, y, h1, h2, h3⟩ := gOp_some h
  obtain ⟨m1, e1, rfl⟩ := ha.run r h1
  obtain ⟨m2, e2, rfl⟩ := hb.run r h2
  obtain ⟨m, e3, e4⟩ := ho.run h3
  refine ⟨m, ?_, e4⟩
  unfold gOp
  rw [e1, e2]
  exact e3⟩
instance {o : N → Option N} {a : G} {a_ : G} [ho : EqvU o] [ha : EqvG a a_] : EqvG (gUn o a) (gUn o a_) := ⟨fun r h => by
  obtain ⟨x, h1, h3⟩ := gUn_some h
  obtain ⟨m1, e1, rfl⟩ := ha.run r h1
  obtain ⟨m, e3, e4⟩ := ho.run h3
  refine ⟨m, ?_, e4⟩
  unfold gUn
  rw [e1]
  exact e3⟩
instance : EqvGs [] [] := ⟨fun r h => by
  cases h
  exact ⟨[], rfl, rfl⟩⟩
instance {g : G} {g_ : G} {gs : List G} {gs_ : List G} [hg : EqvG g g_] [hgs : EqvGs gs gs_] : EqvGs (g :: gs) (g_ :: gs_) := ⟨fun {e f ns} r h => by
  unfold gAll at h ⊢
  split at h
  · rename_i n ms h1 h2
    cases h
    obtain ⟨m1, e1, rfl⟩ := hg.run r h1
    obtain ⟨m2, e2, rfl⟩ := hgs.run r h2
    rw [e1, e2]
    exact ⟨_, rfl, rfl⟩
  · cases h⟩
instance {o : List N → Option N} {gs : List G} {gs_ : List G} [ho : EqvA o] [hg : EqvGs gs gs_] : EqvG (gArgs o gs) (gArgs o gs_) := ⟨fun r h => by
  obtain ⟨ns, h1, h2⟩ := gArgs_some h
  obtain ⟨ms, e1, rfl⟩ := hg.run r h1
  obtain ⟨m, e3, e4⟩ := ho.run h2
  refine ⟨m, ?_, e4⟩
  unfold gArgs
  rw [e1]
  exact e3⟩
instance {g : G} {g_ : G} [hg : EqvG g g_] : EqvB (bV g) (bV g_) := ⟨fun r h => by
  have h1 := bV_some h
  unfold bV
  rw [hg.f r h1]⟩
instance {g : G} {g_ : G} [hg : EqvG g g_] : EqvB (bT g) (bT g_) := ⟨fun {e f c} r h => by
  unfold bT at h ⊢
  split at h
  · rename_i n hn
    obtain ⟨m, e1, rfl⟩ := hg.run r hn
    rw [e1]
    rw [toD_er] at h
    exact h
  · cases h⟩
instance {b c : B} {b_ c_ : B} [hb : EqvB b b_] [hc : EqvB c c_] : EqvB (bAnd b c) (bAnd b_ c_) := ⟨fun {e f k} r h => by
  unfold bAnd at h ⊢
  split at h
  · rename_i h1
    rw [hb.run r h1]
    exact hc.run r h
  · rename_i h1
    rw [hb.run r h1]
    exact h
  · cases h⟩
instance {b c : B} {b_ c_ : B} [hb : EqvB b b_] [hc : EqvB c c_] : EqvB (bOr b c) (bOr b_ c_) := ⟨fun {e f k} r h => by
  unfold bOr at h ⊢
  split at h
  · rename_i h1
    rw [hb.run r h1]
    exact h
  · rename_i h1
    rw [hb.run r h1]
    exact hc.run r h
  · cases h⟩
instance {b : B} {b_ : B} [hb : EqvB b b_] : EqvB (bNot b) (bNot b_) := ⟨fun {e f k} r h => by
  unfold bNot at h ⊢
  cases q : b_ f with
  | none =>
    rw [q] at h
    cases h
  | some c =>
    rw [q] at h
    rw [hb.run r q]
    exact h⟩
instance : EqvB bYes bYes := ⟨fun r h => h⟩
instance {a b : G} {a_ b_ : G} [ha : EqvG a a_] [hb : EqvG b b_] : EqvG (gAnd a b) (gAnd a_ b_) := ⟨fun {e f n} r h => by
  unfold gAnd at h ⊢
  split at h
  · rename_i h1
    rw [ha.f r h1]
    exact hb.run r h
  · rename_i h1
    rw [ha.f r h1]
    cases h
    exact ⟨_, rfl, rfl⟩
  · cases h⟩
instance {a b : G} {a_ b_ : G} [ha : EqvG a a_] [hb : EqvG b b_] : EqvG (gOr a b) (gOr a_ b_) := ⟨fun {e f n} r h => by
  unfold gOr at h ⊢
  split at h
  · rename_i h1
    rw [ha.f r h1]
    cases h
    exact ⟨_, rfl, rfl⟩
  · rename_i h1
    rw [ha.f r h1]
    exact hb.run r h
  · cases h⟩
instance {a : G} {a_ : G} [ha : EqvG a a_] : EqvG (gNot a) (gNot a_) := ⟨fun {e f n} r h => by
  unfold gNot at h ⊢
  split at h
  · rename_i h1
    rw [ha.f r h1]
    cases h
    exact ⟨_, rfl, rfl⟩
  · cases h⟩
instance {c : B} {c_ : B} {a b : G} {a_ b_ : G} [hc : EqvB c c_] [ha : EqvG a a_] [hb : EqvG b b_] : EqvG (gIf c a b) (gIf c_ a_ b_) := ⟨fun {e f n} r h => by
  unfold gIf at h ⊢
  split at h
  · rename_i h1
    rw [hc.run r h1]
    exact ha.run r h
  · rename_i h1
    rw [hc.run r h1]
    exact hb.run r h
  · cases h⟩
instance {a : G} {a_ : G} [ha : EqvG a a_] : EqvG (gFz a) (gFz a_) := ⟨fun {e f n} r h => by
  unfold gFz at h ⊢
  split at h
  · rename_i d h1
    rw [ha.f r h1]
    exact ⟨_, rfl, by cases h; rfl⟩
  · cases h⟩
instance {o o' : D → D → Option D} {a b c : G} {a_ b_ c_ : G} [ha : EqvG a a_] [hb : EqvG b b_] [hc : EqvG c c_] : EqvG (gCh o o' a b c) (gCh o o' a_ b_ c_) := ⟨fun {e f n} r h => by
  unfold gCh at h ⊢
  split at h
  · rename_i x y h1 h2
    obtain ⟨m1, e1, rfl⟩ := ha.run r h1
    obtain ⟨m2, e2, rfl⟩ := hb.run r h2
    rw [e1, e2]
    rw [toD_er, toD_er] at h
    split at h
    · rename_i h3
      split at h
      · rename_i z hz
        obtain ⟨m3, e3, rfl⟩ := hc.run r hz
        rw [toD_er] at h
        show ∃ m, (match o m1.toD m2.toD with | some (.bl true) => _ | some (.bl false) => _ | _ => _) = some m ∧ _
        rw [h3, e3]
        cases q : o' m2.toD m3.toD with
        | none =>
          rw [q] at h
          cases h
        | some d =>
          rw [q] at h
          cases h
          exact ⟨.f d, by show (o' m2.toD m3.toD).map N.f = _; rw [q]; rfl, rfl⟩
      · cases h
    · rename_i h3
      cases h
      refine ⟨.f (.bl false), ?_, rfl⟩
      show (match o m1.toD m2.toD with | some (.bl true) => _ | some (.bl false) => _ | _ => _) = _
      rw [h3]
    · cases h
  · cases h⟩
instance : EqvS goN goN := ⟨fun r h => h⟩
instance {g : G} {g_ : G} [hg : EqvG g g_] : EqvS (goS g) (goS g_) := ⟨fun {e f c} r h => by
  unfold goS at h ⊢
  split at h
  · rename_i i h1
    rw [hg.f r h1]
    exact h
  · cases h⟩
instance {o : N → Option Int → Option Int → Option N} {g : G} {g_ : G} {l u : GO} {l_ u_ : GO} [ho : EqvL o] [hg : EqvG g g_] [hl : EqvS l l_] [hu : EqvS u u_] : EqvG (gSl o g l u) (gSl o g_ l_ u_) := ⟨fun {e f n} r h => by
  obtain ⟨m, i, j, h1, h2, h3, h4⟩ := gSl_some h
  obtain ⟨m1, e1, rfl⟩ := hg.run r h1
  obtain ⟨m2, e2, e3⟩ := ho.run h4
  refine ⟨m2, ?_, e3⟩
  unfold gSl
  rw [e1, hl.run r h2, hu.run r h3]
  exact e2⟩
/-! operators -/
theorem eqv_map {o : Option D} {n : N} (h : o.map N.f = some n) : ∃ m, o.map N.f = some m ∧ m.er = n := by
  cases o with
  | none => cases h
  | some d =>
    cases h
    exact ⟨_, rfl, rfl⟩
instance {o : D → D → Option D} : EqvO (fOp o) := ⟨fun {a b n} h => by
  unfold fOp at h ⊢
  rw [toD_er, toD_er] at h
  exact eqv_map h⟩
instance {o : D → Option D} : EqvU (fUn o) := ⟨fun {a n} h => by
  unfold fUn at h ⊢
  rw [toD_er] at h
  exact eqv_map h⟩
theorem atI_inv {α β : Type} {f : α → β} {xs : List α} {i : Int} {y : β} (h : atI (xs.map f) i = some y) : ∃ x, atI xs i = some x ∧ f x = y := by
  unfold atI at h ⊢
  rw [List.length_map] at h
  cases q : L2.ixN xs.length i with
  | none =>
    rw [q] at h
    cases h
  | some j =>
    rw [q] at h
    have h : (xs.map f)[j]? = some y := h
    rw [List.getElem?_map] at h
    show ∃ x, xs[j]? = some x ∧ _
    cases z : xs[j]? with
    | none =>
      rw [z] at h
      cases h
    | some x =>
      rw [z] at h
      cases h
      exact ⟨x, rfl, rfl⟩
theorem nfind_er {k : Key} : ∀ {kvs : List (Key × N)} {n : N}, nfind (kvs.map fun kv => (kv.1, kv.2.er)) k = some n → ∃ m, nfind kvs k = some m ∧ m.er = n
  | [], n, h => by cases h
  | (k', m) :: kvs, n, h => by
    unfold nfind at h ⊢
    rw [List.map_cons, List.find?_cons] at h
    rw [List.find?_cons]
    split at h
    · rename_i hk
      cases h
      have hk : decide (k' = k) = true := hk
      rw [hk]
      exact ⟨m, rfl, rfl⟩
    · rename_i hk
      have hk : decide (k' = k) = false := hk
      rw [hk]
      exact nfind_er h
theorem ffind_er {k : Str} : ∀ {kvs : List (Str × N)} {n : N}, ffind (kvs.map fun kv => (kv.1, kv.2.er)) k = some n → ∃ m, ffind kvs k = some m ∧ m.er = n
  | [], n, h => by cases h
  | (k', m) :: kvs, n, h => by
    unfold ffind at h ⊢
    rw [List.map_cons, List.find?_cons] at h
    rw [List.find?_cons]
    split at h
    · rename_i hk
      cases h
      have hk : decide (k' = k) = true := hk
      rw [hk]
      exact ⟨m, rfl, rfl⟩
    · rename_i hk
      have hk : decide (k' = k) = false := hk
      rw [hk]
      exact ffind_er h
instance : EqvO ixD := ⟨fun {a b n} h => by
  have hb : ∀ {i : Int}, b.er = .f (.int i) → b = .f (.int i) := er_f
  cases a with
  | f d =>
    cases b with
    | f d' =>
      have h : ixD (.f d) (.f d') = some n := h
      refine ⟨n, h, ?_⟩
      unfold ixD at h
      split at h
      · cases q : atI _ _ with
        | none =>
          rw [q] at h
          cases h
        | some y =>
          rw [q] at h
          cases h
          rfl
      · cases q : atI _ _ with
        | none =>
          rw [q] at h
          cases h
        | some y =>
          rw [q] at h
          cases h
          rfl
      · split at h
        · cases q : atI _ _ with
          | none =>
            rw [q] at h
            cases h
          | some y =>
            rw [q] at h
            cases h
            rfl
        · cases h
      · rename_i z _
        cases z
      · rename_i z _
        cases z
      · cases h
    | lst _ _ => cases d <;> cases h
    | tup _ _ => cases d <;> cases h
    | dic _ _ => cases d <;> cases h
    | obj _ _ _ _ => cases d <;> cases h
  | lst c ns =>
    have h : ixD (.lst 0 (ers ns)) b.er = some n := h
    rw [ers_eq] at h
    cases b with
    | f d' =>
      cases d' with
      | int i => exact atI_inv h
      | _ => cases h
    | lst _ _ => cases h
    | tup _ _ => cases h
    | dic _ _ => cases h
    | obj _ _ _ _ => cases h
  | tup c ns =>
    have h : ixD (.tup 0 (ers ns)) b.er = some n := h
    rw [ers_eq] at h
    cases b with
    | f d' =>
      cases d' with
      | int i => exact atI_inv h
      | _ => cases h
    | lst _ _ => cases h
    | tup _ _ => cases h
    | dic _ _ => cases h
    | obj _ _ _ _ => cases h
  | dic _ _ => cases b <;> cases h
  | obj _ _ _ _ => cases b <;> cases h⟩
instance : EqvO dgetD := ⟨fun {a b n} h => by
  cases a with
  | f d =>
    cases d with
    | dic kvs =>
      have h : (match keyD b.er.toD with | some k => (dfind kvs k).map N.f | none => none) = some n := h
      rw [toD_er] at h
      show ∃ m, (match keyD b.toD with | some k => (dfind kvs k).map N.f | none => none) = some m ∧ _
      split at h
      · exact eqv_map h
      · cases h
    | _ => cases h
  | dic c kvs =>
    have h : (match keyD b.er.toD with | some k => nfind (erk kvs) k | none => none) = some n := h
    rw [toD_er, erk_eq] at h
    show ∃ m, (match keyD b.toD with | some k => nfind kvs k | none => none) = some m ∧ _
    split at h
    · exact nfind_er h
    · cases h
  | lst _ _ => cases h
  | tup _ _ => cases h
  | obj _ _ _ _ => cases h⟩
/-- what a function of the items gives, frozen -/
theorem eqv_same {n m : N} {o : Option N} (hf : ∀ n, o = some n → ∃ d, n = .f d) (h : o = some n) : ∃ m, o = some m ∧ m.er = n := by
  obtain ⟨d, rfl⟩ := hf n h
  exact ⟨_, h, rfl⟩
instance : EqvO gcat := ⟨fun {a b n} h => by
  unfold gcat at h ⊢
  rw [kids_er, kids_er] at h
  split at h
  · rename_i h1 h2
    split at h
    · cases h
      rename_i hl
      exact ⟨_, if_pos hl, rfl⟩
    · cases h
  · cases h⟩
instance : EqvO splitN := ⟨fun {a b n} h => by
  cases a with
  | f d =>
    cases b with
    | f d' =>
      refine ⟨n, h, ?_⟩
      have h : splitN (.f d) (.f d') = some n := h
      unfold splitN at h
      split at h
      · split at h
        · cases h
          rfl
        · cases h
      · cases h
    | _ => cases d <;> cases h
  | _ => cases b <;> cases h⟩
instance : EqvO partN := ⟨fun {a b n} h => by
  cases a with
  | f d =>
    cases b with
    | f d' =>
      refine ⟨n, h, ?_⟩
      have h : partN (.f d) (.f d') = some n := h
      unfold partN at h
      split at h
      · split at h
        · cases h
          rfl
        · cases h
      · cases h
    | _ => cases d <;> cases h
  | _ => cases b <;> cases h⟩
instance {C f : Str} : EqvU (fldN C f) := ⟨fun {a n} h => by
  cases a with
  | f d =>
    refine ⟨n, h, ?_⟩
    have h : fldN C f (.f d) = some n := h
    unfold fldN at h
    split at h
    · split at h
      · cases q : List.find? _ _ with
        | none =>
          rw [q] at h
          cases h
        | some kv =>
          rw [q] at h
          cases h
          rfl
      · cases h
    · rename_i z
      cases z
    · cases h
  | obj c dx C' fs =>
    have h : (if C' = C then ffind (erf fs) f else none) = some n := h
    show ∃ m, (if C' = C then ffind fs f else none) = some m ∧ _
    split at h
    · rename_i e
      rw [if_pos e]
      rw [erf_eq] at h
      exact ffind_er h
    · cases h
  | _ => cases h⟩
instance : EqvU gRev := ⟨fun {a n} h => by
  unfold gRev at h ⊢
  rw [kids_er] at h
  refine ⟨n, h, ?_⟩
  cases q : kidsL a with
  | none =>
    rw [q] at h
    cases h
  | some ds =>
    rw [q] at h
    cases h
    rfl⟩
instance : EqvL slL := ⟨fun {a n l u} h => by
  unfold slL at h ⊢
  rw [kids_er] at h
  refine ⟨n, h, ?_⟩
  cases q : kidsL a with
  | none =>
    rw [q] at h
    cases h
  | some ds =>
    rw [q] at h
    cases h
    rfl⟩
instance : EqvL slS := ⟨fun {a n l u} h => by
  cases a with
  | f d =>
    refine ⟨n, h, ?_⟩
    have h : slS (.f d) l u = some n := h
    unfold slS at h
    split at h
    · split at h
      · cases h
        rfl
      · cases h
    · cases h
  | _ => cases h⟩
theorem fdsN_er (ns : List N) : fds (ns.map N.er) = fds ns := fds_er ns
instance : EqvA mkT := ⟨fun {a n} h => by
  unfold mkT at h ⊢
  rw [fdsN_er] at h
  refine ⟨n, h, ?_⟩
  split at h
  · split at h
    · cases h
      rfl
    · cases h
  · cases h⟩
instance : EqvA mkL := ⟨fun {a n} h => by
  unfold mkL at h ⊢
  rw [fdsN_er] at h
  refine ⟨n, h, ?_⟩
  split at h
  · split at h
    · cases h
      rfl
    · cases h
  · cases h⟩
instance {o : D → Option D} : EqvA (fA1 o) := ⟨fun {a n} h => by
  match a, h with
  | [m], h =>
    have h : (o m.er.toD).map N.f = some n := h
    rw [toD_er] at h
    exact eqv_map h⟩
instance {o : D → D → Option D} : EqvA (fA2 o) := ⟨fun {a n} h => by
  match a, h with
  | [m, m'], h =>
    have h : (o m.er.toD m'.er.toD).map N.f = some n := h
    rw [toD_er, toD_er] at h
    exact eqv_map h⟩
instance : EqvA glist := ⟨fun {a n} h => by
  match a, h with
  | [m], h =>
    cases m with
    | f d =>
      refine ⟨n, h, ?_⟩
      have h : glist [.f d] = some n := h
      cases d <;> first | (cases h; rfl) | cases h
    | lst b ns =>
      have h : (match kidsL (N.lst b ns).er with | some ds => some (N.f (.lst ds)) | none => none) = some n := h
      show ∃ m', (match kidsL (N.lst b ns) with | some ds => some (N.f (.lst ds)) | none => none) = some m' ∧ _
      rw [kids_er] at h
      refine ⟨n, h, ?_⟩
      split at h
      · cases h
        rfl
      · cases h
    | tup _ _ => cases h
    | dic _ _ => cases h
    | obj _ _ _ _ => cases h⟩
instance : EqvA gtuple := ⟨fun {a n} h => by
  match a, h with
  | [m], h =>
    cases m with
    | f d =>
      refine ⟨n, h, ?_⟩
      have h : gtuple [.f d] = some n := h
      cases d <;> first | (cases h; rfl) | cases h
    | lst b ns =>
      have h : (match kidsL (N.lst b ns).er with | some ds => some (N.f (.tup ds)) | none => none) = some n := h
      show ∃ m', (match kidsL (N.lst b ns) with | some ds => some (N.f (.tup ds)) | none => none) = some m' ∧ _
      rw [kids_er] at h
      refine ⟨n, h, ?_⟩
      split at h
      · cases h
        rfl
      · cases h
    | tup _ _ => cases h
    | dic _ _ => cases h
    | obj _ _ _ _ => cases h⟩
instance : EqvA gdict := ⟨fun {a n} h => by
  match a, h with
  | [m], h =>
    have h : (match kidsL m.er with | some ds => (prs ds).map fun kvs => N.f (.dic (mergeD [] kvs)) | none => none) = some n := h
    show ∃ m', (match kidsL m with | some ds => (prs ds).map fun kvs => N.f (.dic (mergeD [] kvs)) | none => none) = some m' ∧ _
    rw [kids_er] at h
    refine ⟨n, h, ?_⟩
    split at h
    · rename_i ds h1
      cases q : prs ds with
      | none =>
        rw [q] at h
        cases h
      | some kvs =>
        rw [q] at h
        cases h
        rfl
    · cases h⟩
instance : EqvA gsortedS := ⟨fun {a n} h => by
  match a, h with
  | [m], h =>
    have h : (match kidsL m.er with | some ds => (match strsD ds with | some l => if l.length < 64 then some (N.f (dN (sortS l))) else none | none => none) | none => none) = some n := h
    show ∃ m', (match kidsL m with | some ds => (match strsD ds with | some l => if l.length < 64 then some (N.f (dN (sortS l))) else none | none => none) | none => none) = some m' ∧ _
    rw [kids_er] at h
    refine ⟨n, h, ?_⟩
    split at h
    · split at h
      · split at h
        · cases h
          rfl
        · cases h
      · cases h
    · cases h⟩
instance : EqvA gsortedI := ⟨fun {a n} h => by
  match a, h with
  | [m], h =>
    have h : (match kidsL m.er with | some ds => (match intsD ds with | some l => if l.length < 64 then some (N.f (.lst ((sortI l).map D.int))) else none | none => none) | none => none) = some n := h
    show ∃ m', (match kidsL m with | some ds => (match intsD ds with | some l => if l.length < 64 then some (N.f (.lst ((sortI l).map D.int))) else none | none => none) | none => none) = some m' ∧ _
    rw [kids_er] at h
    refine ⟨n, h, ?_⟩
    split at h
    · split at h
      · split at h
        · cases h
          rfl
        · cases h
      · cases h
    · cases h⟩
/-! what is walked -/
instance {g : G} {g_ : G} [hg : EqvG g g_] : EqvI (giL g) (giL g_) := ⟨fun {e f c} r h => by
  unfold giL at h ⊢
  split at h
  · rename_i n hn
    obtain ⟨m, e1, rfl⟩ := hg.run r hn
    rw [e1]
    rw [kids_er] at h
    exact h
  · cases h⟩
instance {g : G} {g_ : G} [hg : EqvG g g_] : EqvI (giE g) (giE g_) := ⟨fun {e f c} r h => by
  unfold giE at h ⊢
  split at h
  · rename_i n hn
    obtain ⟨m, e1, rfl⟩ := hg.run r hn
    rw [e1]
    rw [kids_er] at h
    exact h
  · cases h⟩
instance {g : G} {g_ : G} [hg : EqvG g g_] : EqvI (giT g) (giT g_) := ⟨fun {e f c} r h => by
  unfold giT at h ⊢
  split at h
  · rename_i n hn
    rw [hg.f r hn]
    exact h
  · cases h⟩
instance {g : G} {g_ : G} [hg : EqvG g g_] : EqvI (giR g) (giR g_) := ⟨fun {e f c} r h => by
  unfold giR at h ⊢
  split at h
  · rename_i n hn
    rw [hg.f r hn]
    exact h
  · cases h⟩
instance {g : G} {g_ : G} [hg : EqvG g g_] : EqvI (giS g) (giS g_) := ⟨fun {e f c} r h => by
  unfold giS at h ⊢
  split at h
  · rename_i n hn
    rw [hg.f r hn]
    exact h
  · cases h⟩
instance {g g' : G} {g_ g'_ : G} [hg : EqvG g g_] [hg' : EqvG g' g'_] : EqvI (giR2 g g') (giR2 g_ g'_) := ⟨fun {e f c} r h => by
  unfold giR2 at h ⊢
  split at h
  · rename_i n m hn hm
    rw [hg.f r hn, hg'.f r hm]
    exact h
  · cases h⟩
/-! targets -/
class EqvT (l : outParam (List Nat)) (st : Tg) : Prop where
  run : ∀ {d : D} {e f f1 : Env}, ErE e f → st d f = some f1 → ∃ e1, st d e = some e1 ∧ ErE e1 f1 ∧ e1.length = e.length ∧ ∀ j, j ∉ l → e1[j]? = e[j]?
class EqvTs (l : outParam (List Nat)) (st : Tgs) : Prop where
  run : ∀ {d : List D} {e f f1 : Env}, ErE e f → st d f = some f1 → ∃ e1, st d e = some e1 ∧ ErE e1 f1 ∧ e1.length = e.length ∧ ∀ j, j ∉ l → e1[j]? = e[j]?
instance {i : Nat} : EqvT [i] (stN i) := ⟨fun {d e f f1} r h => by
  unfold stN at h ⊢
  split at h
  · rename_i hi
    cases h
    rw [← r.len] at hi
    rw [if_pos hi]
    refine ⟨_, rfl, r.set i (.som (.fz d)), List.length_set, fun j hj => ?_⟩
    exact List.getElem?_set_ne fun z => hj (by rw [z]; exact List.mem_cons_self)
  · cases h⟩
instance : EqvTs [] stNil := ⟨fun {d e f f1} r h => by
  unfold stNil at h ⊢
  split at h
  · cases h
    exact ⟨_, rfl, r, rfl, fun _ _ => rfl⟩
  · cases h⟩
instance {l m : List Nat} {a : Tg} {b : Tgs} [ha : EqvT l a] [hb : EqvTs m b] : EqvTs (l ++ m) (stCons a b) := ⟨fun {d e f f1} r h => by
  unfold stCons at h ⊢
  split at h
  · split at h
    · rename_i h1
      obtain ⟨e1, q1, r1, l1, k1⟩ := ha.run r h1
      obtain ⟨e2, q2, r2, l2, k2⟩ := hb.run r1 h
      refine ⟨e2, ?_, r2, l2.trans l1, fun j hj => ?_⟩
      · show (match a _ e with | some env' => b _ env' | none => none) = _
        rw [q1]
        exact q2
      · rw [k2 j fun z => hj (List.mem_append_right _ z), k1 j fun z => hj (List.mem_append_left _ z)]
    · cases h
  · cases h⟩
instance {l : List Nat} {n : Nat} {b : Tgs} [hb : EqvTs l b] : EqvT l (stT n b) := ⟨fun {d e f f1} r h => by
  unfold stT at h ⊢
  split at h
  · split at h
    · rename_i hl
      obtain ⟨e1, q1, r1, l1, k1⟩ := hb.run r h
      exact ⟨e1, by show (if _ then _ else _) = _; rw [if_pos hl]; exact q1, r1, l1, k1⟩
    · cases h
  · cases h⟩
/-! comprehensions without effects -/
theorem eqv_comps {st : Tg} {c c_ : B} {g g_ : G} {l : List Nat} [hs : EqvT l st] [hc : EqvB c c_] [hg : EqvG g g_] {e f : Env} (r : ErE e f) : ∀ {ds rs : List D}, comps st c_ g_ f ds = some rs → comps st c g e ds = some rs
  | [], rs, h => h
  | d :: ds, rs, h => by
    unfold comps at h ⊢
    split at h
    · cases h
    · rename_i h1
      obtain ⟨e1, q1, r1, _, _⟩ := hs.run r h1
      rw [q1]
      split at h
      · rename_i h2
        show (match c e1 with | some true => _ | some false => _ | none => _) = _
        rw [hc.run r1 h2]
        split at h
        · rename_i y r' h3 h4
          show (match g e1, comps st c g e ds with | some (.f y), some r => _ | _, _ => _) = _
          rw [hg.f r1 h3, eqv_comps r h4]
          exact h
        · cases h
      · rename_i h2
        show (match c e1 with | some true => _ | some false => _ | none => _) = _
        rw [hc.run r1 h2]
        exact eqv_comps r h
      · cases h
instance {gi : GI} {gi_ : GI} {vs l : List Nat} {st : Tg} {c : B} {c_ : B} {g : G} {g_ : G} [hi : EqvI gi gi_] [hs : EqvT l st] [hc : EqvB c c_] [hg : EqvG g g_] : EqvG (gLc gi vs st c g) (gLc gi_ vs st c_ g_) := ⟨fun {e f n} r h => by
  unfold gLc at h ⊢
  split at h
  · rename_i ds h1
    rw [hi.run r h1]
    split at h
    · rename_i hl
      show ∃ m, (if ds.length ≤ sizeLine then _ else none) = some m ∧ _
      rw [if_pos hl]
      cases q : comps st c_ g_ (wipeE f vs) ds with
      | none =>
        rw [q] at h
        cases h
      | some rs =>
        rw [q] at h
        rw [eqv_comps (r.wipe2 vs) q]
        cases h
        exact ⟨_, rfl, rfl⟩
    · cases h
  · cases h⟩
end Pu

/-! ## Pv: outcomes by trees of draws; expressions with effects -/
namespace Pu
open PySem PySem.Spec PyProof.Rows L2 Ed
variable [XI : Xi]
inductive T (α : Type) where
  | done (a : α)
  | bad
  | draw (m : Int) (k : Int → T α)
def T.bind {α β : Type} : T α → (α → T β) → T β
  | .done a, f => f a
  | .bad, _ => .bad
  | .draw m k, f => .draw m fun r => (k r).bind f
def T.All {α : Type} (P : α → Prop) : T α → Prop
  | .done a => P a
  | .bad => False
  | .draw m k => 0 < m ∧ m < 2 ^ 120 ∧ ∀ r, 0 ≤ r → r < m → (k r).All P
theorem T.all_bind {α β : Type} {P : β → Prop} {f : α → T β} : ∀ {t : T α}, (t.bind f).All P ↔ t.All fun a => (f a).All P
  | .done a => Iff.rfl
  | .bad => Iff.rfl
  | .draw m k => by
    constructor
    · intro h
      exact ⟨h.1, h.2.1, fun r h1 h2 => T.all_bind.mp (h.2.2 r h1 h2)⟩
    · intro h
      exact ⟨h.1, h.2.1, fun r h1 h2 => T.all_bind.mpr (h.2.2 r h1 h2)⟩
theorem T.all_mono {α : Type} {P Q : α → Prop} (h : ∀ a, P a → Q a) : ∀ {t : T α}, t.All P → t.All Q
  | .done a, z => h a z
  | .bad, z => z
  | .draw m k, z => ⟨z.1, z.2.1, fun r h1 h2 => T.all_mono h (z.2.2 r h1 h2)⟩
theorem T.all_if {α : Type} {P : α → Prop} {c : Prop} [Decidable c] {t : T α} (h : (if c then t else .bad).All P) : c ∧ t.All P := by
  by_cases hc : c
  · rw [if_pos hc] at h
    exact ⟨hc, h⟩
  · rw [if_neg hc] at h
    exact h.elim
def oT {α β : Type} (o : Option β) (f : β → T α) : T α := match o with
  | some x => f x
  | none => .bad
theorem T.all_opt {α β : Type} {P : α → Prop} {o : Option β} {f : β → T α} (h : (oT o f).All P) : ∃ x, o = some x ∧ (f x).All P := by
  cases o with
  | none => exact h.elim
  | some x => exact ⟨x, rfl, h⟩
theorem T.bind_assoc {α β γ : Type} {f : α → T β} {g : β → T γ} : ∀ {t : T α}, (t.bind f).bind g = t.bind fun a => (f a).bind g
  | .done a => rfl
  | .bad => rfl
  | .draw m k => congrArg (T.draw m) (funext fun r => T.bind_assoc)
inductive O (α : Type) where
  | ok (a : α) (env : Env)
  | ex (C : Str) (fs : List (Str × D)) (env : Env)
inductive SO where
  | nx (env : Env)
  | rt (r : Sl) (env : Env)
  | bk (env : Env)
  | ct (env : Env)
  | ex (C : Str) (fs : List (Str × D)) (env : Env)
inductive FO where
  | rt (r : Sl) (ss : List Sl)
  | ex (C : Str) (fs : List (Str × D)) (ss : List Sl)
abbrev VX := Env → T (O Sl)
abbrev VT := Env → T (O Bool)
abbrev VI := Env → T (O (List D))
abbrev VA := Env → T (O (List PArg))
abbrev VS := Env → T SO
abbrev VF := List Sl → T FO
/-- then -/
def bO {α β : Type} (t : T (O α)) (k : α → Env → T (O β)) : T (O β) := t.bind fun o => match o with
  | .ok a e => k a e
  | .ex C fs e => .done (.ex C fs e)
def bS {α : Type} (t : T (O α)) (k : α → Env → T SO) : T SO := t.bind fun o => match o with
  | .ok a e => k a e
  | .ex C fs e => .done (.ex C fs e)
/-- what is given, frozen -/
def vD {β : Type} (t : T (O Sl)) (k : D → Env → T (O β)) : T (O β) := bO t fun r e => oT r.fzD fun d => k d e
def vDS (t : T (O Sl)) (k : D → Env → T SO) : T SO := bS t fun r e => oT r.fzD fun d => k d e
/-! ### what is kept of the slots: l may have changed, m may lie elsewhere -/
def Sl.pin : Sl → Option (Bool × V)
  | .fz _ => none
  | .ow n => n.ad.map fun a => (true, .ref a)
  | .cu v _ => some (false, v)
  | .xc _ _ _ _ _ => none
def pinO : Option (Option Sl) → Option (Bool × V)
  | some (some s) => s.pin
  | _ => none
structure Kp (l m : List Nat) (e e' : Env) : Prop where
  len : e'.length = e.length
  eq : ∀ j, j ∉ l → e'[j]? = e[j]?
  pin : ∀ j, j ∉ m → pinO e'[j]? = pinO e[j]?
theorem Kp.refl {l m : List Nat} {e : Env} : Kp l m e e := ⟨rfl, fun _ _ => rfl, fun _ _ => rfl⟩
theorem Kp.trans {l m l' m' : List Nat} {e e1 e2 : Env} (h : Kp l m e e1) (h' : Kp l' m' e1 e2) : Kp (l ++ l') (m ++ m') e e2 :=
  ⟨h'.len.trans h.len, fun j hj => (h'.eq j fun z => hj (List.mem_append_right _ z)).trans (h.eq j fun z => hj (List.mem_append_left _ z)),
    fun j hj => (h'.pin j fun z => hj (List.mem_append_right _ z)).trans (h.pin j fun z => hj (List.mem_append_left _ z))⟩
theorem Kp.tr {l m : List Nat} {e e1 e2 : Env} (h : Kp l m e e1) (h' : Kp l m e1 e2) : Kp l m e e2 :=
  ⟨h'.len.trans h.len, fun j hj => (h'.eq j hj).trans (h.eq j hj), fun j hj => (h'.pin j hj).trans (h.pin j hj)⟩
theorem Kp.mono {l m l' m' : List Nat} {e e' : Env} (h : Kp l m e e') (hl : ∀ j ∈ l, j ∈ l') (hm : ∀ j ∈ m, j ∈ m') : Kp l' m' e e' :=
  ⟨h.len, fun j hj => h.eq j fun z => hj (hl j z), fun j hj => h.pin j fun z => hj (hm j z)⟩
theorem Kp.left {l m l' m' : List Nat} {e e' : Env} (h : Kp l m e e') : Kp (l ++ l') (m ++ m') e e' := h.mono (fun _ => List.mem_append_left _) fun _ => List.mem_append_left _
theorem Kp.right {l m l' m' : List Nat} {e e' : Env} (h : Kp l m e e') : Kp (l' ++ l) (m' ++ m) e e' := h.mono (fun _ => List.mem_append_right _) fun _ => List.mem_append_right _
theorem Kp.none {e e' : Env} (h : Kp [] [] e e') : e' = e := List.ext_getElem? fun j => h.eq j (fun z => (nomatch z))
theorem kp_set {e : Env} {i : Nat} {o : Option Sl} (hp : pinO (some o) = pinO e[i]?) : Kp [i] [] e (e.set i o) :=
  ⟨List.length_set, fun j hj => List.getElem?_set_ne fun z => hj (by rw [z]; exact List.mem_cons_self), fun j _ => by
    by_cases h : i = j
    · subst h
      rw [List.getElem?_set]
      simp only [if_true]
      split
      · exact hp
      · rename_i hl
        rw [List.getElem?_eq_none (Nat.le_of_not_lt hl)]
    · rw [List.getElem?_set_ne h]⟩
theorem kp_put {e : Env} {i : Nat} {o : Option Sl} : Kp [i] [i] e (e.set i o) :=
  ⟨List.length_set, fun j hj => List.getElem?_set_ne fun z => hj (by rw [z]; exact List.mem_cons_self), fun j hj => by
    rw [List.getElem?_set_ne fun z => hj (by rw [z]; exact List.mem_cons_self)]⟩
theorem kp_ow {e : Env} {i : Nat} {n n' : N} (h : e[i]? = some (some (.ow n))) (ha : n'.ad = n.ad) : Kp [i] [] e (e.set i (some (.ow n'))) := kp_set (by
  rw [h]
  show n'.ad.map _ = n.ad.map _
  rw [ha])
/-! ### readings and outcomes -/
def PostX (l m : List Nat) (env : Env) (q : Sl → Env → Prop) (w : WP) : O Sl → Prop
  | .ok r e => ∀ r' e', ErS r' r → ErE e' e → Kp l m env e' → q r' e'
  | .ex C fs e => ∀ e', ErE e' e → Kp l m env e' → w C fs e'
def PostV {α : Type} (l m : List Nat) (env : Env) (q : α → Env → Prop) (w : WP) : O α → Prop
  | .ok r e => ∀ e', ErE e' e → Kp l m env e' → q r e'
  | .ex C fs e => ∀ e', ErE e' e → Kp l m env e' → w C fs e'
def PostS (l m : List Nat) (env : Env) (p : EP') : SO → Prop
  | .nx e => ∀ e', ErE e' e → Kp l m env e' → p.nx e'
  | .rt r e => ∀ r' e', ErS r' r → ErE e' e → Kp l m env e' → p.rt r' e'
  | .bk e => ∀ e', ErE e' e → Kp l m env e' → p.bk e'
  | .ct e => ∀ e', ErE e' e → Kp l m env e' → p.ct e'
  | .ex C fs e => ∀ e', ErE e' e → Kp l m env e' → p.ex C fs e'
class SimX (f : FX) (l m : outParam (List Nat)) (g : outParam VX) : Prop where
  run : ∀ {env e : Env} {q : Sl → Env → Prop} {w : WP}, ErE env e → (g e).All (PostX l m env q w) → f env q w
class SimT (f : FT) (l m : outParam (List Nat)) (g : outParam VT) : Prop where
  run : ∀ {env e : Env} {q : Bool → Env → Prop} {w : WP}, ErE env e → (g e).All (PostV l m env q w) → f env q w
class SimI (f : FI) (l m : outParam (List Nat)) (g : outParam VI) : Prop where
  run : ∀ {env e : Env} {q : List D → Env → Prop} {w : WP}, ErE env e → (g e).All (PostV l m env q w) → f env q w
def kinds : List PArg → List (Option Nat)
  | [] => []
  | .v _ :: as => none :: kinds as
  | .b i :: as => some i :: kinds as
def PostA (bs : List (Option Nat)) (l m : List Nat) (env : Env) (q : List PArg → Env → Prop) (w : WP) : O (List PArg) → Prop
  | .ok r e => ∀ e', ErE e' e → Kp l m env e' → kinds r = bs → q r e'
  | .ex C fs e => ∀ e', ErE e' e → Kp l m env e' → w C fs e'
class SimA (f : FA) (bs : outParam (List (Option Nat))) (l m : outParam (List Nat)) (g : outParam VA) : Prop where
  run : ∀ {env e : Env} {q : List PArg → Env → Prop} {w : WP}, ErE env e → (g e).All (PostA bs l m env q w) → f env q w
class SimS (f : FSt) (l m : outParam (List Nat)) (g : outParam VS) : Prop where
  run : ∀ {env e : Env} {p : EP'}, ErE env e → (g e).All (PostS l m env p) → f env p
/-- first fx, then k -/
theorem simX_bind {β : Type} {fx : FX} {l m : List Nat} {gx : VX} [h : SimX fx l m gx] {env e : Env} {k : Sl → Env → T (O β)} {P : O β → Prop} {R : Sl → Env → Prop} {w : WP} (r : ErE env e) (ha : (bO (gx e) k).All P)
    (hk : ∀ s s' e1 e1', ErS s' s → ErE e1' e1 → Kp l m env e1' → (k s e1).All P → R s' e1') (hw : ∀ C fs e1, P (.ex C fs e1) → ∀ e1', ErE e1' e1 → Kp l m env e1' → w C fs e1') : fx env R w := by
  refine h.run r (T.all_mono (fun o ho => ?_) (T.all_bind.mp ha))
  cases o with
  | ok s e1 => exact fun s' e1' a b c => hk s s' e1 e1' a b c ho
  | ex C fs e1 => exact hw C fs e1 ho
theorem simX_bindS {fx : FX} {l m : List Nat} {gx : VX} [h : SimX fx l m gx] {env e : Env} {k : Sl → Env → T SO} {P : SO → Prop} {R : Sl → Env → Prop} {w : WP} (r : ErE env e) (ha : (bS (gx e) k).All P)
    (hk : ∀ s s' e1 e1', ErS s' s → ErE e1' e1 → Kp l m env e1' → (k s e1).All P → R s' e1') (hw : ∀ C fs e1, P (.ex C fs e1) → ∀ e1', ErE e1' e1 → Kp l m env e1' → w C fs e1') : fx env R w := by
  refine h.run r (T.all_mono (fun o ho => ?_) (T.all_bind.mp ha))
  cases o with
  | ok s e1 => exact fun s' e1' a b c => hk s s' e1 e1' a b c ho
  | ex C fs e1 => exact hw C fs e1 ho
theorem simX_d {β : Type} {fx : FX} {l m : List Nat} {gx : VX} [h : SimX fx l m gx] {env e : Env} {k : D → Env → T (O β)} {P : O β → Prop} {R : D → Env → Prop} {w : WP} (r : ErE env e) (ha : (vD (gx e) k).All P)
    (hk : ∀ d e1 e1', ErE e1' e1 → Kp l m env e1' → (k d e1).All P → R d e1') (hw : ∀ C fs e1, P (.ex C fs e1) → ∀ e1', ErE e1' e1 → Kp l m env e1' → w C fs e1') : xD fx env w R :=
  simX_bind r ha (fun s s' e1 e1' a b c z => by
    obtain ⟨d, hd, z⟩ := T.all_opt z
    exact ⟨d, a.fzD hd, hk d e1 e1' b c z⟩) hw
theorem simX_dS {fx : FX} {l m : List Nat} {gx : VX} [h : SimX fx l m gx] {env e : Env} {k : D → Env → T SO} {P : SO → Prop} {R : D → Env → Prop} {w : WP} (r : ErE env e) (ha : (vDS (gx e) k).All P)
    (hk : ∀ d e1 e1', ErE e1' e1 → Kp l m env e1' → (k d e1).All P → R d e1') (hw : ∀ C fs e1, P (.ex C fs e1) → ∀ e1', ErE e1' e1 → Kp l m env e1' → w C fs e1') : xD fx env w R :=
  simX_bindS r ha (fun s s' e1 e1' a b c z => by
    obtain ⟨d, hd, z⟩ := T.all_opt z
    exact ⟨d, a.fzD hd, hk d e1 e1' b c z⟩) hw
/-- an error of a part is an error of the whole -/
theorem exX {l m l' m' : List Nat} {env : Env} {q : Sl → Env → Prop} {w : WP} {C : Str} {fs : List (Str × D)} {e1 : Env} (hl : ∀ j ∈ l, j ∈ l') (hm : ∀ j ∈ m, j ∈ m') (h : PostX l' m' env q w (.ex C fs e1)) : ∀ e1', ErE e1' e1 → Kp l m env e1' → w C fs e1' := fun e1' a b => h e1' a (b.mono hl hm)
section
variable {fa fb : FX} {ga gb : VX} {la ma lb mb : List Nat}
def vxP (g : G) : VX := fun env => match g env with
  | some (.f d) => .done (.ok (.fz d) env)
  | _ => .bad
def vxN (g : G) : VX := fun env => match g env with
  | some (.f d) => .done (.ok (.ow (ownD 0 d)) env)
  | _ => .bad
instance {g g_ : G} [hg : EqvG g g_] : SimX (xP g) [] [] (vxP g_) := ⟨fun {env e q w} r h => by
  unfold vxP at h
  split at h
  · rename_i d hd
    exact ⟨d, hg.f r hd, h _ _ (.fz d) r .refl⟩
  · exact h.elim⟩
instance {g g_ : G} [hg : EqvG g g_] : SimX (xN g) [] [] (vxN g_) := ⟨fun {env e q w} r h => by
  unfold vxN at h
  split at h
  · rename_i d hd
    exact ⟨d, hg.f r hd, fun a => h _ _ (by rw [← ownD_er a d]; exact .ow _) r .refl⟩
  · exact h.elim⟩
/-- what an operator gives -/
def vO (o : Option N) (e : Env) : T (O Sl) := match o with
  | some (.f d) => .done (.ok (.fz d) e)
  | _ => .bad
theorem all_vO {o : Option N} {e : Env} {P : O Sl → Prop} (h : (vO o e).All P) : ∃ d, o = some (.f d) ∧ P (.ok (.fz d) e) := by
  unfold vO at h
  split at h
  · exact ⟨_, rfl, h⟩
  · exact h.elim
def vxOp (o : N → N → Option N) (a b : VX) : VX := fun env => vD (a env) fun d1 e1 => vD (b e1) fun d2 e2 => vO (o (.f d1) (.f d2)) e2
instance {o : N → N → Option N} [ha : SimX fa la ma ga] [hb : SimX fb lb mb gb] : SimX (xOp o fa fb) (la ++ lb) (ma ++ mb) (vxOp o ga gb) := ⟨fun {env e q w} r h =>
  simX_d r h (fun d1 e1 e1' a b z => simX_d a z (fun d2 e2 e2' a2 b2 z2 => by
    obtain ⟨d, hd, z3⟩ := all_vO z2
    exact ⟨d, hd, z3 _ _ (.fz d) a2 (b.trans b2)⟩) fun C fs e2 hx e2' a2 b2 => hx e2' a2 (b.trans b2)) fun C fs e1 hx e1' a b => hx e1' a b.left⟩
def vxUn (o : N → Option N) (a : VX) : VX := fun env => vD (a env) fun d1 e1 => vO (o (.f d1)) e1
instance {o : N → Option N} [ha : SimX fa la ma ga] : SimX (xUn o fa) la ma (vxUn o ga) := ⟨fun {env e q w} r h =>
  simX_d r h (fun d1 e1 e1' a b z => by
    obtain ⟨d, hd, z3⟩ := all_vO z
    exact ⟨d, hd, z3 _ _ (.fz d) a b⟩) fun C fs e1 hx e1' a b => hx e1' a b⟩
def vxOpV (o : N → N → Option N) (i : Nat) (b : VX) : VX := fun env => oT (env.node i) fun _ => vD (b env) fun d2 e2 => oT (e2.node i) fun n => vO (o n (.f d2)) e2
instance {o : N → N → Option N} {i : Nat} [ho : EqvO o] [hb : SimX fb lb mb gb] : SimX (xOpV o i fb) lb mb (vxOpV o i gb) := ⟨fun {env e q w} r h => by
  obtain ⟨n, hn, h⟩ := T.all_opt h
  obtain ⟨n', hn', _⟩ := r.node hn
  refine ⟨⟨n', hn'⟩, simX_d r h (fun d2 e2 e2' a b z => ?_) fun C fs e1 hx e1' a b => hx e1' a b⟩
  obtain ⟨n2, hn2, z⟩ := T.all_opt z
  obtain ⟨m2, hm2, rfl⟩ := a.node hn2
  obtain ⟨d, hd, z3⟩ := all_vO z
  obtain ⟨m, e1, e2⟩ := ho.run (a := m2) (b := .f d2) hd
  rw [er_f e2] at e1
  exact ⟨m2, d, hm2, e1, z3 _ _ (.fz d) a b⟩⟩
/-! methods that change a list in a slot -/
def isOlB (env : Env) (i : Nat) : Option (List D) := match env[i]? with
  | some (some (.ow (.lst _ ns))) => kidsL.fds ns
  | _ => none
theorem isOlB_inv {env e : Env} {i : Nat} {ds : List D} (r : ErE env e) (h : isOlB e i = some ds) : ∃ v, env[i]? = some (some (.ow (ol v ds))) := by
  unfold isOlB at h
  split at h
  · rename_i a ns hn
    obtain ⟨s, hs, es⟩ := r.get hn
    obtain ⟨m, rfl, hm⟩ := es.ow_inv
    rw [fds_inv h] at hm
    obtain ⟨b, rfl⟩ := er_ol (a := a) hm
    exact ⟨b, hs⟩
  · cases h
theorem isOlB_ol {env : Env} {i : Nat} {a : Addr} {ds : List D} (h : env[i]? = some (some (.ow (ol a ds)))) : isOlB env i = some ds := by
  unfold isOlB
  rw [h]
  exact kids_ol a ds
def setOl (env : Env) (i : Nat) (ds : List D) : Env := env.set i (some (.ow (ol 0 ds)))
theorem er_setOl {env e : Env} {i : Nat} {v : Addr} {ds : List D} (r : ErE env e) : ErE (env.set i (some (.ow (ol v ds)))) (setOl e i ds) := r.set i (.som (by rw [← ol_er v ds]; exact .ow _))
def vxApp (i : Nat) (a : VX) : VX := fun env => oT (isOlB env i) fun _ => vD (a env) fun d e1 => oT (isOlB e1 i) fun ds => if ds.length < sizeLine then .done (.ok (.fz .non) (setOl e1 i (ds ++ [d]))) else .bad
instance {i : Nat} [ha : SimX fa la ma ga] : SimX (xApp i fa) (la ++ [i]) (ma ++ []) (vxApp i ga) := ⟨fun {env e q w} r h => by
  obtain ⟨n, hn, h⟩ := T.all_opt h
  obtain ⟨v, hv⟩ := isOlB_inv r hn
  refine ⟨⟨v, n, hv⟩, simX_d r h (fun d e1 e1' a b z => ?_) fun C fs e1 hx e1' a b => hx e1' a b.left⟩
  obtain ⟨ds, hd, z⟩ := T.all_opt z
  obtain ⟨u, hu⟩ := isOlB_inv a hd
  obtain ⟨hl, z⟩ := T.all_if z
  exact ⟨u, ds, hu, hl, z _ _ (.fz _) (er_setOl a) (b.trans (kp_ow hu rfl))⟩⟩
def natOf : D → Option Nat
  | .int (.ofNat k) => some k
  | _ => none
theorem natOf_inv {d : D} {k : Nat} (h : natOf d = some k) : d = .int (Int.ofNat k) := by
  unfold natOf at h
  split at h
  · cases h
    rfl
  · cases h
def vxPopA (i : Nat) (a : VX) : VX := fun env => oT (isOlB env i) fun _ => vD (a env) fun d e1 => oT (isOlB e1 i) fun ds => oT (natOf d) fun k => if k < 2 ^ 63 then oT ds[k]? fun y => .done (.ok (.fz y) (setOl e1 i (ds.eraseIdx k))) else .bad
instance {i : Nat} [ha : SimX fa la ma ga] : SimX (xPopA i fa) (la ++ [i]) (ma ++ []) (vxPopA i ga) := ⟨fun {env e q w} r h => by
  obtain ⟨n, hn, h⟩ := T.all_opt h
  obtain ⟨v, hv⟩ := isOlB_inv r hn
  refine ⟨⟨v, n, hv⟩, simX_d r h (fun d e1 e1' a b z => ?_) fun C fs e1 hx e1' a b => hx e1' a b.left⟩
  obtain ⟨ds, hd, z⟩ := T.all_opt z
  obtain ⟨u, hu⟩ := isOlB_inv a hd
  obtain ⟨k, hk, z⟩ := T.all_opt z
  obtain ⟨hl, z⟩ := T.all_if z
  obtain ⟨y, hy, z⟩ := T.all_opt z
  exact ⟨u, ds, k, y, hu, natOf_inv hk, hl, hy, z _ _ (.fz _) (er_setOl a) (b.trans (kp_ow hu rfl))⟩⟩
def vxPop (i : Nat) : VX := fun env => oT (isOlB env i) fun ds => oT ds.getLast? fun y => .done (.ok (.fz y) (setOl env i ds.dropLast))
instance {i : Nat} : SimX (xPop i) [i] [] (vxPop i) := ⟨fun {env e q w} r h => by
  obtain ⟨ds, hn, h⟩ := T.all_opt h
  obtain ⟨v, hv⟩ := isOlB_inv r hn
  obtain ⟨y, hy, h⟩ := T.all_opt h
  obtain ⟨ys, rfl⟩ := List.getLast?_eq_some_iff.mp hy
  rw [List.dropLast_concat] at h
  exact ⟨v, ys, y, hv, h _ _ (.fz _) (er_setOl r) (kp_ow hv rfl)⟩⟩
def vxIns (i : Nat) (a b : VX) : VX := fun env => oT (isOlB env i) fun _ => vD (a env) fun d1 e1 => vD (b e1) fun d2 e2 => oT (isOlB e2 i) fun ds => oT (natOf d1) fun k => if k ≤ 1000 ∧ ds.length < sizeLine then .done (.ok (.fz .non) (setOl e2 i (ds.take k ++ [d2] ++ ds.drop k))) else .bad
instance {i : Nat} [ha : SimX fa la ma ga] [hb : SimX fb lb mb gb] : SimX (xIns i fa fb) (la ++ lb ++ [i]) (ma ++ mb ++ []) (vxIns i ga gb) := ⟨fun {env e q w} r h => by
  obtain ⟨n, hn, h⟩ := T.all_opt h
  obtain ⟨v, hv⟩ := isOlB_inv r hn
  refine ⟨⟨v, n, hv⟩, simX_d r h (fun d1 e1 e1' a b z => simX_d a z (fun d2 e2 e2' a2 b2 z2 => ?_) fun C fs e2 hx e2' a2 b2 => hx e2' a2 (b.trans b2).left) fun C fs e1 hx e1' a b => hx e1' a b.left.left⟩
  obtain ⟨ds, hd, z⟩ := T.all_opt z2
  obtain ⟨u, hu⟩ := isOlB_inv a2 hd
  obtain ⟨k, hk, z⟩ := T.all_opt z
  obtain ⟨hl, z⟩ := T.all_if z
  exact ⟨u, ds, k, hu, natOf_inv hk, hl.1, hl.2, z _ _ (.fz _) (er_setOl a2) ((b.trans b2).trans (kp_ow hu rfl))⟩⟩
def vxDnew : VX := fun env => .done (.ok (.ow (od 0 [])) env)
instance : SimX xDnew [] [] vxDnew := ⟨fun {env e q w} r h v => h _ _ (by rw [← od_er v]; exact .ow _) r .refl⟩
/-- a slot is given away -/
def xMv (i : Nat) : FX := fun env q _ => ∃ n, env[i]? = some (some (.ow n)) ∧ q (.ow n) (env.set i none)
def vxMv (i : Nat) : VX := fun env => match env[i]? with
  | some (some (.ow n)) => .done (.ok (.ow n) (env.set i none))
  | _ => .bad
instance {i : Nat} : SimX (xMv i) [i] [i] (vxMv i) := ⟨fun {env e q w} r h => by
  unfold vxMv at h
  split at h
  · rename_i n hn
    obtain ⟨s, hs, es⟩ := r.get hn
    obtain ⟨m, rfl, hm⟩ := es.ow_inv
    exact ⟨m, hs, h _ _ (hm ▸ .ow m) (r.set i (.non _)) kp_put⟩
  · exact h.elim⟩
/-! tests -/
variable {ta tb : FT} {va vb : VT}
def vtP (b : B) : VT := fun env => oT (b env) fun c => .done (.ok c env)
instance {b b_ : B} [hb : EqvB b b_] : SimT (tP b) [] [] (vtP b_) := ⟨fun {env e q w} r h => by
  obtain ⟨c, hc, h⟩ := T.all_opt h
  exact ⟨c, hb.run r hc, h _ r .refl⟩⟩
def vtX (a : VX) : VT := fun env => vD (a env) fun d e1 => oT (truD d) fun c => .done (.ok c e1)
instance [ha : SimX fa la ma ga] : SimT (tX fa) la ma (vtX ga) := ⟨fun {env e q w} r h =>
  simX_d r h (fun d e1 e1' a b z => by
    obtain ⟨c, hc, z⟩ := T.all_opt z
    exact ⟨c, hc, z _ a b⟩) fun C fs e1 hx e1' a b => hx e1' a b⟩
def vtXb (a : VX) : VT := fun env => vD (a env) fun d e1 => match d with
  | .bl c => .done (.ok c e1)
  | _ => .bad
instance [ha : SimX fa la ma ga] : SimT (tXb fa) la ma (vtXb ga) := ⟨fun {env e q w} r h =>
  simX_d r h (fun d e1 e1' a b z => by
    split at z
    · exact ⟨_, rfl, z _ a b⟩
    · exact z.elim) fun C fs e1 hx e1' a b => hx e1' a b⟩
theorem simT_bind {β : Type} {l m : List Nat} [h : SimT ta l m va] {env e : Env} {k : Bool → Env → T (O β)} {P : O β → Prop} {R : Bool → Env → Prop} {w : WP} (r : ErE env e) (ha : (bO (va e) k).All P)
    (hk : ∀ c e1 e1', ErE e1' e1 → Kp l m env e1' → (k c e1).All P → R c e1') (hw : ∀ C fs e1, P (.ex C fs e1) → ∀ e1', ErE e1' e1 → Kp l m env e1' → w C fs e1') : ta env R w := by
  refine h.run r (T.all_mono (fun o ho => ?_) (T.all_bind.mp ha))
  cases o with
  | ok s e1 => exact fun e1' b c => hk s e1 e1' b c ho
  | ex C fs e1 => exact hw C fs e1 ho
theorem simT_bindS {l m : List Nat} [h : SimT ta l m va] {env e : Env} {k : Bool → Env → T SO} {P : SO → Prop} {R : Bool → Env → Prop} {w : WP} (r : ErE env e) (ha : (bS (va e) k).All P)
    (hk : ∀ c e1 e1', ErE e1' e1 → Kp l m env e1' → (k c e1).All P → R c e1') (hw : ∀ C fs e1, P (.ex C fs e1) → ∀ e1', ErE e1' e1 → Kp l m env e1' → w C fs e1') : ta env R w := by
  refine h.run r (T.all_mono (fun o ho => ?_) (T.all_bind.mp ha))
  cases o with
  | ok s e1 => exact fun e1' b c => hk s e1 e1' b c ho
  | ex C fs e1 => exact hw C fs e1 ho
def vtAndX (a b : VT) : VT := fun env => bO (a env) fun c e1 => if c = true then b e1 else .done (.ok false e1)
def vtOrX (a b : VT) : VT := fun env => bO (a env) fun c e1 => if c = true then .done (.ok true e1) else b e1
def vtNotX (a : VT) : VT := fun env => bO (a env) fun c e1 => .done (.ok (!c) e1)
instance [ha : SimT ta la ma va] [hb : SimT tb lb mb vb] : SimT (tAndX ta tb) (la ++ lb) (ma ++ mb) (vtAndX va vb) := ⟨fun {env e q w} r h =>
  simT_bind (ta := ta) r h (fun c e1 e1' a b z => by
    cases c with
    | true =>
      rw [if_pos rfl] at z ⊢
      refine hb.run a (T.all_mono (fun o ho => ?_) z)
      cases o with
      | ok s e2 => exact fun e2' a2 b2 => ho e2' a2 (b.trans b2)
      | ex C fs e2 => exact fun e2' a2 b2 => ho e2' a2 (b.trans b2)
    | false =>
      rw [if_neg Bool.false_ne_true] at z ⊢
      exact z _ a b.left) fun C fs e1 hx e1' a b => hx e1' a b.left⟩
instance [ha : SimT ta la ma va] [hb : SimT tb lb mb vb] : SimT (tOrX ta tb) (la ++ lb) (ma ++ mb) (vtOrX va vb) := ⟨fun {env e q w} r h =>
  simT_bind (ta := ta) r h (fun c e1 e1' a b z => by
    cases c with
    | true =>
      rw [if_pos rfl] at z ⊢
      exact z _ a b.left
    | false =>
      rw [if_neg Bool.false_ne_true] at z ⊢
      refine hb.run a (T.all_mono (fun o ho => ?_) z)
      cases o with
      | ok s e2 => exact fun e2' a2 b2 => ho e2' a2 (b.trans b2)
      | ex C fs e2 => exact fun e2' a2 b2 => ho e2' a2 (b.trans b2)) fun C fs e1 hx e1' a b => hx e1' a b.left⟩
instance [ha : SimT ta la ma va] : SimT (tNotX ta) la ma (vtNotX va) := ⟨fun {env e q w} r h =>
  simT_bind (ta := ta) r h (fun c e1 e1' a b z => z _ a b) fun C fs e1 hx e1' a b => hx e1' a b⟩
def vtYesX : VT := fun env => .done (.ok true env)
instance : SimT tYesX [] [] vtYesX := ⟨fun {env e q w} r h => h _ r .refl⟩
/-! what is walked -/
def vI (t : T (O Sl)) (k : D → Option (List D)) : T (O (List D)) := vD t fun d e => oT (k d) fun ds => .done (.ok ds e)
def lstOf : D → Option (List D)
  | .lst ds => some ds
  | _ => none
def tupOf : D → Option (List D)
  | .tup ds => some ds
  | _ => none
def rngOf : D → Option (List D)
  | .int n => if n < 2 ^ 62 ∧ -(2 ^ 62) ≤ n then some (rng 0 n.toNat) else none
  | _ => none
def enumOf : D → Option (List D)
  | .lst ds => some (enumD ds)
  | _ => none
def strOf : D → Option (List D)
  | .str z => some (chars z)
  | _ => none
def viL1 (a : VX) : VI := fun env => vI (a env) lstOf
def viT1 (a : VX) : VI := fun env => vI (a env) tupOf
def viR1 (a : VX) : VI := fun env => vI (a env) rngOf
def viE1 (a : VX) : VI := fun env => vI (a env) enumOf
def viS1 (a : VX) : VI := fun env => vI (a env) strOf
instance [ha : SimX fa la ma ga] : SimI (iL1 fa) la ma (viL1 ga) := ⟨fun {env e q w} r h => simX_d r h (fun d e1 e1' a b z => by
    obtain ⟨ds, hd, z⟩ := T.all_opt z
    unfold lstOf at hd
    split at hd
    · cases hd
      exact ⟨_, rfl, z _ a b⟩
    · cases hd) fun C fs e1 hx e1' a b => hx e1' a b⟩
instance [ha : SimX fa la ma ga] : SimI (iT1 fa) la ma (viT1 ga) := ⟨fun {env e q w} r h => simX_d r h (fun d e1 e1' a b z => by
    obtain ⟨ds, hd, z⟩ := T.all_opt z
    unfold tupOf at hd
    split at hd
    · cases hd
      exact ⟨_, rfl, z _ a b⟩
    · cases hd) fun C fs e1 hx e1' a b => hx e1' a b⟩
instance [ha : SimX fa la ma ga] : SimI (iE1 fa) la ma (viE1 ga) := ⟨fun {env e q w} r h => simX_d r h (fun d e1 e1' a b z => by
    obtain ⟨ds, hd, z⟩ := T.all_opt z
    unfold enumOf at hd
    split at hd
    · cases hd
      exact ⟨_, rfl, z _ a b⟩
    · cases hd) fun C fs e1 hx e1' a b => hx e1' a b⟩
instance [ha : SimX fa la ma ga] : SimI (iS1 fa) la ma (viS1 ga) := ⟨fun {env e q w} r h => simX_d r h (fun d e1 e1' a b z => by
    obtain ⟨ds, hd, z⟩ := T.all_opt z
    unfold strOf at hd
    split at hd
    · cases hd
      exact ⟨_, rfl, z _ a b⟩
    · cases hd) fun C fs e1 hx e1' a b => hx e1' a b⟩
instance [ha : SimX fa la ma ga] : SimI (iR1 fa) la ma (viR1 ga) := ⟨fun {env e q w} r h => simX_d r h (fun d e1 e1' a b z => by
    obtain ⟨ds, hd, z⟩ := T.all_opt z
    unfold rngOf at hd
    split at hd
    · split at hd
      · rename_i hn
        cases hd
        exact ⟨_, rfl, hn.1, hn.2, z _ a b⟩
      · cases hd
    · cases hd) fun C fs e1 hx e1' a b => hx e1' a b⟩
def rng2Of (f : Int → Int → List D) : D → D → Option (List D)
  | .int m, .int n => if -(2 ^ 62) ≤ m ∧ m < 2 ^ 62 ∧ -(2 ^ 62) ≤ n ∧ n < 2 ^ 62 then some (f m n) else none
  | _, _ => none
def vI2 (a b : VX) (k : D → D → Option (List D)) : VI := fun env => vD (a env) fun d1 e1 => vD (b e1) fun d2 e2 => oT (k d1 d2) fun ds => .done (.ok ds e2)
def viR2 (a b : VX) : VI := vI2 a b (rng2Of fun m n => rng m (n - m).toNat)
def viDn (a b : VX) : VI := vI2 a b (rng2Of fun m n => rngD m (m - n).toNat)
theorem rng2_some {f : Int → Int → List D} {d1 d2 : D} {ds : List D} (h : rng2Of f d1 d2 = some ds) : ∃ m n, d1 = .int m ∧ d2 = .int n ∧ (-(2 ^ 62) ≤ m ∧ m < 2 ^ 62 ∧ -(2 ^ 62) ≤ n ∧ n < 2 ^ 62) ∧ ds = f m n := by
  unfold rng2Of at h
  split at h
  · split at h
    · rename_i hn
      cases h
      exact ⟨_, _, rfl, rfl, hn, rfl⟩
    · cases h
  · cases h
instance [ha : SimX fa la ma ga] [hb : SimX fb lb mb gb] : SimI (iR2 fa fb) (la ++ lb) (ma ++ mb) (viR2 ga gb) := ⟨fun {env e q w} r h =>
  simX_d r h (fun d1 e1 e1' a b z => simX_d a z (fun d2 e2 e2' a2 b2 z2 => by
    obtain ⟨ds, hd, z⟩ := T.all_opt z2
    obtain ⟨m, n, rfl, rfl, hb, rfl⟩ := rng2_some hd
    exact ⟨m, n, rfl, rfl, hb, z _ a2 (b.trans b2)⟩) fun C fs e2 hx e2' a2 b2 => hx e2' a2 (b.trans b2)) fun C fs e1 hx e1' a b => hx e1' a b.left⟩
instance [ha : SimX fa la ma ga] [hb : SimX fb lb mb gb] : SimI (iDn fa fb) (la ++ lb) (ma ++ mb) (viDn ga gb) := ⟨fun {env e q w} r h =>
  simX_d r h (fun d1 e1 e1' a b z => simX_d a z (fun d2 e2 e2' a2 b2 z2 => by
    obtain ⟨ds, hd, z⟩ := T.all_opt z2
    obtain ⟨m, n, rfl, rfl, hb, rfl⟩ := rng2_some hd
    exact ⟨m, n, rfl, rfl, hb, z _ a2 (b.trans b2)⟩) fun C fs e2 hx e2' a2 b2 => hx e2' a2 (b.trans b2)) fun C fs e1 hx e1' a b => hx e1' a b.left⟩
/-! arguments -/
variable {aa : FA} {wa : VA}
def vaNil : VA := fun env => .done (.ok [] env)
def vaV (a : VX) (t : VA) : VA := fun env => vD (a env) fun d e1 => bO (t e1) fun as e2 => .done (.ok (.v d :: as) e2)
def vaB (i : Nat) (t : VA) : VA := fun env => match env[i]? with
  | some (some _) => bO (t env) fun as e2 => .done (.ok (.b i :: as) e2)
  | _ => .bad
theorem simA_bind {β : Type} {l m : List Nat} {bs : List (Option Nat)} [h : SimA aa bs l m wa] {env e : Env} {k : List PArg → Env → T (O β)} {P : O β → Prop} {R : List PArg → Env → Prop} {w : WP} (r : ErE env e) (ha : (bO (wa e) k).All P)
    (hk : ∀ c e1 e1', ErE e1' e1 → Kp l m env e1' → kinds c = bs → (k c e1).All P → R c e1') (hw : ∀ C fs e1, P (.ex C fs e1) → ∀ e1', ErE e1' e1 → Kp l m env e1' → w C fs e1') : aa env R w := by
  refine h.run r (T.all_mono (fun o ho => ?_) (T.all_bind.mp ha))
  cases o with
  | ok s e1 => exact fun e1' b c d => hk s e1 e1' b c d ho
  | ex C fs e1 => exact hw C fs e1 ho
theorem simA_bindS {l m : List Nat} {bs : List (Option Nat)} [h : SimA aa bs l m wa] {env e : Env} {k : List PArg → Env → T SO} {P : SO → Prop} {R : List PArg → Env → Prop} {w : WP} (r : ErE env e) (ha : (bS (wa e) k).All P)
    (hk : ∀ c e1 e1', ErE e1' e1 → Kp l m env e1' → kinds c = bs → (k c e1).All P → R c e1') (hw : ∀ C fs e1, P (.ex C fs e1) → ∀ e1', ErE e1' e1 → Kp l m env e1' → w C fs e1') : aa env R w := by
  refine h.run r (T.all_mono (fun o ho => ?_) (T.all_bind.mp ha))
  cases o with
  | ok s e1 => exact fun e1' b c d => hk s e1 e1' b c d ho
  | ex C fs e1 => exact hw C fs e1 ho
instance : SimA aNil [] [] [] vaNil := ⟨fun {env e q w} r h => h _ r .refl rfl⟩
instance [ha : SimX fa la ma ga] {bs : List (Option Nat)} [hb : SimA aa bs lb mb wa] : SimA (aV fa aa) (none :: bs) (la ++ lb) (ma ++ mb) (vaV ga wa) := ⟨fun {env e q w} r h =>
  simX_d r h (fun d1 e1 e1' a b z => simA_bind a z (fun as e2 e2' a2 b2 hb z2 => z2 _ a2 (b.trans b2) (congrArg (none :: ·) hb)) fun C fs e2 hx e2' a2 b2 => hx e2' a2 (b.trans b2)) fun C fs e1 hx e1' a b => hx e1' a b.left⟩
instance {i : Nat} {bs : List (Option Nat)} [hb : SimA aa bs lb mb wa] : SimA (aB i aa) (some i :: bs) lb mb (vaB i wa) := ⟨fun {env e q w} r h => by
  unfold vaB at h
  split at h
  · rename_i s hs
    obtain ⟨s', hs', _⟩ := r.get hs
    exact ⟨⟨s', hs'⟩, simA_bind r h (fun as e2 e2' a2 b2 hb z2 => z2 _ a2 b2 (congrArg (some i :: ·) hb)) fun C fs e2 hx e2' a2 b2 => hx e2' a2 b2⟩
  · exact h.elim⟩
/-! displays, calls of built-ins -/
def vxTup (t : VA) : VX := fun env => bO (t env) fun as e1 => oT (vals as) fun ds => if ds.length ≤ 1000 then .done (.ok (.fz (.tup ds)) e1) else .bad
def vxLst (t : VA) : VX := fun env => bO (t env) fun as e1 => oT (vals as) fun ds => if ds.length ≤ 1000 then .done (.ok (.ow (ol 0 ds)) e1) else .bad
def vxArgs (o : List N → Option N) (t : VA) : VX := fun env => bO (t env) fun as e1 => oT (vals as) fun ds => vO (o (ds.map N.f)) e1
instance {bs : List (Option Nat)} [hb : SimA aa bs lb mb wa] : SimX (xTup aa) lb mb (vxTup wa) := ⟨fun {env e q w} r h =>
  simA_bind r h (fun as e2 e2' a2 b2 _ z2 => by
    obtain ⟨ds, hd, z⟩ := T.all_opt z2
    obtain ⟨hl, z⟩ := T.all_if z
    exact ⟨ds, hd, hl, z _ _ (.fz _) a2 b2⟩) fun C fs e2 hx e2' a2 b2 => hx e2' a2 b2⟩
instance {bs : List (Option Nat)} [hb : SimA aa bs lb mb wa] : SimX (xLst aa) lb mb (vxLst wa) := ⟨fun {env e q w} r h =>
  simA_bind r h (fun as e2 e2' a2 b2 _ z2 => by
    obtain ⟨ds, hd, z⟩ := T.all_opt z2
    obtain ⟨hl, z⟩ := T.all_if z
    exact ⟨ds, hd, hl, fun v => z _ _ (by rw [← ol_er v ds]; exact .ow _) a2 b2⟩) fun C fs e2 hx e2' a2 b2 => hx e2' a2 b2⟩
instance {o : List N → Option N} {bs : List (Option Nat)} [hb : SimA aa bs lb mb wa] : SimX (xArgs o aa) lb mb (vxArgs o wa) := ⟨fun {env e q w} r h =>
  simA_bind r h (fun as e2 e2' a2 b2 _ z2 => by
    obtain ⟨ds, hd, z⟩ := T.all_opt z2
    obtain ⟨d, ho, z⟩ := all_vO z
    exact ⟨ds, d, hd, ho, z _ _ (.fz _) a2 b2⟩) fun C fs e2 hx e2' a2 b2 => hx e2' a2 b2⟩
end
end Pu

/-! ## Pv: statements, loops, calls, defs -/
namespace Pu
open PySem PySem.Spec PyProof.Rows L2 Ed
/-- the slots vs are forgotten -/
def sWp (_ : List Nat) (f : FSt) : FSt := f
/-- for, while: slots forgotten at each turn; at most n turns -/
def sForW (_ : List Nat) (fi : FI) (st : Tg) (f : FSt) : FSt := sFor fi st f
def sWhileW (_ : Nat) (_ : List Nat) (t : FT) (f : FSt) : FSt := sWhile t f
section
variable [XI : Xi]
variable {fa fb : FX} {ga gb : VX} {la ma lb mb l m l' m' : List Nat} {f f' : FSt} {g g' : VS} {ta : FT} {va : VT} {fi : FI} {vi : VI}
def vSeq (f g : VS) : VS := fun env => (f env).bind fun o => match o with
  | .nx e => g e
  | o => .done o
instance [hf : SimS f l m g] [hg : SimS f' l' m' g'] : SimS (sSeq f f') (l ++ l') (m ++ m') (vSeq g g') := ⟨fun {env e p} r h => by
  refine hf.run r (T.all_mono (fun o ho => ?_) (T.all_bind.mp h))
  cases o with
  | nx e1 => exact fun e1' a b => hg.run a (T.all_mono (fun o2 h2 => by
      cases o2 with
      | nx e2 => exact fun e2' a2 b2 => h2 e2' a2 (b.trans b2)
      | rt s e2 => exact fun s' e2' a1 a2 b2 => h2 s' e2' a1 a2 (b.trans b2)
      | bk e2 => exact fun e2' a2 b2 => h2 e2' a2 (b.trans b2)
      | ct e2 => exact fun e2' a2 b2 => h2 e2' a2 (b.trans b2)
      | ex C fs e2 => exact fun e2' a2 b2 => h2 e2' a2 (b.trans b2)) ho)
  | rt s e1 => exact fun s' e1' a1 a b => ho s' e1' a1 a b.left
  | bk e1 => exact fun e1' a b => ho e1' a b.left
  | ct e1 => exact fun e1' a b => ho e1' a b.left
  | ex C fs e1 => exact fun e1' a b => ho e1' a b.left⟩
def vNil : VS := fun env => .done (.nx env)
instance : SimS sNil [] [] vNil := ⟨fun {env e p} r h => h _ r .refl⟩
def vSet (i : Nat) (a : VX) : VS := fun env => bS (a env) fun r e => if i < e.length then .done (.nx (e.set i (some r))) else .bad
instance {i : Nat} [ha : SimX fa la ma ga] : SimS (sSet i fa) (la ++ [i]) (ma ++ [i]) (vSet i ga) := ⟨fun {env e p} r h =>
  simX_bindS r h (fun s s' e1 e1' a1 a b z => by
    obtain ⟨hi, z⟩ := T.all_if z
    exact ⟨by rw [a.len]; exact hi, z _ (a.set i (.som a1)) (b.trans kp_put)⟩) fun C fs e1 hx e1' a b => hx e1' a b.left⟩
def vDrop (a : VX) : VS := fun env => bS (a env) fun r e => .done (.nx e)
instance [ha : SimX fa la ma ga] : SimS (sDrop fa) la ma (vDrop ga) := ⟨fun {env e p} r h =>
  simX_bindS r h (fun s s' e1 e1' a1 a b z => z _ a b) fun C fs e1 hx e1' a b => hx e1' a b⟩
def vRet (a : VX) : VS := fun env => bS (a env) fun r e => .done (.rt r e)
instance [ha : SimX fa la ma ga] : SimS (sRet fa) la ma (vRet ga) := ⟨fun {env e p} r h =>
  simX_bindS r h (fun s s' e1 e1' a1 a b z => z _ _ a1 a b) fun C fs e1 hx e1' a b => hx e1' a b⟩
def vRetN : VS := fun env => .done (.rt (.fz .non) env)
instance : SimS sRetN [] [] vRetN := ⟨fun {env e p} r h => h _ _ (.fz _) r .refl⟩
def vBrk : VS := fun env => .done (.bk env)
instance : SimS sBrk [] [] vBrk := ⟨fun {env e p} r h => h _ r .refl⟩
def vCont : VS := fun env => .done (.ct env)
instance : SimS sCont [] [] vCont := ⟨fun {env e p} r h => h _ r .refl⟩
theorem postS_left {env env1 : Env} {p : EP'} {o : SO} (b : Kp la ma env env1) (h : PostS (la ++ l) (ma ++ m) env p o) : PostS l m env1 p o := by
  cases o with
  | nx e2 => exact fun e2' a2 b2 => h e2' a2 (b.trans b2)
  | rt s e2 => exact fun s' e2' a1 a2 b2 => h s' e2' a1 a2 (b.trans b2)
  | bk e2 => exact fun e2' a2 b2 => h e2' a2 (b.trans b2)
  | ct e2 => exact fun e2' a2 b2 => h e2' a2 (b.trans b2)
  | ex C fs e2 => exact fun e2' a2 b2 => h e2' a2 (b.trans b2)
theorem postS_up {env : Env} {p : EP'} {o : SO} (hl : ∀ j ∈ l, j ∈ l') (hm : ∀ j ∈ m, j ∈ m') (h : PostS l' m' env p o) : PostS l m env p o := by
  cases o with
  | nx e2 => exact fun e2' a2 b2 => h e2' a2 (b2.mono hl hm)
  | rt s e2 => exact fun s' e2' a1 a2 b2 => h s' e2' a1 a2 (b2.mono hl hm)
  | bk e2 => exact fun e2' a2 b2 => h e2' a2 (b2.mono hl hm)
  | ct e2 => exact fun e2' a2 b2 => h e2' a2 (b2.mono hl hm)
  | ex C fs e2 => exact fun e2' a2 b2 => h e2' a2 (b2.mono hl hm)
def vIf (t : VT) (f g : VS) : VS := fun env => bS (t env) fun c e => if c = true then f e else g e
instance [ha : SimT ta la ma va] [hf : SimS f l m g] [hg : SimS f' l' m' g'] : SimS (sIf ta f f') (la ++ (l ++ l')) (ma ++ (m ++ m')) (vIf va g g') := ⟨fun {env e p} r h =>
  simT_bindS (ta := ta) r h (fun c e1 e1' a b z => by
    cases c with
    | true =>
      rw [if_pos rfl] at z ⊢
      exact hf.run a (T.all_mono (fun o ho => postS_up (fun _ => List.mem_append_left _) (fun _ => List.mem_append_left _) (postS_left b ho)) z)
    | false =>
      rw [if_neg Bool.false_ne_true] at z ⊢
      exact hg.run a (T.all_mono (fun o ho => postS_up (fun _ => List.mem_append_right _) (fun _ => List.mem_append_right _) (postS_left b ho)) z)) fun C fs e1 hx e1' a b => hx e1' a b.left⟩
def vFz (i : Nat) (f : VS) : VS := fun env => f (env.fz i)
theorem kp_fz {env : Env} {i : Nat} : Kp [i] [i] env (env.fz i) := by
  unfold Env.fz
  split
  · split
    · exact kp_put
    · exact .refl
  · exact .refl
instance {i : Nat} [hf : SimS f l m g] : SimS (sFz i f) ([i] ++ l) ([i] ++ m) (vFz i g) := ⟨fun {env e p} r h => hf.run (r.fz i) (T.all_mono (fun o ho => postS_left kp_fz ho) h)⟩
def vWp (vs : List Nat) (f : VS) : VS := fun env => f (wipeE env vs)
instance {vs : List Nat} [hf : SimS f l m g] : SimS (sWp vs f) l m (vWp vs g) := ⟨fun {env e p} r h => hf.run (r.wipe vs) h⟩
/-! loops -/
def forL (vs : List Nat) (st : Tg) (f : VS) : List D → Env → T SO
  | [], e => .done (.nx (wipeE e vs))
  | d :: ds, e => oT (st d (wipeE e vs)) fun e1 => (f e1).bind fun o => match o with
    | .nx e2 => forL vs st f ds e2
    | .ct e2 => forL vs st f ds e2
    | .bk e2 => .done (.nx (wipeE e2 vs))
    | .rt r e2 => .done (.rt r e2)
    | .ex C fs e2 => .done (.ex C fs e2)
def vForW (vs : List Nat) (fi : VI) (st : Tg) (f : VS) : VS := fun env => bS (fi env) fun ds e => forL vs st f ds e
theorem simI_bindS [h : SimI fi la ma vi] {env e : Env} {k : List D → Env → T SO} {P : SO → Prop} {R : List D → Env → Prop} {w : WP} (r : ErE env e) (ha : (bS (vi e) k).All P)
    (hk : ∀ c e1 e1', ErE e1' e1 → Kp la ma env e1' → (k c e1).All P → R c e1') (hw : ∀ C fs e1, P (.ex C fs e1) → ∀ e1', ErE e1' e1 → Kp la ma env e1' → w C fs e1') : fi env R w := by
  refine h.run r (T.all_mono (fun o ho => ?_) (T.all_bind.mp ha))
  cases o with
  | ok s e1 => exact fun e1' b c => hk s e1 e1' b c ho
  | ex C fs e1 => exact hw C fs e1 ho
theorem kp_tg {e e1 : Env} (h1 : e1.length = e.length) (h2 : ∀ j, j ∉ l → e1[j]? = e[j]?) : Kp l l e e1 := ⟨h1, h2, fun j hj => by rw [h2 j hj]⟩
instance {vs lt : List Nat} {st : Tg} [hi : SimI fi la ma vi] [ht : EqvT lt st] [hf : SimS f l m g] : SimS (sForW vs fi st f) (la ++ (lt ++ l)) (ma ++ (lt ++ m)) (vForW vs vi st g) := ⟨fun {env e p} r h => by
  refine simI_bindS r h (fun ds e1 e1' a b z => ?_) fun C fs e1 hx e1' a b => hx e1' a b.left
  refine ⟨fun i env2 => ∃ e2, ErE env2 e2 ∧ Kp (la ++ (lt ++ l)) (ma ++ (lt ++ m)) env env2 ∧ (forL vs st g (ds.drop i) e2).All (PostS (la ++ (lt ++ l)) (ma ++ (lt ++ m)) env p), ⟨e1, a, b.left, z⟩, ?_, ?_⟩
  · rintro i d env2 hd ⟨e2, r2, k2, z2⟩
    have hi : i < ds.length := (List.getElem?_eq_some_iff.mp hd).1
    have ed : ds.drop i = d :: ds.drop (i + 1) := by
      rw [List.drop_eq_getElem_cons hi, (List.getElem?_eq_some_iff.mp hd).2]
    rw [ed] at z2
    obtain ⟨e3, h3, z3⟩ := T.all_opt z2
    obtain ⟨e3', q1, q2, q3, q4⟩ := ht.run (r2.wipe vs) h3
    refine ⟨e3', q1, hf.run q2 (T.all_mono (fun o ho => ?_) (T.all_bind.mp z3))⟩
    have k3 : Kp (la ++ (lt ++ l)) (ma ++ (lt ++ m)) env e3' := k2.tr ((kp_tg q3 q4).left.right)
    have up : ∀ {e4' : Env}, Kp l m e3' e4' → Kp (la ++ (lt ++ l)) (ma ++ (lt ++ m)) env e4' := fun k4 => k3.tr k4.right.right
    cases o with
    | nx e4 => exact fun e4' a4 b4 => ⟨e4, a4, up b4, ho⟩
    | ct e4 => exact fun e4' a4 b4 => ⟨e4, a4, up b4, ho⟩
    | bk e4 => exact fun e4' a4 b4 => ho e4' (a4.wipe vs) (up b4)
    | rt s e4 => exact fun s' e4' a1 a4 b4 => ho s' e4' a1 a4 (up b4)
    | ex C fs e4 => exact fun e4' a4 b4 => ho e4' a4 (up b4)
  · rintro env2 ⟨e2, r2, k2, z2⟩
    rw [List.drop_length] at z2
    exact z2 env2 (r2.wipe vs) k2⟩
def whileL (vs : List Nat) (t : VT) (f : VS) : Nat → Env → T SO
  | 0, _ => .bad
  | n + 1, e => bS (t (wipeE e vs)) fun c e1 => if c = true then (f e1).bind fun o => match o with
    | .nx e2 => whileL vs t f n e2
    | .ct e2 => whileL vs t f n e2
    | .bk e2 => .done (.nx e2)
    | .rt r e2 => .done (.rt r e2)
    | .ex C fs e2 => .done (.ex C fs e2) else .done (.nx e1)
def vWhileW (n : Nat) (vs : List Nat) (t : VT) (f : VS) : VS := whileL vs t f n
instance {n : Nat} {vs : List Nat} [ht : SimT ta la ma va] [hf : SimS f l m g] : SimS (sWhileW n vs ta f) (la ++ l) (ma ++ m) (vWhileW n vs va g) := ⟨fun {env e p} r h => by
  refine ⟨fun k env2 => ∃ e2, ErE env2 e2 ∧ Kp (la ++ l) (ma ++ m) env env2 ∧ (whileL vs va g k e2).All (PostS (la ++ l) (ma ++ m) env p), ⟨n, e, r, .refl, h⟩, ?_⟩
  rintro k env2 ⟨e2, r2, k2, z2⟩
  cases k with
  | zero => exact z2.elim
  | succ k =>
    refine simT_bindS (ta := ta) (r2.wipe vs) z2 (fun c e1 e1' a b z => ?_) fun C fs e1 hx e1' a b => hx e1' a (k2.tr b.left)
    have k3 : Kp (la ++ l) (ma ++ m) env e1' := k2.tr b.left
    have up : ∀ {e4' : Env}, Kp l m e1' e4' → Kp (la ++ l) (ma ++ m) env e4' := fun k4 => k3.tr k4.right
    cases c with
    | true =>
      rw [if_pos rfl] at z ⊢
      refine hf.run a (T.all_mono (fun o ho => ?_) (T.all_bind.mp z))
      cases o with
      | nx e4 => exact fun e4' a4 b4 => ⟨k, Nat.lt_succ_self _, e4, a4, up b4, ho⟩
      | ct e4 => exact fun e4' a4 b4 => ⟨k, Nat.lt_succ_self _, e4, a4, up b4, ho⟩
      | bk e4 => exact fun e4' a4 b4 => ho e4' a4 (up b4)
      | rt s e4 => exact fun s' e4' a1 a4 b4 => ho s' e4' a1 a4 (up b4)
      | ex C fs e4 => exact fun e4' a4 b4 => ho e4' a4 (up b4)
    | false =>
      rw [if_neg Bool.false_ne_true] at z ⊢
      exact z _ a k3⟩
/-! stores -/
def vAsg (a : VX) (st : Tg) : VS := fun env => vDS (a env) fun d e => oT (st d e) fun e1 => .done (.nx e1)
instance {lt : List Nat} {st : Tg} [ha : SimX fa la ma ga] [ht : EqvT lt st] : SimS (sAsg fa st) (la ++ lt) (ma ++ lt) (vAsg ga st) := ⟨fun {env e p} r h =>
  simX_dS r h (fun d e1 e1' a b z => by
    obtain ⟨e2, h2, z⟩ := T.all_opt z
    obtain ⟨e2', q1, q2, q3, q4⟩ := ht.run a h2
    exact ⟨e2', q1, z _ q2 (b.trans (kp_tg q3 q4))⟩) fun C fs e1 hx e1' a b => hx e1' a b.left⟩
def isOdB (env : Env) (i : Nat) : Option (List (Key × D)) := match env[i]? with
  | some (some (.ow (.dic _ ns))) => fdk ns
  | _ => none
where fdk : List (Key × N) → Option (List (Key × D))
  | [] => some []
  | (k, .f d) :: ns => (fdk ns).map ((k, d) :: ·)
  | _ => none
theorem fdk_inv : ∀ {ns : List (Key × N)} {ds : List (Key × D)}, isOdB.fdk ns = some ds → ns = ds.map fun kv => (kv.1, N.f kv.2)
  | [], ds, h => by
    cases h
    rfl
  | (k, .f d) :: ns, ds, h => by
    unfold isOdB.fdk at h
    cases e : isOdB.fdk ns with
    | none =>
      rw [e] at h
      cases h
    | some r =>
      rw [e] at h
      cases h
      rw [fdk_inv e]
      rfl
  | (k, .lst _ _) :: ns, ds, h => by cases h
  | (k, .tup _ _) :: ns, ds, h => by cases h
  | (k, .dic _ _) :: ns, ds, h => by cases h
  | (k, .obj _ _ _ _) :: ns, ds, h => by cases h
theorem fdk_f : ∀ (ds : List (Key × D)), isOdB.fdk (ds.map fun kv => (kv.1, N.f kv.2)) = some ds
  | [] => rfl
  | (k, d) :: ds => by
    show (isOdB.fdk (ds.map fun kv => (kv.1, N.f kv.2))).map ((k, d) :: ·) = _
    rw [fdk_f ds]
    rfl
theorem isOdB_inv {env e : Env} {i : Nat} {ds : List (Key × D)} (r : ErE env e) (h : isOdB e i = some ds) : ∃ v, env[i]? = some (some (.ow (od v ds))) := by
  unfold isOdB at h
  split at h
  · rename_i a ns hn
    obtain ⟨s, hs, es⟩ := r.get hn
    obtain ⟨m, rfl, hm⟩ := es.ow_inv
    rw [fdk_inv h] at hm
    obtain ⟨b, rfl⟩ := er_od (a := a) hm
    exact ⟨b, hs⟩
  · cases h
theorem isOdB_od {env : Env} {i : Nat} {a : Addr} {ds : List (Key × D)} (h : env[i]? = some (some (.ow (od a ds)))) : isOdB env i = some ds := by
  unfold isOdB
  rw [h]
  exact fdk_f ds
def setOd (env : Env) (i : Nat) (ds : List (Key × D)) : Env := env.set i (some (.ow (od 0 ds)))
theorem er_setOd {env e : Env} {i : Nat} {v : Addr} {ds : List (Key × D)} (r : ErE env e) : ErE (env.set i (some (.ow (od v ds)))) (setOd e i ds) := r.set i (.som (by rw [← od_er v ds]; exact .ow _))
def vDput (i : Nat) (fk fv : VX) : VS := fun env => vDS (fv env) fun d e1 => oT (e1.node i) fun _ => vDS (fk e1) fun dk e2 => oT (isOdB e2 i) fun kvs => oT (keyD dk) fun k => if kvs.length < sizeLine then .done (.nx (setOd e2 i (putD kvs k d))) else .bad
instance {i : Nat} [ha : SimX fa la ma ga] [hb : SimX fb lb mb gb] : SimS (sDput i fa fb) (lb ++ la ++ [i]) (mb ++ ma ++ []) (vDput i ga gb) := ⟨fun {env e p} r h =>
  simX_dS r h (fun d e1 e1' a b z => by
    obtain ⟨n, hn, z⟩ := T.all_opt z
    obtain ⟨n', hn', _⟩ := a.node hn
    refine ⟨⟨n', hn'⟩, simX_dS a z (fun dk e2 e2' a2 b2 z2 => ?_) fun C fs e2 hx e2' a2 b2 => hx e2' a2 (b.trans b2).left⟩
    obtain ⟨kvs, hk, z2⟩ := T.all_opt z2
    obtain ⟨v, hv⟩ := isOdB_inv a2 hk
    obtain ⟨k, hk, z2⟩ := T.all_opt z2
    obtain ⟨hl, z2⟩ := T.all_if z2
    exact ⟨v, kvs, k, hv, hk, hl, z2 _ (er_setOd a2) ((b.trans b2).trans (kp_ow hv rfl))⟩) fun C fs e1 hx e1' a b => hx e1' a b.left.left⟩
def intOf : D → Option Int
  | .int j => some j
  | _ => none
theorem intOf_inv {d : D} {j : Int} (h : intOf d = some j) : d = .int j := by
  unfold intOf at h
  split at h
  · cases h
    rfl
  · cases h
def vSetI (i : Nat) (fk fv : VX) : VS := fun env => vDS (fv env) fun d e1 => oT (e1.node i) fun _ => vDS (fk e1) fun dk e2 => oT (isOlB e2 i) fun ds => oT (intOf dk) fun j => oT (L2.ixN ds.length j) fun k => .done (.nx (setOl e2 i (ds.set k d)))
instance {i : Nat} [ha : SimX fa la ma ga] [hb : SimX fb lb mb gb] : SimS (sSetI i fa fb) (lb ++ la ++ [i]) (mb ++ ma ++ []) (vSetI i ga gb) := ⟨fun {env e p} r h =>
  simX_dS r h (fun d e1 e1' a b z => by
    obtain ⟨n, hn, z⟩ := T.all_opt z
    obtain ⟨n', hn', _⟩ := a.node hn
    refine ⟨⟨n', hn'⟩, simX_dS a z (fun dk e2 e2' a2 b2 z2 => ?_) fun C fs e2 hx e2' a2 b2 => hx e2' a2 (b.trans b2).left⟩
    obtain ⟨ds, hk, z2⟩ := T.all_opt z2
    obtain ⟨v, hv⟩ := isOlB_inv a2 hk
    obtain ⟨j, hj, z2⟩ := T.all_opt z2
    obtain ⟨k, hk, z2⟩ := T.all_opt z2
    exact ⟨v, ds, j, k, hv, intOf_inv hj, hk, z2 _ (er_setOl a2) ((b.trans b2).trans (kp_ow hv rfl))⟩) fun C fs e1 hx e1' a b => hx e1' a b.left.left⟩
def vAug (i : Nat) (g : Int → Int → Int) (fa : VX) : VS := fun env => match env[i]? with
  | some (some (.fz (.int m))) => vDS (fa env) fun d e1 => oT (intOf d) fun n => if i < e1.length then .done (.nx (e1.set i (some (.fz (.int (g m n)))))) else .bad
  | _ => .bad
instance {i : Nat} {gg : Int → Int → Int} [ha : SimX fa la ma ga] : SimS (sAug i gg fa) (la ++ [i]) (ma ++ [i]) (vAug i gg ga) := ⟨fun {env e p} r h => by
  unfold vAug at h
  split at h
  · rename_i k hk
    obtain ⟨s, hs, es⟩ := r.get hk
    rw [es.fz_inv] at hs
    refine ⟨k, hs, simX_dS r h (fun d e1 e1' a b z => ?_) fun C fs e1 hx e1' a b => hx e1' a b.left⟩
    obtain ⟨n, hn, z⟩ := T.all_opt z
    obtain ⟨hi, z⟩ := T.all_if z
    exact ⟨n, intOf_inv hn, by rw [a.len]; exact hi, z _ (a.set i (.som (.fz _))) (b.trans kp_put)⟩
  · exact h.elim⟩
end
/-! ### calls -/
section
def PostF (lf : List Nat) (ss : List Sl) (q : Sl → List Sl → Prop) (w : Str → List (Str × D) → List Sl → Prop) : FO → Prop
  | .rt r us => ∀ r' ss', ErS r' r → ErL ss' us → Kp lf [] (ss.map some) (ss'.map some) → q r' ss'
  | .ex C fs us => ∀ ss', ErL ss' us → Kp lf [] (ss.map some) (ss'.map some) → w C fs ss'
end
/-- what a def does, as a promise -/
def CV (lf : List Nat) (G : VF) : FS := fun ss q w => ∃ us, ErL ss us ∧ (G us).All (PostF lf ss q w)
section
variable [XI : Xi]
def noXs (s : Sl) : Bool := match s with
  | .xc _ _ _ _ _ => false
  | _ => true
theorem ErT.er {s t : Sl} (h : ErT s t) (n : noXs t = true) : ErS s t := by
  rcases h with h | ⟨C, fs, _, rfl⟩
  · exact h
  · cases n
theorem slots_er {env e : Env} (r : ErE env e) : ∀ {as : List PArg} {us : List Sl}, slots e as = some us → us.all noXs = true → ∃ ss, slots env as = some ss ∧ ErL ss us
  | [], us, h, _ => by
    cases h
    exact ⟨[], rfl, .nil⟩
  | .v d :: as, us, h, hx => by
    unfold slots at h
    cases q : slots e as with
    | none =>
      rw [q] at h
      cases h
    | some vs =>
      rw [q] at h
      cases h
      rw [List.all_cons, Bool.and_eq_true] at hx
      obtain ⟨ss, h1, h2⟩ := slots_er r q hx.2
      exact ⟨.fz d :: ss, by unfold slots; rw [h1]; rfl, .cons (.fz d) h2⟩
  | .b i :: as, us, h, hx => by
    unfold slots at h
    split at h
    · rename_i s vs hs q
      cases h
      rw [List.all_cons, Bool.and_eq_true] at hx
      obtain ⟨ss, h1, h2⟩ := slots_er r q hx.2
      obtain ⟨s', hs', es⟩ := r.get hs
      exact ⟨s' :: ss, by unfold slots; rw [h1, hs'], .cons (es.er hx.1) h2⟩
    · cases h
theorem back_er : ∀ {as : List PArg} {env e : Env} {ss us : List Sl}, ErE env e → ErL ss us → ErE (back env as ss) (back e as us)
  | [], _, _, _, _, r, _ => r
  | .v d :: as, _, _, _, _, r, .nil => r
  | .b i :: as, _, _, _, _, r, .nil => r
  | .v d :: as, _, _, _, _, r, .cons a t => back_er (as := as) r t
  | .b i :: as, _, _, _, _, r, .cons a t => (back_er (as := as) r t).set i (.som a)
def tchA (lf : List Nat) : Nat → List (Option Nat) → List Nat
  | _, [] => []
  | p, none :: bs => tchA lf (p + 1) bs
  | p, some i :: bs => if p ∈ lf then i :: tchA lf (p + 1) bs else tchA lf (p + 1) bs
theorem back_kp {lf : List Nat} {env : Env} : ∀ {as : List PArg} {ss ss' : List Sl} (p : Nat), ndA as = true → slots env as = some ss → ss'.length = ss.length → (∀ j, p + j ∉ lf → ss'[j]? = ss[j]?) → (∀ j : Nat, pinO (ss'[j]?.map some) = pinO (ss[j]?.map some)) → Kp (tchA lf p (kinds as)) [] env (back env as ss')
  | [], _, _, _, _, _, _, _, _ => .refl
  | .v d :: as, ss, ss', p, nd, hs, hl, he, hp => by
    unfold slots at hs
    cases q : slots env as with
    | none =>
      rw [q] at hs
      cases hs
    | some vs =>
      rw [q] at hs
      cases hs
      cases ss' with
      | nil => cases hl
      | cons s' ss' =>
        refine back_kp (as := as) (ss := vs) (p + 1) nd q (Nat.succ.inj hl) (fun j hj => ?_) fun j => hp (j + 1)
        exact he (j + 1) (by rw [show p + (j + 1) = p + 1 + j by omega]; exact hj)
  | .b i :: as, ss, ss', p, nd, hs, hl, he, hp => by
    unfold slots at hs
    split at hs
    · rename_i s vs h1 q
      cases hs
      cases ss' with
      | nil => cases hl
      | cons s' ss' =>
        unfold ndA at nd
        rw [Bool.and_eq_true] at nd
        have ni : inA i as = false := by
          have := nd.1
          simpa using this
        have ih := back_kp (as := as) (ss := vs) (ss' := ss') (p + 1) nd.2 q (Nat.succ.inj hl) (fun j hj => he (j + 1) (by rw [show p + (j + 1) = p + 1 + j by omega]; exact hj)) fun j => hp (j + 1)
        have hb : (back env as ss')[i]? = some (some s) := by
          rw [back_none ni]
          exact h1
        show Kp (if p ∈ lf then i :: tchA lf (p + 1) (kinds as) else tchA lf (p + 1) (kinds as)) [] env ((back env as ss').set i (some s'))
        by_cases hm : p ∈ lf
        · rw [if_pos hm]
          have k2 : Kp [i] [] (back env as ss') ((back env as ss').set i (some s')) := kp_set (by
            rw [hb]
            exact hp 0)
          exact (ih.trans k2).mono (fun j hj => by
            rcases List.mem_append.mp hj with h | h
            · exact List.mem_cons_of_mem _ h
            · rw [List.mem_singleton.mp h]
              exact List.mem_cons_self) fun j hj => hj
        · rw [if_neg hm]
          have e0 : s' = s := by
            have := he 0 hm
            cases this
            rfl
          rw [e0, set_same hb]
          exact ih
    · cases hs
theorem map_some_get {ss : List Sl} {j : Nat} : (ss.map some)[j]? = ss[j]?.map some := List.getElem?_map
variable {aa : FA} {wa : VA} {lb mb lf : List Nat} {bs : List (Option Nat)} {G : VF} {n : Nat}
/-- what comes of a call -/
def callO (n : Nat) (G : VF) (as : List PArg) (e : Env) : T (O Sl) := if ndA as = true then oT (slots e as) fun us => if us.length = n ∧ us.all noXs = true then (G us).bind fun o => match o with
    | .rt r us' => .done (.ok r (back e as us'))
    | .ex C fs us' => .done (.ex C fs (back e as us')) else .bad else .bad
def noEx (t : T (O Sl)) : T (O Sl) := t.bind fun o => match o with
  | .ok r e => .done (.ok r e)
  | .ex _ _ _ => .bad
def vxCall (n : Nat) (G : VF) (t : VA) : VX := fun env => bO (t env) fun as e1 => callO n G as e1
def vxCall0 (n : Nat) (G : VF) (t : VA) : VX := fun env => bO (t env) fun as e1 => noEx (callO n G as e1)
theorem callO_run {as : List PArg} {e1 e1' : Env} {q : Sl → Env → Prop} {w : WP} {P : O Sl → Prop} (r : ErE e1' e1) (h : (callO n G as e1).All P)
    (hq : ∀ s e2, P (.ok s e2) → ∀ s' e2', ErS s' s → ErE e2' e2 → Kp (tchA lf 0 (kinds as)) [] e1' e2' → q s' e2')
    (hw : ∀ C fs e2, P (.ex C fs e2) → ∀ e2', ErE e2' e2 → Kp (tchA lf 0 (kinds as)) [] e1' e2' → w C fs e2') :
    ndA as = true ∧ ∃ ss, slots e1' as = some ss ∧ ss.length = n ∧ CV lf G ss (fun r ss' => q r (back e1' as ss')) (fun c fs ss' => w c fs (back e1' as ss')) := by
  obtain ⟨nd, h⟩ := T.all_if h
  obtain ⟨us, hu, h⟩ := T.all_opt h
  obtain ⟨⟨hl, hx⟩, h⟩ := T.all_if h
  obtain ⟨ss, h1, h2⟩ := slots_er r hu hx
  have kp : ∀ ss' : List Sl, Kp lf [] (ss.map some) (ss'.map some) → Kp (tchA lf 0 (kinds as)) [] e1' (back e1' as ss') := fun ss' k => back_kp 0 nd h1 (by have := k.len; rwa [List.length_map, List.length_map] at this) (fun j hj => by
      have := k.eq j (by rwa [Nat.zero_add] at hj)
      rw [map_some_get, map_some_get] at this
      cases a : ss'[j]? with
      | none =>
        rw [a] at this
        cases b : ss[j]? with
        | none => rfl
        | some y =>
          rw [b] at this
          cases this
      | some x =>
        rw [a] at this
        cases b : ss[j]? with
        | none =>
          rw [b] at this
          cases this
        | some y =>
          rw [b] at this
          cases this
          rfl) fun j => by
      have := k.pin j (fun z => (nomatch z))
      rwa [map_some_get, map_some_get] at this
  refine ⟨nd, ss, h1, by rw [h2.len]; exact hl, us, h2, T.all_mono (fun o ho => ?_) (T.all_bind.mp h)⟩
  cases o with
  | rt s us' => exact fun s' ss' a b k => hq s _ ho s' _ a (back_er r b) (kp ss' k)
  | ex C fs us' => exact fun ss' b k => hw C fs _ ho _ (back_er r b) (kp ss' k)
instance [ha : SimA aa bs lb mb wa] : SimX (xCall n (CV lf G) aa) (lb ++ tchA lf 0 bs) (mb ++ []) (vxCall n G wa) := ⟨fun {env e q w} r h =>
  simA_bind (h := ha) r h (fun as e1 e1' a b hb z => callO_run a z (fun s e2 hp s' e2' h1 h2 h3 => hp s' e2' h1 h2 (b.trans (hb ▸ h3))) fun C fs e2 hp e2' h2 h3 => hp e2' h2 (b.trans (hb ▸ h3))) fun C fs e1 hx e1' a b => hx e1' a b.left⟩
instance [ha : SimA aa bs lb mb wa] : SimX (xCall0 n (CV lf G) aa) (lb ++ tchA lf 0 bs) (mb ++ []) (vxCall0 n G wa) := ⟨fun {env e q w} r h =>
  simA_bind (h := ha) r h (fun as e1 e1' a b hb z => callO_run (w := fun _ _ _ => False) a (T.all_bind.mp z) (fun s e2 hp s' e2' h1 h2 h3 => hp s' e2' h1 h2 (b.trans (hb ▸ h3))) fun C fs e2 hp e2' h2 h3 => hp.elim) fun C fs e1 hx e1' a b => hx e1' a b.left⟩
end
/-! ### errors -/
/-- the error that is handled changes -/
def noXc (e : Env) : Bool := e.all fun o => match o with
  | some (.xc _ _ _ _ _) => false
  | _ => true
theorem ErE.xi {XI XJ : Xi} {e f : Env} (h : noXc f = true) (r : @ErE XI e f) : @ErE XJ e f := by
  induction r with
  | nil => exact @ErE.nil XJ
  | cons a t ih =>
    unfold noXc at h
    rw [List.all_cons, Bool.and_eq_true] at h
    refine @ErE.cons XJ _ _ _ _ ?_ (ih h.2)
    cases a with
    | non => exact @ErO.non XJ _
    | som a => exact @ErO.som XJ _ _ a
    | xc C fs => cases h.1
section
variable [XI : Xi]
variable {aa : FA} {wa : VA} {la ma lb mb l m l' m' lf : List Nat} {bs : List (Option Nat)} {f : FSt} {g g' : VS}
def vRaise (C : Str) (ok : List D → Bool) (nm : List D → List (Str × D)) (t : VA) : VS := fun env => bS (t env) fun as e => oT (vals as) fun ds => if ok ds = true then .done (.ex C (nm ds) e) else .bad
instance {C : Str} {ok : List D → Bool} {nm : List D → List (Str × D)} [ha : SimA aa bs lb mb wa] : SimS (sRaise C (fun ds => ok ds = true) nm aa) lb mb (vRaise C ok nm wa) := ⟨fun {env e p} r h =>
  simA_bindS r h (fun as e1 e1' a b hb z => by
    obtain ⟨ds, hd, z⟩ := T.all_opt z
    obtain ⟨ho, z⟩ := T.all_if z
    exact ⟨ds, hd, ho, z _ a b⟩) fun C fs e1 hx e1' a b => hx e1' a b⟩
/-- behind the suite of an except -/
def finT (i : Nat) : SO → T SO
  | .nx e => if noXc (e.set i none) = true then .done (.nx (e.set i none)) else .bad
  | .bk e => if noXc (e.set i none) = true then .done (.bk (e.set i none)) else .bad
  | .ct e => if noXc (e.set i none) = true then .done (.ct (e.set i none)) else .bad
  | .rt r e => if noXc (e.set i none) = true then .done (.rt r (e.set i none)) else .bad
  | .ex C fs e => if noXc (e.set i none) = true then .done (.ex C fs (e.set i none)) else .bad
def vTry (mm : Str → Option Bool) (i : Nat) (body suite : VS) : VS := fun env => (body env).bind fun o => match o with
  | .ex C fs e => oT (mm C) fun b => if b = true then (if i < e.length ∧ noXc e = true then (suite (e.set i (some (.xc 0 .none none C fs)))).bind (finT i) else .bad) else .done (.ex C fs e)
  | o => .done o
instance {mm : Str → Option Bool} {i : Nat} {suite : Addr → Value → Option Addr → FSt} [hb : SimS f l m g] [hs : ∀ a cls d, @SimS ⟨a, cls, d⟩ (suite a cls d) l' m' g'] : SimS (sTry mm i f suite) (l ++ ([i] ++ l')) (m ++ ([i] ++ m')) (vTry mm i g g') := ⟨fun {env e p} r h => by
  refine hb.run r (T.all_mono (fun o ho => ?_) (T.all_bind.mp h))
  cases o with
  | nx e1 => exact fun e1' a b => ho e1' a b.left
  | rt s e1 => exact fun s' e1' a1 a b => ho s' e1' a1 a b.left
  | bk e1 => exact fun e1' a b => ho e1' a b.left
  | ct e1 => exact fun e1' a b => ho e1' a b.left
  | ex C fs e1 =>
    intro e1' a b
    obtain ⟨c, hc, ho⟩ := T.all_opt ho
    refine ⟨c, hc, fun hct => ?_, fun hcf => ?_⟩
    · rw [if_pos hct] at ho
      obtain ⟨⟨hi, hx⟩, ho⟩ := T.all_if ho
      refine ⟨by rw [a.len]; exact hi, fun ad cls d => ?_⟩
      have r2 : @ErE ⟨ad, cls, d⟩ (e1'.set i (some (.xc ad cls d C fs))) (e1.set i (some (.xc 0 .none none C fs))) := @ErE.set ⟨ad, cls, d⟩ _ _ _ _ i (ErE.xi hx a) (@ErO.xc ⟨ad, cls, d⟩ C fs)
      refine (hs ad cls d).run r2 (T.all_mono (fun o2 h2 => ?_) (T.all_bind.mp ho))
      have up : ∀ {e4' : Env}, Kp l' m' (e1'.set i (some (.xc ad cls d C fs))) e4' → Kp (l ++ ([i] ++ l')) (m ++ ([i] ++ m')) env e4' := fun k4 => b.trans (kp_put.trans k4)
      have up2 : ∀ {e4' : Env}, Kp l' m' (e1'.set i (some (.xc ad cls d C fs))) e4' → Kp (l ++ ([i] ++ l')) (m ++ ([i] ++ m')) env (e4'.set i none) := fun k4 => (up k4).tr (kp_put.left.right)
      cases o2 with
      | nx e2 =>
        obtain ⟨hn, h2⟩ := T.all_if h2
        exact fun e2' a2 b2 => h2 _ (ErE.xi hn (@ErE.set ⟨ad, cls, d⟩ _ _ _ _ i a2 (@ErO.non ⟨ad, cls, d⟩ _))) (up2 b2)
      | bk e2 =>
        obtain ⟨hn, h2⟩ := T.all_if h2
        exact fun e2' a2 b2 => h2 _ (ErE.xi hn (@ErE.set ⟨ad, cls, d⟩ _ _ _ _ i a2 (@ErO.non ⟨ad, cls, d⟩ _))) (up2 b2)
      | ct e2 =>
        obtain ⟨hn, h2⟩ := T.all_if h2
        exact fun e2' a2 b2 => h2 _ (ErE.xi hn (@ErE.set ⟨ad, cls, d⟩ _ _ _ _ i a2 (@ErO.non ⟨ad, cls, d⟩ _))) (up2 b2)
      | rt s e2 =>
        obtain ⟨hn, h2⟩ := T.all_if h2
        exact fun s' e2' a1 a2 b2 => h2 _ _ a1 (ErE.xi hn (@ErE.wipe1 ⟨ad, cls, d⟩ _ _ i a2)) (up b2)
      | ex C' fs' e2 =>
        obtain ⟨hn, h2⟩ := T.all_if h2
        exact fun e2' a2 b2 => h2 _ (ErE.xi hn (@ErE.wipe1 ⟨ad, cls, d⟩ _ _ i a2)) (up b2)
    · rw [if_neg (by rw [hcf]; exact Bool.false_ne_true)] at ho
      exact ho e1' a b.left⟩
end
end Pu

/-! ## Pv: defs; draws; comprehensions with effects -/
namespace Pu
open PySem PySem.Spec PyProof.Rows L2 Ed
/-! ### defs -/
def outsV : List Sl → Env → Option (List Sl)
  | [], _ => some []
  | .fz d :: ss, _ :: e => (outsV ss e).map (.fz d :: ·)
  | _ :: ss, some (.ow n) :: e => (outsV ss e).map (.ow n :: ·)
  | _ :: ss, some (.cu v c) :: e => (outsV ss e).map (.cu v c :: ·)
  | _, _ => none
/-- an argument that is lent is a container, and stays in its slot -/
def okPs (pm : List Nat) : Nat → List Sl → Bool
  | _, [] => true
  | j, .fz _ :: ss => okPs pm (j + 1) ss
  | _, .ow (.f _) :: _ => false
  | _, .xc _ _ _ _ _ :: _ => false
  | j, _ :: ss => !(pm.contains j) && okPs pm (j + 1) ss
def runF (pm : List Nat) (np n : Nat) (g : VS) : VF := fun us => if us.length = np ∧ okPs pm 0 us = true then (g (env0 n us)).bind fun o => match o with
    | .nx e => oT (outsV us e) fun us' => .done (.rt (.fz .non) us')
    | .rt r e => oT (outsV us e) fun us' => .done (.rt r us')
    | .ex C fs e => oT (outsV us e) fun us' => .done (.ex C fs us')
    | _ => .bad else .bad
theorem er_env0 [XI : Xi] {n : Nat} {ss us : List Sl} (h : ErL ss us) : ErE (env0 n ss) (env0 n us) := by
  unfold env0
  rw [h.len]
  generalize n - us.length = k
  induction h with
  | nil =>
    show ErE (List.replicate k none) (List.replicate k none)
    induction k with
    | zero => exact .nil
    | succ k ih => exact .cons (.non _) ih
  | cons a t ih => exact .cons (.som a) ih
theorem outsV_fz {d : D} {us us' : List Sl} {p : Option Sl} {e : Env} (h : outsV (.fz d :: us) (p :: e) = some us') : ∃ us1, outsV us e = some us1 ∧ us' = .fz d :: us1 := by
  unfold outsV at h
  cases q : outsV us e with
  | none =>
    rw [q] at h
    cases h
  | some r =>
    rw [q] at h
    cases h
    exact ⟨r, rfl, rfl⟩
theorem outsV_no {s : Sl} {us us' : List Sl} {p : Option Sl} {e : Env} (hs : ∀ d, s ≠ .fz d) (h : outsV (s :: us) (p :: e) = some us') : ∃ s' us1, p = some s' ∧ ((∃ n, s' = .ow n) ∨ ∃ v c, s' = .cu v c) ∧ outsV us e = some us1 ∧ us' = s' :: us1 := by
  unfold outsV at h
  split at h
  · rename_i z
    cases z
  · rename_i heq1 heq2
    cases heq1
    exact absurd rfl (hs _)
  · rename_i heq1 heq2
    cases heq1
    cases heq2
    cases q : outsV us e with
    | none =>
      rw [q] at h
      cases h
    | some r =>
      rw [q] at h
      cases h
      exact ⟨_, r, rfl, .inl ⟨_, rfl⟩, rfl, rfl⟩
  · rename_i heq1 heq2
    cases heq1
    cases heq2
    cases q : outsV us e with
    | none =>
      rw [q] at h
      cases h
    | some r =>
      rw [q] at h
      cases h
      exact ⟨_, r, rfl, .inr ⟨_, _, rfl⟩, rfl, rfl⟩
  · cases h
/-- what the arguments are behind the body -/
theorem outs_ok [XI : Xi] {l m pm lf : List Nat} {np : Nat} (hm : ∀ j ∈ m, j < np → j ∈ pm) (hl : ∀ j ∈ l, j < np → j ∈ lf) {ss us : List Sl} (r : ErL ss us) : ∀ {j : Nat} {us' : List Sl} {e' e : Env}, j + ss.length ≤ np → okPs pm j us = true → outsV us e = some us' → ErE e' e → ss.length ≤ e'.length →
    (∀ i s, ss[i]? = some s → (j + i ∉ l → e'[i]? = some (some s)) ∧ (j + i ∉ m → pinO e'[i]? = s.pin)) →
    Pins ss e' ∧ ErL (outs ss e') us' ∧ (outs ss e').length = ss.length ∧ (∀ i, j + i ∉ lf → (outs ss e')[i]? = ss[i]?) ∧ ∀ i : Nat, pinO ((outs ss e')[i]?.map some) = pinO (ss[i]?.map some) := by
  induction r with
  | nil =>
    intro j us' e' e _ _ h _ _ _
    cases h
    exact ⟨trivial, .nil, rfl, fun _ _ => rfl, fun _ => rfl⟩
  | @cons s t ss us a r ih =>
    intro j us' e' e hj ok h re hln hh
    cases re with
    | nil => cases hln
    | @cons o p e' e ro re =>
      have hj' : j + 1 + ss.length ≤ np := by
        have : (s :: ss).length = ss.length + 1 := rfl
        omega
      have hln' : ss.length ≤ e'.length := Nat.le_of_succ_le_succ hln
      have hjn : j < np := by
        have : (s :: ss).length = ss.length + 1 := rfl
        omega
      have hh' : ∀ i s, ss[i]? = some s → (j + 1 + i ∉ l → e'[i]? = some (some s)) ∧ (j + 1 + i ∉ m → pinO e'[i]? = s.pin) := fun i s hi => by
        have := hh (i + 1) s hi
        rw [show j + (i + 1) = j + 1 + i by omega] at this
        exact this
      have h0 := hh 0 s rfl
      cases a with
      | fz d =>
        obtain ⟨us1, h1, rfl⟩ := outsV_fz h
        obtain ⟨p1, p2, p3, p4, p5⟩ := ih hj' ok h1 re hln' hh'
        refine ⟨p1, .cons (.fz d) p2, congrArg (· + 1) p3, fun i hi => ?_, fun i => ?_⟩
        · cases i with
          | zero => rfl
          | succ i => exact p4 i (by rw [show j + 1 + i = j + (i + 1) by omega]; exact hi)
        · cases i with
          | zero => rfl
          | succ i => exact p5 i
      | ow n =>
        have okn : (∃ a, n.ad = some a) ∧ pm.contains j = false ∧ okPs pm (j + 1) us = true := by
          cases n with
          | f d => cases ok
          | _ =>
            unfold N.er okPs at ok
            rw [Bool.and_eq_true] at ok
            exact ⟨⟨_, rfl⟩, by simpa using ok.1, ok.2⟩
        obtain ⟨⟨ad, had⟩, hpm, ok'⟩ := okn
        have hjm : j + 0 ∉ m := fun z => by
          have := hm j z hjn
          rw [List.contains_eq_mem] at hpm
          simp [this] at hpm
        obtain ⟨s', us1, rfl, hs', h1, rfl⟩ := outsV_no (fun d z => by cases z) h
        have pp := h0.2 hjm
        have pp : pinO (some o) = some (true, .ref ad) := by
          have e1 : pinO ((o :: e')[0]?) = (Sl.ow n).pin := pp
          show pinO (some o) = _
          have e2 : (Sl.ow n).pin = some (true, .ref ad) := by
            show n.ad.map _ = _
            rw [had]
            rfl
          rw [← e2]
          exact e1
        obtain ⟨p1, p2, p3, p4, p5⟩ := ih hj' ok' h1 re hln' hh'
        cases ro with
        | som ro =>
          rename_i s0 _
          have hs0 : ∃ n' : N, s0 = Sl.ow n' ∧ n'.ad = some ad := by
            cases ro with
            | fz d => cases pp
            | ow n' =>
              refine ⟨n', rfl, ?_⟩
              have pp : n'.ad.map (fun a => (true, V.ref a)) = some (true, .ref ad) := pp
              cases q : n'.ad with
              | none =>
                rw [q] at pp
                cases pp
              | some x =>
                rw [q] at pp
                cases pp
                rfl
            | src a => cases pp
          obtain ⟨n', rfl, hn'⟩ := hs0
          refine ⟨⟨⟨n', ad, had, hn', rfl⟩, p1⟩, .cons ro p2, congrArg (· + 1) p3, fun i hi => ?_, fun i => ?_⟩
          · cases i with
            | zero =>
              have := h0.1 fun z => hi (hl _ z hjn)
              cases this
              rfl
            | succ i => exact p4 i (by rw [show j + 1 + i = j + (i + 1) by omega]; exact hi)
          · cases i with
            | zero =>
              show n'.ad.map _ = n.ad.map _
              rw [hn', had]
            | succ i => exact p5 i
        | xc C fs =>
          rcases hs' with ⟨n', z⟩ | ⟨v, c, z⟩ <;> cases z
      | src a =>
        have okn : pm.contains j = false ∧ okPs pm (j + 1) us = true := by
          unfold srcT okPs at ok
          rw [Bool.and_eq_true] at ok
          exact ⟨by simpa using ok.1, ok.2⟩
        obtain ⟨hpm, ok'⟩ := okn
        have hjm : j + 0 ∉ m := fun z => by
          have := hm j z hjn
          rw [List.contains_eq_mem] at hpm
          simp [this] at hpm
        obtain ⟨s', us1, rfl, hs', h1, rfl⟩ := outsV_no (fun d z => by cases z) h
        have pp : pinO (some o) = some (false, .ref a) := h0.2 hjm
        obtain ⟨p1, p2, p3, p4, p5⟩ := ih hj' ok' h1 re hln' hh'
        cases ro with
        | som ro =>
          rename_i s0
          have hs0 : ∃ c, s0 = .cu (.ref a) c := by
            cases ro with
            | fz d => cases pp
            | ow n' =>
              have pp : n'.ad.map (fun a => (true, V.ref a)) = some (false, .ref a) := pp
              cases q : n'.ad with
              | none =>
                rw [q] at pp
                cases pp
              | some x =>
                rw [q] at pp
                cases pp
            | src b =>
              cases pp
              exact ⟨_, rfl⟩
          obtain ⟨c, rfl⟩ := hs0
          refine ⟨⟨⟨c, rfl⟩, p1⟩, .cons ro p2, congrArg (· + 1) p3, fun i hi => ?_, fun i => ?_⟩
          · cases i with
            | zero =>
              have := h0.1 fun z => hi (hl _ z hjn)
              cases this
              rfl
            | succ i => exact p4 i (by rw [show j + 1 + i = j + (i + 1) by omega]; exact hi)
          · cases i with
            | zero => rfl
            | succ i => exact p5 i
        | xc C fs =>
          rcases hs' with ⟨n', z⟩ | ⟨v, c, z⟩ <;> cases z
theorem env0_get {n : Nat} {ss : List Sl} {i : Nat} {s : Sl} (h : ss[i]? = some s) : (env0 n ss)[i]? = some (some s) := by
  unfold env0
  have hi : i < ss.length := (List.getElem?_eq_some_iff.mp h).1
  rw [List.getElem?_append_left (by rw [List.length_map]; exact hi), List.getElem?_map, h]
  rfl
theorem env0_len {n : Nat} {ss : List Sl} : ss.length ≤ (env0 n ss).length := by
  unfold env0
  rw [List.length_append, List.length_map]
  omega
theorem simF {f : FSt} {l m pm lf : List Nat} {g : VS} {np n : Nat} (hs : ∀ XI : Xi, @SimS XI f l m g) (hm : ∀ j ∈ m, j < np → j ∈ pm) (hl : ∀ j ∈ l, j < np → j ∈ lf) (ss : List Sl) (q : Sl → List Sl → Prop) (w : Str → List (Str × D) → List Sl → Prop)
    (h : CV lf (runF pm np n g) ss q w) : f (env0 n ss) (endsP ss q w) := by
  letI XI : Xi := ⟨0, .none, none⟩
  obtain ⟨us, r, h⟩ := h
  obtain ⟨⟨hn, ok⟩, h⟩ := T.all_if h
  have key : ∀ {e' e : Env} {us' : List Sl}, outsV us e = some us' → ErE e' e → Kp l m (env0 n ss) e' → Pins ss e' ∧ ErL (outs ss e') us' ∧ Kp lf [] (ss.map some) ((outs ss e').map some) := fun {e' e us'} ho re k => by
    obtain ⟨p1, p2, p3, p4, p5⟩ := outs_ok (j := 0) (np := np) hm hl r (by rw [Nat.zero_add, r.len, hn]; exact Nat.le_refl _) ok ho re (by rw [k.len]; exact env0_len) fun i s hi => by
      rw [Nat.zero_add]
      have e0 := env0_get (n := n) hi
      exact ⟨fun z => by rw [k.eq i z, e0], fun z => by rw [k.pin i z, e0]; rfl⟩
    refine ⟨p1, p2, ⟨by rw [List.length_map, List.length_map]; exact p3, fun j hj => ?_, fun j _ => ?_⟩⟩
    · rw [map_some_get, map_some_get, p4 j (by rw [Nat.zero_add]; exact hj)]
    · rw [map_some_get, map_some_get]
      exact p5 j
  refine (hs XI).run (er_env0 r) (T.all_mono (fun o ho => ?_) (T.all_bind.mp h))
  cases o with
  | nx e =>
    intro e' a b
    obtain ⟨us', h1, ho⟩ := T.all_opt ho
    obtain ⟨p1, p2, p3⟩ := key h1 a b
    exact ⟨p1, ho _ _ (.fz _) p2 p3⟩
  | rt s e =>
    intro s' e' a1 a b
    obtain ⟨us', h1, ho⟩ := T.all_opt ho
    obtain ⟨p1, p2, p3⟩ := key h1 a b
    exact ⟨p1, ho _ _ a1 p2 p3⟩
  | ex C fs e =>
    intro e' a b
    obtain ⟨us', h1, ho⟩ := T.all_opt ho
    obtain ⟨p1, p2, p3⟩ := key h1 a b
    exact ⟨p1, ho _ p2 p3⟩
  | bk e => exact ho.elim
  | ct e => exact ho.elim
/-! ### draws -/
def V_draw : VF := fun us => match us with
  | [.cu .non c, .fz (.int m)] => .draw m fun r => .done (.rt (.fz (.int r)) [srcT, .fz (.int m)])
  | _ => .bad
theorem erL_nil {ss : List Sl} (h : ErL ss []) : ss = [] := by
  cases h
  rfl
theorem cv_draw (ss : List Sl) (q : Sl → List Sl → Prop) (w : Str → List (Str × D) → List Sl → Prop) (h : CV [] V_draw ss q w) : CDraw ss q w := by
  letI XI : Xi := ⟨0, .none, none⟩
  obtain ⟨us, r, h⟩ := h
  unfold V_draw at h
  split at h
  · rename_i c m
    cases r with
    | @cons s1 _ _ _ a r =>
      cases r with
      | cons b r =>
        rw [erL_nil r, b.fz_inv]
        rw [erL_nil r, b.fz_inv] at h
        have : ∃ x, s1 = src x := by
          generalize e : Sl.cu .non c = t at a
          cases a with
          | src x => exact ⟨x, rfl⟩
          | fz d => cases e
          | ow n => cases e
        obtain ⟨x, rfl⟩ := this
        exact ⟨x, m, rfl, h.1, h.2.1, fun r h1 h2 => h.2.2 r h1 h2 _ _ (.fz _) (.cons (.src x) (.cons (.fz _) .nil)) .refl⟩
  · exact h.elim
/-! ### comprehensions with effects -/
def bN {α β : Type} (t : T (O α)) (k : α → Env → T (O β)) : T (O β) := t.bind fun o => match o with
  | .ok a e => k a e
  | .ex _ _ _ => .bad
def lcL (vs : List Nat) (st : Tg) (t : VT) (x : VX) : List D → List D → Env → T (O (List D))
  | [], acc, e => .done (.ok acc e)
  | d :: ds, acc, e => oT (st d e) fun e1 => bN (t e1) fun c e2 => if c = true then bN (x e2) fun r e3 => oT r.fzD fun y => lcL vs st t x ds (acc ++ [y]) (wipeE e3 vs) else lcL vs st t x ds acc (wipeE e2 vs)
def vxLc (fi : VI) (vs : List Nat) (st : Tg) (t : VT) (x : VX) : VX := fun env => bO (fi env) fun ds e1 => if ds.length ≤ sizeLine then bO (lcL vs st t x ds [] (wipeE e1 vs)) fun acc e2 => .done (.ok (.ow (ol 0 acc)) (resE e1 e2 vs)) else .bad
section
variable [XI : Xi]
variable {fa : FX} {ga : VX} {la ma lt lc mc li mi : List Nat} {ta : FT} {va : VT} {fi : FI} {vi : VI} {st : Tg}
theorem kp_wipe {e : Env} : ∀ {vs : List Nat}, Kp vs vs e (wipeE e vs)
  | [] => .refl
  | v :: vs => (kp_wipe (vs := vs)).mono (fun _ => List.mem_cons_of_mem _) (fun _ => List.mem_cons_of_mem _) |>.tr ((kp_put (i := v)).mono (fun j hj => by rw [List.mem_singleton.mp hj]; exact List.mem_cons_self) fun j hj => by rw [List.mem_singleton.mp hj]; exact List.mem_cons_self)
theorem kp_res {e1 : Env} : ∀ {vs : List Nat} {e2 : Env}, Kp vs vs e2 (resE e1 e2 vs)
  | [], _ => .refl
  | v :: vs, e2 => by
    have a : Kp (v :: vs) (v :: vs) e2 (e2.set v (keepE e1 v)) := (kp_put (i := v)).mono (fun j hj => by rw [List.mem_singleton.mp hj]; exact List.mem_cons_self) fun j hj => by rw [List.mem_singleton.mp hj]; exact List.mem_cons_self
    exact a.tr ((kp_res (vs := vs)).mono (fun _ => List.mem_cons_of_mem _) fun _ => List.mem_cons_of_mem _)
theorem er_keep {e1' e1 : Env} (r : ErE e1' e1) (v : Nat) : ErO (keepE e1' v) (keepE e1 v) := by
  unfold keepE
  cases h : e1[v]? with
  | none => exact .non _
  | some o =>
    cases o with
    | none => exact .non _
    | some s =>
      cases s with
      | fz d =>
        obtain ⟨s', hs', es⟩ := r.get h
        rw [es.fz_inv] at hs'
        rw [hs']
        exact .som (.fz d)
      | _ => exact .non _
theorem er_res {e1' e1 : Env} (r : ErE e1' e1) : ∀ {vs : List Nat} {e2' e2 : Env}, ErE e2' e2 → ErE (resE e1' e2' vs) (resE e1 e2 vs)
  | [], _, _, h => h
  | v :: vs, _, _, h => er_res r (vs := vs) (h.set v (er_keep r v))
instance {vs : List Nat} [hi : SimI fi li mi vi] [ht : EqvT lt st] [hc : SimT ta lc mc va] [hx : SimX fa la ma ga] : SimX (xLc fi vs st ta fa) (li ++ (vs ++ (lt ++ (lc ++ la)))) (mi ++ (vs ++ (lt ++ (mc ++ ma)))) (vxLc vi vs st va ga) := ⟨fun {env e q w} r h => by
  refine hi.run r (T.all_mono (fun o ho => ?_) (T.all_bind.mp h))
  cases o with
  | ex C fs e1 => exact fun e1' a b => ho e1' a b.left
  | ok ds e1 =>
    intro e1' a b
    obtain ⟨hl, z⟩ := T.all_if ho
    refine ⟨hl, fun i acc env2 => ∃ e2, ErE env2 e2 ∧ Kp (vs ++ (lt ++ (lc ++ la))) (vs ++ (lt ++ (mc ++ ma))) e1' env2 ∧ (lcL vs st va ga (ds.drop i) acc e2).All (fun o => ∃ acc2 e3, o = .ok acc2 e3 ∧ ∀ r' e', ErS r' (.ow (ol 0 acc2)) → ErE e' (resE e1 e3 vs) → Kp (li ++ (vs ++ (lt ++ (lc ++ la)))) (mi ++ (vs ++ (lt ++ (mc ++ ma)))) env e' → q r' e'), ⟨wipeE e1 vs, a.wipe2 vs, kp_wipe.left, ?_⟩, ?_, ?_⟩
    · have nox : ∀ (ds acc : List D) (e : Env) (P : O (List D) → Prop), (lcL vs st va ga ds acc e).All P → (lcL vs st va ga ds acc e).All fun o => P o ∧ ∃ a2 e3, o = .ok a2 e3 := by
        intro ds
        induction ds with
        | nil => intro acc e P hP; exact ⟨hP, acc, e, rfl⟩
        | cons d ds ih =>
          intro acc e P hP
          have hP : (oT (st d e) fun e1 => bN (va e1) fun c e2 => if c = true then bN (ga e2) fun r e3 => oT r.fzD fun y => lcL vs st va ga ds (acc ++ [y]) (wipeE e3 vs) else lcL vs st va ga ds acc (wipeE e2 vs)).All P := hP
          obtain ⟨e1, h1, hP⟩ := T.all_opt hP
          show (oT (st d e) fun e1 => bN (va e1) fun c e2 => if c = true then bN (ga e2) fun r e3 => oT r.fzD fun y => lcL vs st va ga ds (acc ++ [y]) (wipeE e3 vs) else lcL vs st va ga ds acc (wipeE e2 vs)).All _
          rw [h1]
          refine T.all_bind.mpr (T.all_mono (fun o ho => ?_) (T.all_bind.mp hP))
          cases o with
          | ex C fs e2 => exact ho.elim
          | ok c e2 =>
            cases c with
            | false => exact ih _ _ _ ho
            | true =>
              refine T.all_bind.mpr (T.all_mono (fun o2 ho2 => ?_) (T.all_bind.mp ho))
              cases o2 with
              | ex C fs e3 => exact ho2.elim
              | ok s e3 =>
                obtain ⟨y, hy, ho2⟩ := T.all_opt ho2
                show (oT s.fzD _).All _
                rw [hy]
                exact ih _ _ _ ho2
      refine T.all_mono (fun o ho => ?_) (nox ds [] _ _ (T.all_bind.mp z))
      obtain ⟨ho, a2, e3, rfl⟩ := ho
      exact ⟨a2, e3, rfl, ho⟩
    · rintro i d acc env2 hd ⟨e2, r2, k2, z2⟩
      have hi : i < ds.length := (List.getElem?_eq_some_iff.mp hd).1
      have ed : ds.drop i = d :: ds.drop (i + 1) := by
        rw [List.drop_eq_getElem_cons hi, (List.getElem?_eq_some_iff.mp hd).2]
      rw [ed] at z2
      obtain ⟨e3, h3, z3⟩ := T.all_opt z2
      obtain ⟨e3', q1, q2, q3, q4⟩ := ht.run r2 h3
      refine ⟨e3', q1, hc.run q2 (T.all_mono (fun o ho => ?_) (T.all_bind.mp z3))⟩
      have k3 : Kp (vs ++ (lt ++ (lc ++ la))) (vs ++ (lt ++ (mc ++ ma))) e1' e3' := k2.tr ((kp_tg q3 q4).left.right)
      cases o with
      | ex C fs e4 => exact ho.elim
      | ok c e4 =>
        intro e4' a4 b4
        have k4 : Kp (vs ++ (lt ++ (lc ++ la))) (vs ++ (lt ++ (mc ++ ma))) e1' e4' := k3.tr b4.left.right.right
        cases c with
        | false =>
          rw [if_neg Bool.false_ne_true]
          exact ⟨_, a4.wipe2 vs, k4.tr kp_wipe.left, ho⟩
        | true =>
          rw [if_pos rfl]
          refine hx.run a4 (T.all_mono (fun o2 ho2 => ?_) (T.all_bind.mp ho))
          cases o2 with
          | ex C fs e5 => exact ho2.elim
          | ok s e5 =>
            intro s' e5' as a5 b5
            obtain ⟨y, hy, ho2⟩ := T.all_opt ho2
            exact ⟨y, as.fzD hy, _, a5.wipe2 vs, (k4.tr b5.right.right.right).tr kp_wipe.left, ho2⟩
    · rintro acc env2 ⟨e2, r2, k2, z2⟩ v
      rw [List.drop_length] at z2
      obtain ⟨acc2, e3, he, hq⟩ := z2
      cases he
      exact hq _ _ (by rw [← ol_er v acc]; exact .ow _) (er_res a r2) (b.trans (k2.tr kp_res.left))⟩
end
end Pu

/-! ## Pv: the law; errors made; simulation of a whole def -/
namespace Pu
open PySem PySem.Spec PyProof.Rows L2 Ed
/-- f does what g says; of the first np slots pm may lie elsewhere, lf may have changed -/
def SimFn (f : FSt) (pm lf : List Nat) (np : Nat) (g : VS) : Prop := ∃ l m, (∀ XI : Xi, @SimS XI f l m g) ∧ (∀ j ∈ m, j < np → j ∈ pm) ∧ ∀ j ∈ l, j < np → j ∈ lf
theorem SimFn.run {f : FSt} {pm lf : List Nat} {np n : Nat} {g : VS} (h : SimFn f pm lf np g) (ss : List Sl) (q : Sl → List Sl → Prop) (w : Str → List (Str × D) → List Sl → Prop) (hc : CV lf (runF pm np n g) ss q w) : f (env0 n ss) (endsP ss q w) := by
  obtain ⟨l, m, hs, hm, hl⟩ := h
  exact simF hs hm hl ss q w hc
theorem spP_imp {K : PySem.W.Frag} {n : Nat} {C C' : FS} (hC : ∀ ss q w, C' ss q w → C ss q w) {vs : List V} {H : Hp} {Q : VK} {E : XK} (h : spP K n C' vs H Q E) : spP K n C vs H Q E := by
  obtain ⟨ss, F, Ms, M0, q, w, hn, sa, o, hc, kq, kw⟩ := h
  exact ⟨ss, F, Ms, M0, q, w, hn, sa, o, hC _ _ _ hc, kq, kw⟩
/-- of a def that raises nothing -/
def CV0 (lf : List Nat) (G : VF) : FS := fun ss q _ => CV lf G ss q fun _ _ _ => False
instance [XI : Xi] {aa : FA} {wa : VA} {lb mb lf : List Nat} {bs : List (Option Nat)} {G : VF} {n : Nat} [ha : SimA aa bs lb mb wa] : SimX (xCall0 n (CV0 lf G) aa) (lb ++ tchA lf 0 bs) (mb ++ []) (vxCall0 n G wa) := inferInstanceAs (SimX (xCall0 n (CV lf G) aa) (lb ++ tchA lf 0 bs) (mb ++ []) (vxCall0 n G wa))
theorem SimFn.run0 {f : FSt} {pm lf : List Nat} {np n : Nat} {g : VS} (h : SimFn f pm lf np g) (ss : List Sl) (q : Sl → List Sl → Prop) (w : Str → List (Str × D) → List Sl → Prop) (hc : CV0 lf (runF pm np n g) ss q w) : f (env0 n ss) (endsP ss q w) := by
  letI XI : Xi := ⟨0, .none, none⟩
  refine h.run (n := n) ss q w ?_
  obtain ⟨us, r, hc⟩ := hc
  refine ⟨us, r, T.all_mono (fun o ho => ?_) hc⟩
  cases o with
  | rt r us => exact ho
  | ex C fs us => exact fun ss' a b => (ho ss' a b).elim
theorem cv0_draw (ss : List Sl) (q : Sl → List Sl → Prop) (w : Str → List (Str × D) → List Sl → Prop) (h : CV0 [] V_draw ss q w) : CDraw ss q w := by
  obtain ⟨a, m, h1, h2, h3, h4⟩ := cv_draw ss q _ h
  exact ⟨a, m, h1, h2, h3, h4⟩
theorem cv_bad {lf : List Nat} {ss : List Sl} {q : Sl → List Sl → Prop} {w : Str → List (Str × D) → List Sl → Prop} (h : CV lf (fun _ => .bad) ss q w) : False := by
  obtain ⟨us, r, h⟩ := h
  exact h
/-! ### small words -/
section
variable {X : Cx} {K : PySem.W.Frag} {W : WX} {e it tg : Expr} {st : Stmt} {sts body : List Stmt} {f : FSt} {ft : FT} {fi : FI} {pos : Pos} {i : Nat} {l : List Nat} {sg : Tg}
theorem pps_wp (vs : List Nat) (h : PPs X K W sts f) : PPs X K W sts (sWp vs f) := h
theorem pp_forW (vs : List Nat) (hp : PassesOwn (model X.prog X.w) X.A X.env X.xe) (hc : X.calm = true) (hi : PIX X K W tg it fi) (hg : PTg X K tg l sg) (hb : PPs X K W body f) (hs : ∀ x, foldedSetIterable it X.env x = pure x := by intro _; rfl) : PP X K W (.For tg it body [] pos) (sForW vs fi sg f) := pp_for hp hc hi hg hb hs
theorem pp_whileW (n : Nat) (vs : List Nat) (hp : PassesOwn (model X.prog X.w) X.A X.env X.xe) (hc : PXT X K W e ft) (hb : PPs X K W body f) : PP X K W (.While e body [] pos) (sWhileW n vs ft f) := pp_while hp hc hb
/-- a name that is not needed any more -/
def xRd (i : Nat) : FX := fun env q _ => (∃ n, env[i]? = some (some (.ow n)) ∧ q (.ow n) (env.set i none)) ∨ ∃ d, env[i]? = some (some (.fz d)) ∧ q (.fz d) env
def vxRd (i : Nat) : VX := fun env => match env[i]? with
  | some (some (.ow n)) => .done (.ok (.ow n) (env.set i none))
  | some (some (.fz d)) => .done (.ok (.fz d) env)
  | _ => .bad
theorem rep_some {F : Hp} : ∀ {σ : L2.St} {e : Env} {M : Cells} {i : Nat} {v : V}, Rep K F σ e M → σ[i]? = some (some v) → e[i]? = some none → Rep K F σ e M := fun r _ _ => r
theorem px_rd (h : PE X e (tVar i)) : PX X K W e (xRd i) := fun hK => pe_imp h fun σ H Q ⟨env, F, M, M0, q, w, rp, o, hx, k, kw⟩ => by
  rcases hx with ⟨n, hn, hq⟩ | ⟨d, hd, hq⟩
  · obtain ⟨v, S, M', hv, sl, pm, rp'⟩ := rp.out hn
    refine ⟨v, hv, k _ _ v S F M' H hq (Same.refl _) sl rp' ?_⟩
    rw [← List.append_assoc]
    exact o.perm (perm_tail pm)
  · obtain ⟨v, A, S, B, hv, ⟨rfl, r⟩, _, _⟩ := rp.at hd
    exact ⟨v, hv, k _ _ v [] F M H hq (Same.refl _) ⟨rfl, r⟩ rp o⟩
end
instance [XI : Xi] {i : Nat} : SimX (xRd i) [i] [i] (vxRd i) := ⟨fun {env e q w} r h => by
  unfold vxRd at h
  split at h
  · rename_i n hn
    obtain ⟨s, hs, es⟩ := r.get hn
    obtain ⟨m, rfl, hm⟩ := es.ow_inv
    exact .inl ⟨m, hs, h _ _ (hm ▸ .ow m) (r.set i (.non _)) kp_put⟩
  · rename_i d hd
    obtain ⟨s, hs, es⟩ := r.get hd
    rw [es.fz_inv] at hs
    exact .inr ⟨d, hs, h _ _ (.fz d) r .refl⟩
  · exact h.elim⟩
/-- xs.index(y), of flat things -/
def indexD : D → D → Option D := fun x y => match x with
  | .lst ds => if flatD y = true ∧ ds.all flatD = true then (ds.findIdx? fun z => eqV z.v y.v).map fun j => .int (j : Nat) else none
  | _ => none
theorem pd_index {X : Cx} {K : PySem.W.Frag} {c : Expr} {g g' : G} (h : PE X c (tBM X.K "list" (rIndex K) (LG K g) (tCons (LG K g') tNil))) : PD X K c (gOp (fOp indexD) g g') := fun hK => by
  subst hK
  refine pe_imp h fun σ H Q ⟨env, F, M, M0, n, rp, o, hg, k⟩ => ?_
  obtain ⟨x, y, h1, h2, h3⟩ := gOp_some hg
  unfold fOp at h3
  cases q : indexD x.toD y.toD with
  | none =>
    rw [q] at h3
    cases h3
  | some d =>
    rw [q] at h3
    cases h3
    unfold indexD at q
    split at q
    · rename_i ds hx
      split at q
      · rename_i hf
        cases qi : ds.findIdx? (fun z => eqV z.v y.toD.v) with
        | none =>
          rw [qi] at q
          cases q
        | some j =>
          rw [qi] at q
          cases q
          refine ⟨env, F, M, M0, x, rp, o, h1, fun v F1 H1 s1 o1 w1 => ?_⟩
          have r1 := w1.rp o1
          rw [hx] at r1
          obtain ⟨a, vs, rfl, ha, ra⟩ := rp_lst r1
          refine ⟨.inl ⟨rfl, vs, SqL.of ha⟩, env, F1, M, M0, y, rp.mono s1, o1, h2, fun u F2 H2 s2 o2 w2 => ?_⟩
          have r2 := (w1.mono s2).rp o2
          rw [hx] at r2
          obtain ⟨a', vs', e', ha', ra'⟩ := rp_lst r2
          cases e'
          have ev := rpAll_flat ra' hf.2
          have eu := flat_rp (w2.rp o2) hf.1
          subst ev
          subst eu
          rw [List.findIdx?_eq_some_iff_getElem] at qi
          obtain ⟨hj, hz, hno⟩ := qi
          refine ⟨_, _, _, j, _, rfl, rfl, SqL.of ha', flatV_v, all_flatV ds, by rw [List.getElem?_map, List.getElem?_eq_getElem hj]; rfl, hz, fun m z' hm hz' => ?_, k _ F2 H2 (s1.trans s2) o2 (Vw.of (.int _))⟩
          rw [List.getElem?_map, List.getElem?_eq_getElem (Nat.lt_trans hm hj)] at hz'
          cases hz'
          have := hno m hm
          simpa using this
      · cases q
    · cases q
/-- a list of two lists -/
def xCat (fa fb : FX) : FX := fun env q w => xD fa env w fun d1 env1 => xD fb env1 w fun d2 env2 => ∃ ds es, d1 = .lst ds ∧ d2 = .lst es ∧ ds.length + es.length ≤ sizeLine ∧ ∀ a, q (.ow (ol a (ds ++ es))) env2
def vxCat (a b : VX) : VX := fun env => vD (a env) fun d1 e1 => vD (b e1) fun d2 e2 => oT (lstOf d1) fun ds => oT (lstOf d2) fun es => if ds.length + es.length ≤ sizeLine then .done (.ok (.ow (ol 0 (ds ++ es))) e2) else .bad
theorem lstOf_inv {d : D} {ds : List D} (h : lstOf d = some ds) : d = .lst ds := by
  unfold lstOf at h
  split at h
  · cases h
    rfl
  · cases h
instance [XI : Xi] {fa fb : FX} {ga gb : VX} {la ma lb mb : List Nat} [ha : SimX fa la ma ga] [hb : SimX fb lb mb gb] : SimX (xCat fa fb) (la ++ lb) (ma ++ mb) (vxCat ga gb) := ⟨fun {env e q w} r h =>
  simX_d r h (fun d1 e1 e1' a b z => simX_d a z (fun d2 e2 e2' a2 b2 z2 => by
    obtain ⟨ds, hd, z2⟩ := T.all_opt z2
    obtain ⟨es, he, z2⟩ := T.all_opt z2
    obtain ⟨hl, z2⟩ := T.all_if z2
    exact ⟨ds, es, lstOf_inv hd, lstOf_inv he, hl, fun v => z2 _ _ (by rw [← ol_er v]; exact .ow _) a2 (b.trans b2)⟩) fun C fs e2 hx e2' a2 b2 => hx e2' a2 (b.trans b2)) fun C fs e1 hx e1' a b => hx e1' a b.left⟩
theorem px_cat {X : Cx} {K : PySem.W.Frag} {W : WX} {a b : Expr} {fa fb : FX} {pos : Pos} (ha : PX X K W a fa) (hb : PX X K W b fb) : PX X K W (.BinOp a .Add b pos) (xCat fa fb) := fun hK => pe_imp (pe_op op_cat (ha hK) (hb hK)) fun σ H Q ⟨env, F, M, M0, q, w, rp, o, h, k, kw⟩ =>
  lx_d rp o h kw fun d1 env1 v1 F1 M1 H1 h1 s1 r1 rp1 o1 => lx_d rp1 o1 h1 (kw.up s1) fun d2 env2 v2 F2 M2 H2 ⟨ds, es, e1, e2, hl, hq⟩ s2 r2 rp2 o2 => by
    subst e1
    subst e2
    obtain ⟨p1, vs1, rfl, hp1, ra1⟩ := rp_lst (r1.mono s2)
    obtain ⟨p2, vs2, rfl, hp2, ra2⟩ := rp_lst r2
    refine ⟨p1, p2, vs1, vs2, rfl, rfl, o2.fr _ _ hp1, o2.fr _ _ hp2, by rw [ra1.len, ra2.len]; exact hl, fun p np => ?_⟩
    exact k _ env2 _ [(p, .lst (vs1 ++ vs2))] F2 M2 _ (hq p) (s1.trans s2) (ow_ol (ra1.app ra2)) rp2 (o2.newM np)
/-- a try whose suite has a name -/
def sTryW (_ _ : List Nat) (m : Str → Option Bool) (i : Nat) (body : FSt) (suite : Addr → Value → Option Addr → FSt) : FSt := sTry m i body suite
class SimSu (suite : Addr → Value → Option Addr → FSt) (ls ms : List Nat) (g : outParam VS) : Prop where
  run : ∀ a cls d, @SimS ⟨a, cls, d⟩ (suite a cls d) ls ms g
theorem SimSu.of {suite : Addr → Value → Option Addr → FSt} {l m ls ms : List Nat} {g : VS} (h : ∀ a cls d, @SimS ⟨a, cls, d⟩ (suite a cls d) l m g) (hl : ∀ j ∈ l, j ∈ ls) (hm : ∀ j ∈ m, j ∈ ms) : SimSu suite ls ms g :=
  ⟨fun a cls d => letI : Xi := ⟨a, cls, d⟩; ⟨fun r z => (h a cls d).run r (T.all_mono (fun o ho => postS_up hl hm ho) z)⟩⟩
instance [XI : Xi] {ls ms l m : List Nat} {mm : Str → Option Bool} {i : Nat} {f : FSt} {g g' : VS} {suite : Addr → Value → Option Addr → FSt} [hb : SimS f l m g] [hs : SimSu suite ls ms g'] : SimS (sTryW ls ms mm i f suite) (l ++ ([i] ++ ls)) (m ++ ([i] ++ ms)) (vTry mm i g g') :=
  haveI := hs.run
  inferInstanceAs (SimS (sTry mm i f suite) (l ++ ([i] ++ ls)) (m ++ ([i] ++ ms)) (vTry mm i g g'))
/-- which errors a clause takes -/
def exmT (l : List (Str × Bool)) : Str → Option Bool := fun C => (l.find? fun p => decide (p.1 = C)).map Prod.snd
theorem exmT_ok {K : PySem.W.Frag} {c : Value} : ∀ {l : List (Str × Bool)}, (∀ p ∈ l, PySem.W.exmOne K (.ref (He.ga K p.1)) c = some p.2) → ∀ C b, exmT l C = some b → PySem.W.exmOne K (.ref (He.ga K C)) c = some b
  | [], _, C, b, h => by cases h
  | p :: l, hl, C, b, h => by
    unfold exmT at h
    rw [List.find?_cons] at h
    split at h
    · rename_i hp
      cases h
      rw [← of_decide_eq_true hp]
      exact hl p List.mem_cons_self
    · exact exmT_ok (fun q hq => hl q (List.mem_cons_of_mem _ hq)) C b h
theorem exm_nil {K : PySem.W.Frag} {c : Value} : ∀ p ∈ ([] : List (Str × Bool)), PySem.W.exmOne K (.ref (He.ga K p.1)) c = some p.2 := fun _ h => (nomatch h)
theorem exm_cons {K : PySem.W.Frag} {c : Value} {C : Str} {b : Bool} {l : List (Str × Bool)} (h : PySem.W.exmOne K (.ref (He.ga K C)) c = some b) (t : ∀ p ∈ l, PySem.W.exmOne K (.ref (He.ga K p.1)) c = some p.2) : ∀ p ∈ (C, b) :: l, PySem.W.exmOne K (.ref (He.ga K p.1)) c = some p.2 := fun p hp => by
  rcases List.mem_cons.mp hp with rfl | hp
  · exact h
  · exact t p hp
/-! ### the law -/
def TrueT : SO → Prop
  | .rt (.fz (.bl true)) _ => True
  | _ => False
theorem law_of {K : PySem.W.Frag} {rest : FSt} {pm lf : List Nat} {n : Nat} {g : VS} (h : SimFn rest [] lf 1 g) (hg : (g (none :: some srcT :: List.replicate n none)).All TrueT) (ss : List Sl) (q : Sl → List Sl → Prop) (w : Str → List (Str × D) → List Sl → Prop)
    (hC : CLaw K ss q w) : (sSeq (sSet 1 (xCall0 1 (CSource K) (aB 0 aNil))) rest) (env0 (n + 2) ss) (endsP ss q w) := by
  letI XI : Xi := ⟨0, .none, none⟩
  obtain ⟨a, ns, rfl, hl, hq⟩ := hC
  obtain ⟨l, m, hs, hm, _⟩ := h
  show xCall0 1 (CSource K) (aB 0 aNil) (env0 (n + 2) [scr K a ns]) (fun r env' => 1 < env'.length ∧ rest (env'.set 1 (some r)) (endsP [scr K a ns] q w)) (endsP [scr K a ns] q w).ex
  refine x_source (K := K) (a := a) (ns := ns) (env0_get rfl) hl fun b => ⟨by unfold env0; rw [List.length_append, List.length_map, List.length_replicate]; show 1 < 1 + (n + 2 - 1); omega, ?_⟩
  have e1 : (env0 (n + 2) [scr K a ns]).set 1 (some (src b)) = some (scr K a ns) :: some (src b) :: List.replicate n none := by
    unfold env0
    show (some (scr K a ns) :: List.replicate (n + 2 - 1) none).set 1 (some (src b)) = _
    rw [show n + 2 - 1 = n + 1 by omega, List.replicate_succ]
    rfl
  show rest ((env0 (n + 2) [scr K a ns]).set 1 (some (src b))) _
  rw [e1]
  have rr : ErE (List.replicate n none) (List.replicate n none) := by
    clear hg e1
    induction n with
    | zero => exact .nil
    | succ n ih => exact .cons (.non _) ih
  refine (hs XI).run (.cons (.non _) (.cons (.som (.src b)) rr)) (T.all_mono (fun o ho => ?_) hg)
  unfold TrueT at ho
  split at ho
  · intro r' e' a1 a2 k
    have := a1.fz_inv
    subst this
    refine ⟨?_, hq _⟩
    have p0 := k.pin 0 fun z => (nomatch hm 0 z (by decide))
    cases e' with
    | nil =>
      have := k.len
      cases this
    | cons o e' =>
      have p0 : pinO (some o) = some (false, .ref a) := p0
      refine ⟨?_, trivial⟩
      cases o with
      | none => cases p0
      | some s =>
        cases s with
        | fz d => cases p0
        | ow n' =>
          have p0 : n'.ad.map (fun a => (true, V.ref a)) = some (false, .ref a) := p0
          cases qn : n'.ad with
          | none =>
            rw [qn] at p0
            cases p0
          | some x =>
            rw [qn] at p0
            cases p0
        | cu v c =>
          cases p0
          exact ⟨c, rfl⟩
        | xc x cls d C fs => cases p0
  · exact ho.elim
/-! ### errors made -/
def okL : List D → Bool
  | [.lst _] => true
  | _ => false
def nmL (f : Str) : List D → List (Str × D)
  | [.lst xs] => [(f, .lst xs)]
  | _ => []
theorem hm_list {K : PySem.W.Frag} {C f : Str} {F H : Hp} {M : Cells} {vs : List V} {ds : List D} {Q : XK} (o : Own F M H) (r : RpAll K F vs ds) (ok : okL ds = true) (k : ∀ d F' H' fvs, Same F F' → Own F' M H' → F' d = some (.xd fvs) → RpFs K F' fvs (nmL f ds) → Q (.ref (He.ga K C)) (some d) H') : MkE (He.ga K C) (spErrL K (He.ga K C) f) vs H Q := by
  unfold okL at ok
  split at ok
  · rename_i xs
    cases r with
    | cons a t =>
      cases t
      obtain ⟨l, us, rfl, hl, ra⟩ := rp_lst a
      refine mkE_list o (SqL.of (o.fr _ _ hl)) fun q d H' nq nd o' => ?_
      have ndq : d ≠ q := fun z => by
        have := o'.ap (q, .lst us) List.mem_cons_self
        rw [← z, upd_same] at this
        cases this
      have s1 : Same F (upd F d (.xd [(f, .ref q)])) := same_upd nd
      have s2 : Same (upd F d (.xd [(f, .ref q)])) (upd (upd F d (.xd [(f, .ref q)])) q (.lst us)) := same_upd (o'.ap (q, .lst us) List.mem_cons_self)
      exact k d _ H' [(f, .ref q)] (s1.trans s2) (o'.fz 0) (s2 _ _ upd_same) (.cons (.lst upd_same (ra.mono (s1.trans s2))) .nil)
  · cases ok
end Pu

/-! ## Pv: further constructs -/
namespace Pu
open PySem PySem.Spec PyProof.Rows L2 Ed
section
variable {X : Cx} {K : PySem.W.Frag} {W : WX} {a b e : Expr} {fa fb : FX} {g : G} {pos p : Pos}
theorem pxt_in (ha : PX X K W a fa) (hb : PX X K W b fb) (hm : behindInMarks .In b = false := by rfl) : PXT X K W (.Compare a [.In] [b] pos) (tXb (xOp (fOp inD) fa fb)) := fun hK => by
  subst hK
  exact pxt_op (OpR.or op_in_seq op_inS) s2_in ha hb hm rfl
theorem pxt_nin (ha : PX X K W a fa) (hb : PX X K W b fb) (hm : behindInMarks .NotIn b = false := by rfl) : PXT X K W (.Compare a [.NotIn] [b] pos) (tXb (xOp (fOp ninD) fa fb)) := fun hK => by
  subst hK
  exact pxt_op (OpR.or op_notIn_seq op_ninS) s2_nin ha hb hm rfl
/-! list(d), of a dict -/
def keyOf : Key → D
  | .inl i => .int i
  | .inr s => .str s
def glistK : List N → Option N
  | [n] => match n.toD with
    | .dic kvs => some (.f (.lst (kvs.map fun kv => keyOf kv.1)))
    | _ => none
  | _ => none
theorem rp_keys {F F' : Hp} : ∀ {vs : List (Key × V)} {kvs : List (Key × D)}, RpDic K F vs kvs → RpAll K F' (vs.map fun kv => kV kv.1) (kvs.map fun kv => keyOf kv.1)
  | _, _, .nil => .nil
  | _, _, .cons (k := k) a t => .cons (match k with | .inl i => .int i | .inr s => .str s) (rp_keys t)
theorem pn_listK (hc : X.calm = true) (hm : X.mg "list" = none) (ha : PAs X K [e] [g]) (hg : Gl X "list" := by rfl) (he : starEach [e] X.env = (false, eval e X.env) :: starEach [] X.env := by rfl) : PN X K (.Call (.Name "list" p) [e] [] pos) (gArgs glistK [g]) := fun hK => by
  refine pe_imp (pe_callTy (call_list_dK hc) hg hm (by decide +kernel) (ha hK) (by decide) (by decide) he rfl) fun σ H Q ⟨env, F, M, M0, n, rp, o, hgg, k⟩ => ?_
  obtain ⟨ns, h1, h2⟩ := gArgs_some hgg
  refine ⟨env, F, M, M0, ns, rp, o, h1, fun vs F1 H1 s1 o1 w1 => ?_⟩
  unfold glistK at h2
  split at h2
  · rename_i m
    split at h2
    · rename_i kvs hkv
      cases h2
      cases w1 with
      | cons w1 w2 =>
        cases w2
        have r := w1.rp o1
        rw [hkv] at r
        cases r with
        | dic hb r =>
          rename_i ad vs
          refine ⟨ad, vs, rfl, hb, fun q hq => ?_⟩
          exact k q _ [(q, .lst _)] F1 _ s1 (o1.newM hq) (ow_ol (rp_keys r))
    · cases h2
  · cases h2
instance : EqvA glistK := ⟨fun {a n} h => by
  match a, h with
  | [m], h =>
    have h : (match m.er.toD with | .dic kvs => some (N.f (.lst (kvs.map fun kv => keyOf kv.1))) | _ => none) = some n := h
    rw [toD_er] at h
    refine ⟨n, h, ?_⟩
    split at h
    · cases h
      rfl
    · cases h⟩
end
end Pu

/-! ## Pv: how values are computed, by equations -/
namespace Pu
open PySem PySem.Spec PyProof.Rows L2 Ed
/-- an equation that is used as an equation -/
theorem ap_ {α : Sort _} {a b : α} (h : a = b) : a = b := h
section
variable {α β : Type} {a b : VX} {f g s : VS} {t u : VT} {w z : VA} {vi : VI} {e e1 : Env} {i n : Nat} {vs : List Nat} {r : Sl} {d d1 d2 : D} {o : N → N → Option N}
/-! trees -/
theorem all_done {P : α → Prop} {x : α} : (T.done x).All P = P x := ap_ rfl
theorem all_draw {P : α → Prop} {m : Int} {k : Int → T α} : (T.draw m k).All P = (0 < m ∧ m < 2 ^ 120 ∧ ∀ r, 0 ≤ r → r < m → (k r).All P) := ap_ rfl
theorem bind_done {x : α} {k : α → T β} : (T.done x).bind k = k x := ap_ rfl
theorem bind_draw {m : Int} {q : Int → T α} {k : α → T β} : (T.draw m q).bind k = .draw m fun r => (q r).bind k := ap_ rfl
theorem oT_some {x : α} {k : α → T β} : oT (some x) k = k x := ap_ rfl
theorem bO_ok {x : α} {k : α → Env → T (O β)} : bO (.done (.ok x e)) k = k x e := ap_ rfl
theorem bO_ex {C : Str} {fs : List (Str × D)} {k : α → Env → T (O β)} : bO (.done (.ex C fs e)) k = .done (.ex C fs e) := ap_ rfl
theorem bO_draw {m : Int} {q : Int → T (O α)} {k : α → Env → T (O β)} : bO (.draw m q) k = .draw m fun r => bO (q r) k := ap_ rfl
theorem bS_ok {x : α} {k : α → Env → T SO} : bS (.done (.ok x e)) k = k x e := ap_ rfl
theorem bS_ex {C : Str} {fs : List (Str × D)} {k : α → Env → T SO} : bS (.done (.ex C fs e)) k = .done (.ex C fs e) := ap_ rfl
theorem bS_draw {m : Int} {q : Int → T (O α)} {k : α → Env → T SO} : bS (.draw m q) k = .draw m fun r => bS (q r) k := ap_ rfl
theorem bN_ok {x : α} {k : α → Env → T (O β)} : bN (.done (.ok x e)) k = k x e := ap_ rfl
theorem bN_draw {m : Int} {q : Int → T (O α)} {k : α → Env → T (O β)} : bN (.draw m q) k = .draw m fun r => bN (q r) k := ap_ rfl
theorem vD_fz {k : D → Env → T (O β)} : vD (.done (.ok (.fz d) e)) k = k d e := ap_ rfl
theorem vD_ow {m : N} {k : D → Env → T (O β)} : vD (.done (.ok (.ow m) e)) k = k m.toD e := ap_ rfl
theorem vD_ex {C : Str} {fs : List (Str × D)} {k : D → Env → T (O β)} : vD (.done (.ex C fs e)) k = .done (.ex C fs e) := ap_ rfl
theorem vD_draw {m : Int} {q : Int → T (O Sl)} {k : D → Env → T (O β)} : vD (.draw m q) k = .draw m fun r => vD (q r) k := ap_ rfl
theorem vDS_fz {k : D → Env → T SO} : vDS (.done (.ok (.fz d) e)) k = k d e := ap_ rfl
theorem vDS_ow {m : N} {k : D → Env → T SO} : vDS (.done (.ok (.ow m) e)) k = k m.toD e := ap_ rfl
theorem vDS_ex {C : Str} {fs : List (Str × D)} {k : D → Env → T SO} : vDS (.done (.ex C fs e)) k = .done (.ex C fs e) := ap_ rfl
theorem vDS_draw {m : Int} {q : Int → T (O Sl)} {k : D → Env → T SO} : vDS (.draw m q) k = .draw m fun r => vDS (q r) k := ap_ rfl
/-! statements -/
def thS (q : T SO) (g : VS) : T SO := q.bind fun o => match o with
  | .nx e => g e
  | o => .done o
theorem vSeq_ap : vSeq f g e = thS (f e) g := ap_ rfl
theorem thS_nx : thS (.done (.nx e)) g = g e := ap_ rfl
theorem thS_rt : thS (.done (.rt r e)) g = .done (.rt r e) := ap_ rfl
theorem thS_bk : thS (.done (.bk e)) g = .done (.bk e) := ap_ rfl
theorem thS_ct : thS (.done (.ct e)) g = .done (.ct e) := ap_ rfl
theorem thS_ex {C : Str} {fs : List (Str × D)} : thS (.done (.ex C fs e)) g = .done (.ex C fs e) := ap_ rfl
theorem thS_draw {m : Int} {q : Int → T SO} : thS (.draw m q) g = .draw m fun r => thS (q r) g := ap_ rfl
theorem vNil_ap : vNil e = .done (.nx e) := ap_ rfl
def kSet (i : Nat) (r : Sl) (e : Env) : T SO := if i < e.length then .done (.nx (e.set i (some r))) else .bad
theorem vSet_ap : vSet i a e = bS (a e) (kSet i) := ap_ rfl
theorem kSet_ap : kSet i r e = if i < e.length then .done (.nx (e.set i (some r))) else .bad := ap_ rfl
def kDrop (_ : Sl) (e : Env) : T SO := .done (.nx e)
theorem vDrop_ap : vDrop a e = bS (a e) kDrop := ap_ rfl
theorem kDrop_ap : kDrop r e = .done (.nx e) := ap_ rfl
def kRet (r : Sl) (e : Env) : T SO := .done (.rt r e)
theorem vRet_ap : vRet a e = bS (a e) kRet := ap_ rfl
theorem kRet_ap : kRet r e = .done (.rt r e) := ap_ rfl
theorem vRetN_ap : vRetN e = .done (.rt (.fz .non) e) := ap_ rfl
theorem vBrk_ap : vBrk e = .done (.bk e) := ap_ rfl
theorem vCont_ap : vCont e = .done (.ct e) := ap_ rfl
def kIf (f g : VS) (c : Bool) (e : Env) : T SO := if c = true then f e else g e
theorem vIf_ap : vIf t f g e = bS (t e) (kIf f g) := ap_ rfl
theorem kIf_t : kIf f g true e = f e := ap_ rfl
theorem kIf_f : kIf f g false e = g e := ap_ rfl
theorem kIf_ap {c : Bool} : kIf f g c e = if c = true then f e else g e := ap_ rfl
theorem vFz_ap : vFz i f e = f (e.fz i) := ap_ rfl
theorem vWp_ap : vWp vs f e = f (wipeE e vs) := ap_ rfl
theorem wipe_nil : wipeE e [] = e := ap_ rfl
theorem wipe_cons : wipeE e (n :: vs) = (wipeE e vs).set n none := ap_ rfl
def fzO (e : Env) (i : Nat) : Option (Option Sl) → Env
  | some (some (.fz _)) => e
  | some (some (.ow m)) => e.set i (some (.fz m.toD))
  | _ => e
theorem fz_ap : e.fz i = fzO e i e[i]? := by
  unfold Env.fz fzO
  cases h : e[i]? with
  | none => rfl
  | some o =>
    cases o with
    | none => rfl
    | some s =>
      cases s with
      | fz d => exact set_same h
      | ow m => rfl
      | cu v c => rfl
      | xc a cls d C fs => rfl
theorem fzO_fz : fzO e i (some (some (.fz d))) = e := ap_ rfl
theorem fzO_ow {m : N} : fzO e i (some (some (.ow m))) = e.set i (some (.fz m.toD)) := ap_ rfl
theorem fzO_non : fzO e i (some none) = e := ap_ rfl
theorem vForW_ap {st : Tg} : vForW vs vi st f e = bS (vi e) (forL vs st f) := ap_ rfl
theorem vWhileW_ap : vWhileW n vs t f e = whileL vs t f n e := ap_ rfl
def kAsg (st : Tg) (d : D) (e : Env) : T SO := oT (st d e) fun e1 => .done (.nx e1)
theorem vAsg_ap {st : Tg} : vAsg a st e = vDS (a e) (kAsg st) := ap_ rfl
theorem kAsg_ap {st : Tg} : kAsg st d e = oT (st d e) (fun e1 => .done (.nx e1)) := ap_ rfl
def kDput2 (i : Nat) (d : D) (dk : D) (e : Env) : T SO := oT (isOdB e i) fun kvs => oT (keyD dk) fun k => if kvs.length < sizeLine then .done (.nx (setOd e i (putD kvs k d))) else .bad
def kDput (i : Nat) (a : VX) (d : D) (e : Env) : T SO := oT (e.node i) fun _ => vDS (a e) (kDput2 i d)
theorem vDput_ap : vDput i a b e = vDS (b e) (kDput i a) := ap_ rfl
theorem kDput_ap : kDput i a d e = oT (e.node i) fun _ => vDS (a e) (kDput2 i d) := ap_ rfl
theorem kDput2_ap : kDput2 i d d1 e = oT (isOdB e i) fun kvs => oT (keyD d1) fun k => if kvs.length < sizeLine then .done (.nx (setOd e i (putD kvs k d))) else .bad := ap_ rfl
def kSetI2 (i : Nat) (d : D) (dk : D) (e : Env) : T SO := oT (isOlB e i) fun ds => oT (intOf dk) fun j => oT (L2.ixN ds.length j) fun k => .done (.nx (setOl e i (ds.set k d)))
def kSetI (i : Nat) (a : VX) (d : D) (e : Env) : T SO := oT (e.node i) fun _ => vDS (a e) (kSetI2 i d)
theorem vSetI_ap : vSetI i a b e = vDS (b e) (kSetI i a) := ap_ rfl
theorem kSetI_ap : kSetI i a d e = oT (e.node i) fun _ => vDS (a e) (kSetI2 i d) := ap_ rfl
theorem kSetI2_ap : kSetI2 i d d1 e = oT (isOlB e i) fun ds => oT (intOf d1) fun j => oT (L2.ixN ds.length j) fun k => .done (.nx (setOl e i (ds.set k d))) := ap_ rfl
def augO (i : Nat) (g : Int → Int → Int) (a : VX) (e : Env) : Option (Option Sl) → T SO
  | some (some (.fz (.int m))) => vDS (a e) fun d e1 => oT (intOf d) fun n => if i < e1.length then .done (.nx (e1.set i (some (.fz (.int (g m n)))))) else .bad
  | _ => .bad
theorem vAug_ap {q : Int → Int → Int} : vAug i q a e = augO i q a e e[i]? := ap_ rfl
theorem augO_int {q : Int → Int → Int} {m : Int} : augO i q a e (some (some (.fz (.int m)))) = vDS (a e) fun d e1 => oT (intOf d) fun n => if i < e1.length then .done (.nx (e1.set i (some (.fz (.int (q m n)))))) else .bad := ap_ rfl
def kRaise2 (C : Str) (ok : List D → Bool) (nm : List D → List (Str × D)) (as : List PArg) (e : Env) : T SO := oT (vals as) fun ds => if ok ds = true then .done (.ex C (nm ds) e) else .bad
theorem vRaise_ap {C : Str} {ok : List D → Bool} {nm : List D → List (Str × D)} : vRaise C ok nm w e = bS (w e) (kRaise2 C ok nm) := ap_ rfl
theorem kRaise2_ap {C : Str} {ok : List D → Bool} {nm : List D → List (Str × D)} {as : List PArg} : kRaise2 C ok nm as e = oT (vals as) (fun ds => if ok ds = true then .done (.ex C (nm ds) e) else .bad) := ap_ rfl
def tryS (mm : Str → Option Bool) (i : Nat) (s : VS) (q : T SO) : T SO := q.bind fun o => match o with
  | .ex C fs e => oT (mm C) fun b => if b = true then (if i < e.length ∧ noXc e = true then (s (e.set i (some (.xc 0 .none none C fs)))).bind (finT i) else .bad) else .done (.ex C fs e)
  | o => .done o
theorem vTry_ap {mm : Str → Option Bool} : vTry mm i f s e = tryS mm i s (f e) := ap_ rfl
theorem tryS_nx {mm : Str → Option Bool} : tryS mm i s (.done (.nx e)) = .done (.nx e) := ap_ rfl
theorem tryS_rt {mm : Str → Option Bool} : tryS mm i s (.done (.rt r e)) = .done (.rt r e) := ap_ rfl
theorem tryS_ex {mm : Str → Option Bool} {C : Str} {fs : List (Str × D)} : tryS mm i s (.done (.ex C fs e)) = oT (mm C) (fun b => if b = true then (if i < e.length ∧ noXc e = true then (s (e.set i (some (.xc 0 .none none C fs)))).bind (finT i) else .bad) else .done (.ex C fs e)) := ap_ rfl
theorem finT_nx : finT i (.nx e) = if noXc (e.set i none) = true then .done (.nx (e.set i none)) else .bad := ap_ rfl
theorem finT_rt : finT i (.rt r e) = if noXc (e.set i none) = true then .done (.rt r (e.set i none)) else .bad := ap_ rfl
theorem noXc_nil : noXc [] = true := ap_ rfl
theorem noXc_non : noXc (none :: e) = noXc e := ap_ rfl
theorem noXc_fz : noXc (some (.fz d) :: e) = noXc e := ap_ rfl
theorem noXc_ow {m : N} : noXc (some (.ow m) :: e) = noXc e := ap_ rfl
theorem noXc_cu {v : V} {c : Cu} : noXc (some (.cu v c) :: e) = noXc e := ap_ rfl
/-! expressions -/
def pO (x : Option N) (e : Env) : T (O Sl) := match x with
  | some (.f d) => .done (.ok (.fz d) e)
  | _ => .bad
def nO (x : Option N) (e : Env) : T (O Sl) := match x with
  | some (.f d) => .done (.ok (.ow (ownD 0 d)) e)
  | _ => .bad
theorem vxP_ap {q : G} : vxP q e = pO (q e) e := ap_ rfl
theorem vxN_ap {q : G} : vxN q e = nO (q e) e := ap_ rfl
theorem pO_f : pO (some (.f d)) e = .done (.ok (.fz d) e) := ap_ rfl
theorem nO_f : nO (some (.f d)) e = .done (.ok (.ow (ownD 0 d)) e) := ap_ rfl
theorem nO_l {ds : List D} : nO (some (.f (.lst ds))) e = .done (.ok (.ow (ol 0 ds)) e) := ap_ rfl
theorem nO_d {ds : List (Key × D)} : nO (some (.f (.dic ds))) e = .done (.ok (.ow (od 0 ds)) e) := ap_ rfl
theorem vO_f : vO (some (.f d)) e = .done (.ok (.fz d) e) := ap_ rfl
def kOp2 (o : N → N → Option N) (d1 d2 : D) (e : Env) : T (O Sl) := vO (o (.f d1) (.f d2)) e
def kOp (o : N → N → Option N) (b : VX) (d1 : D) (e : Env) : T (O Sl) := vD (b e) (kOp2 o d1)
theorem vxOp_ap : vxOp o a b e = vD (a e) (kOp o b) := ap_ rfl
theorem kOp_ap : kOp o b d e = vD (b e) (kOp2 o d) := ap_ rfl
theorem kOp2_ap : kOp2 o d1 d2 e = vO (o (.f d1) (.f d2)) e := ap_ rfl
def kUn (o : N → Option N) (d : D) (e : Env) : T (O Sl) := vO (o (.f d)) e
theorem vxUn_ap {o : N → Option N} : vxUn o a e = vD (a e) (kUn o) := ap_ rfl
theorem kUn_ap {o : N → Option N} : kUn o d e = vO (o (.f d)) e := ap_ rfl
def kOpV (o : N → N → Option N) (i : Nat) (d : D) (e : Env) : T (O Sl) := oT (e.node i) fun m => vO (o m (.f d)) e
theorem vxOpV_ap : vxOpV o i b e = oT (e.node i) (fun _ => vD (b e) (kOpV o i)) := ap_ rfl
theorem kOpV_ap : kOpV o i d e = oT (e.node i) (fun m => vO (o m (.f d)) e) := ap_ rfl
def kApp (i : Nat) (d : D) (e : Env) : T (O Sl) := oT (isOlB e i) fun ds => if ds.length < sizeLine then .done (.ok (.fz .non) (setOl e i (ds ++ [d]))) else .bad
theorem vxApp_ap : vxApp i a e = oT (isOlB e i) (fun _ => vD (a e) (kApp i)) := ap_ rfl
theorem kApp_ap : kApp i d e = oT (isOlB e i) (fun ds => if ds.length < sizeLine then .done (.ok (.fz .non) (setOl e i (ds ++ [d]))) else .bad) := ap_ rfl
def kPopA (i : Nat) (d : D) (e : Env) : T (O Sl) := oT (isOlB e i) fun ds => oT (natOf d) fun k => if k < 2 ^ 63 then oT ds[k]? fun y => .done (.ok (.fz y) (setOl e i (ds.eraseIdx k))) else .bad
theorem vxPopA_ap : vxPopA i a e = oT (isOlB e i) (fun _ => vD (a e) (kPopA i)) := ap_ rfl
theorem kPopA_ap : kPopA i d e = oT (isOlB e i) (fun ds => oT (natOf d) fun k => if k < 2 ^ 63 then oT ds[k]? fun y => .done (.ok (.fz y) (setOl e i (ds.eraseIdx k))) else .bad) := ap_ rfl
theorem vxPop_ap : vxPop i e = oT (isOlB e i) (fun ds => oT ds.getLast? fun y => .done (.ok (.fz y) (setOl e i ds.dropLast))) := ap_ rfl
theorem vxDnew_ap : vxDnew e = .done (.ok (.ow (od 0 [])) e) := ap_ rfl
def rdO (i : Nat) (e : Env) : Option (Option Sl) → T (O Sl)
  | some (some (.ow n)) => .done (.ok (.ow n) (e.set i none))
  | some (some (.fz d)) => .done (.ok (.fz d) e)
  | _ => .bad
theorem vxRd_ap : vxRd i e = rdO i e e[i]? := ap_ rfl
theorem rdO_ow {m : N} : rdO i e (some (some (.ow m))) = .done (.ok (.ow m) (e.set i none)) := ap_ rfl
theorem rdO_fz : rdO i e (some (some (.fz d))) = .done (.ok (.fz d) e) := ap_ rfl
def kCat2 (d1 d2 : D) (e : Env) : T (O Sl) := oT (lstOf d1) fun ds => oT (lstOf d2) fun es => if ds.length + es.length ≤ sizeLine then .done (.ok (.ow (ol 0 (ds ++ es))) e) else .bad
def kCat (b : VX) (d1 : D) (e : Env) : T (O Sl) := vD (b e) (kCat2 d1)
theorem vxCat_ap : vxCat a b e = vD (a e) (kCat b) := ap_ rfl
theorem kCat_ap : kCat b d e = vD (b e) (kCat2 d) := ap_ rfl
theorem kCat2_ap : kCat2 d1 d2 e = oT (lstOf d1) (fun ds => oT (lstOf d2) fun es => if ds.length + es.length ≤ sizeLine then .done (.ok (.ow (ol 0 (ds ++ es))) e) else .bad) := ap_ rfl
theorem lstOf_l {ds : List D} : lstOf (.lst ds) = some ds := ap_ rfl
theorem tupOf_t {ds : List D} : tupOf (.tup ds) = some ds := ap_ rfl
theorem strOf_s {z : Str} : strOf (.str z) = some (chars z) := ap_ rfl
theorem enumOf_l {ds : List D} : enumOf (.lst ds) = some (enumD ds) := ap_ rfl
theorem rngOf_i {m : Int} (h : m < 2 ^ 62) (h' : -(2 ^ 62) ≤ m) : rngOf (.int m) = some (rng 0 m.toNat) := if_pos ⟨h, h'⟩
/-! calls -/
def kBack (as : List PArg) (e : Env) : FO → T (O Sl)
  | .rt r us => .done (.ok r (back e as us))
  | .ex C fs us => .done (.ex C fs (back e as us))
def callG (G : VF) (as : List PArg) (e : Env) (us : List Sl) : T (O Sl) := (G us).bind (kBack as e)
theorem callO_ap {G : VF} {as : List PArg} : callO n G as e = if ndA as = true then oT (slots e as) (fun us => if us.length = n ∧ us.all noXs = true then callG G as e us else .bad) else .bad := by
  rfl
theorem callG_rt {G : VF} {as : List PArg} {us us' : List Sl} (h : G us = .done (.rt r us')) : callG G as e us = .done (.ok r (back e as us')) := by
  unfold callG
  rw [h]
  rfl
theorem callG_ex {G : VF} {as : List PArg} {us us' : List Sl} {C : Str} {fs : List (Str × D)} (h : G us = .done (.ex C fs us')) : callG G as e us = .done (.ex C fs (back e as us')) := by
  unfold callG
  rw [h]
  rfl
theorem kBack_ex {as : List PArg} {us : List Sl} {C : Str} {fs : List (Str × D)} : kBack as e (.ex C fs us) = .done (.ex C fs (back e as us)) := ap_ rfl
theorem callG_ap {G : VF} {as : List PArg} {us : List Sl} : callG G as e us = (G us).bind (kBack as e) := ap_ rfl
theorem kBack_rt {as : List PArg} {us : List Sl} : kBack as e (.rt r us) = .done (.ok r (back e as us)) := ap_ rfl
theorem callG_draw {as : List PArg} {c : Cu} {m : Int} : callG V_draw as e [.cu .non c, .fz (.int m)] = .draw m fun r => .done (.ok (.fz (.int r)) (back e as [srcT, .fz (.int m)])) := ap_ rfl
theorem callG_drawT {as : List PArg} {m : Int} : callG V_draw as e [srcT, .fz (.int m)] = .draw m fun r => .done (.ok (.fz (.int r)) (back e as [srcT, .fz (.int m)])) := ap_ rfl
theorem noEx_ok : noEx (.done (.ok r e)) = .done (.ok r e) := ap_ rfl
theorem noEx_draw {m : Int} {q : Int → T (O Sl)} : noEx (.draw m q) = .draw m fun r => noEx (q r) := ap_ rfl
def kCall (n : Nat) (G : VF) (as : List PArg) (e : Env) : T (O Sl) := callO n G as e
def kCall0 (n : Nat) (G : VF) (as : List PArg) (e : Env) : T (O Sl) := noEx (callO n G as e)
theorem vxCall_ap {G : VF} : vxCall n G w e = bO (w e) (kCall n G) := ap_ rfl
theorem vxCall0_ap {G : VF} : vxCall0 n G w e = bO (w e) (kCall0 n G) := ap_ rfl
theorem kCall_ap {G : VF} {as : List PArg} : kCall n G as e = callO n G as e := ap_ rfl
theorem kCall0_ap {G : VF} {as : List PArg} : kCall0 n G as e = noEx (callO n G as e) := ap_ rfl
/-! arguments -/
theorem vaNil_ap : vaNil e = .done (.ok [] e) := ap_ rfl
def kArg (x : PArg) (as : List PArg) (e : Env) : T (O (List PArg)) := .done (.ok (x :: as) e)
def kArgV (w : VA) (d : D) (e : Env) : T (O (List PArg)) := bO (w e) (kArg (.v d))
theorem vaV_ap : vaV a w e = vD (a e) (kArgV w) := ap_ rfl
theorem kArgV_ap : kArgV w d e = bO (w e) (kArg (.v d)) := ap_ rfl
theorem kArg_ap {x : PArg} {as : List PArg} : kArg x as e = .done (.ok (x :: as) e) := ap_ rfl
def argB (i : Nat) (w : VA) (e : Env) : Option (Option Sl) → T (O (List PArg))
  | some (some _) => bO (w e) (kArg (.b i))
  | _ => .bad
theorem vaB_ap : vaB i w e = argB i w e e[i]? := ap_ rfl
theorem argB_s : argB i w e (some (some r)) = bO (w e) (kArg (.b i)) := ap_ rfl
def kTup (as : List PArg) (e : Env) : T (O Sl) := oT (vals as) fun ds => if ds.length ≤ 1000 then .done (.ok (.fz (.tup ds)) e) else .bad
def kLst (as : List PArg) (e : Env) : T (O Sl) := oT (vals as) fun ds => if ds.length ≤ 1000 then .done (.ok (.ow (ol 0 ds)) e) else .bad
def kArgs (o : List N → Option N) (as : List PArg) (e : Env) : T (O Sl) := oT (vals as) fun ds => vO (o (ds.map N.f)) e
theorem vxTup_ap : vxTup w e = bO (w e) kTup := ap_ rfl
theorem vxLst_ap : vxLst w e = bO (w e) kLst := ap_ rfl
theorem vxArgs_ap {o : List N → Option N} : vxArgs o w e = bO (w e) (kArgs o) := ap_ rfl
theorem kTup_ap {as : List PArg} : kTup as e = oT (vals as) (fun ds => if ds.length ≤ 1000 then .done (.ok (.fz (.tup ds)) e) else .bad) := ap_ rfl
theorem kLst_ap {as : List PArg} : kLst as e = oT (vals as) (fun ds => if ds.length ≤ 1000 then .done (.ok (.ow (ol 0 ds)) e) else .bad) := ap_ rfl
theorem kArgs_ap {o : List N → Option N} {as : List PArg} : kArgs o as e = oT (vals as) (fun ds => vO (o (ds.map N.f)) e) := ap_ rfl
theorem vals_nil : vals [] = some [] := ap_ rfl
theorem vals_v {as : List PArg} : vals (.v d :: as) = (vals as).map (d :: ·) := ap_ rfl
theorem slots_nil : slots e [] = some [] := ap_ rfl
theorem slots_v {as : List PArg} : slots e (.v d :: as) = (slots e as).map (.fz d :: ·) := ap_ rfl
def slB : Option (Option Sl) → Option (List Sl) → Option (List Sl)
  | some (some s), some ss => some (s :: ss)
  | _, _ => none
theorem slots_b {as : List PArg} : slots e (.b i :: as) = slB e[i]? (slots e as) := by
  rfl
theorem slB_s {ss : List Sl} : slB (some (some r)) (some ss) = some (r :: ss) := ap_ rfl
theorem back_nil {us : List Sl} : back e [] us = e := by
  unfold back
  rfl
theorem back_v {as : List PArg} {us : List Sl} : back e (.v d :: as) (r :: us) = back e as us := ap_ rfl
theorem back_b {as : List PArg} {us : List Sl} : back e (.b i :: as) (r :: us) = (back e as us).set i (some r) := ap_ rfl
theorem ndA_nil : ndA [] = true := ap_ rfl
theorem ndA_v {as : List PArg} : ndA (.v d :: as) = ndA as := ap_ rfl
theorem ndA_b {as : List PArg} : ndA (.b i :: as) = (!inA i as && ndA as) := ap_ rfl
theorem inA_nil : inA i [] = false := ap_ rfl
theorem inA_v {as : List PArg} : inA i (.v d :: as) = inA i as := ap_ rfl
theorem inA_b {j : Nat} {as : List PArg} : inA i (.b j :: as) = (i == j || inA i as) := ap_ rfl
theorem noXs_fz : noXs (.fz d) = true := ap_ rfl
theorem noXs_ow {m : N} : noXs (.ow m) = true := ap_ rfl
theorem noXs_cu {v : V} {c : Cu} : noXs (.cu v c) = true := ap_ rfl
theorem noXs_src : noXs srcT = true := ap_ rfl
/-! tests -/
theorem vtP_ap {q : B} : vtP q e = oT (q e) fun c => .done (.ok c e) := ap_ rfl
def kTX (d : D) (e : Env) : T (O Bool) := oT (truD d) fun c => .done (.ok c e)
theorem vtX_ap : vtX a e = vD (a e) kTX := ap_ rfl
theorem kTX_ap : kTX d e = oT (truD d) (fun c => .done (.ok c e)) := ap_ rfl
def kTXb (d : D) (e : Env) : T (O Bool) := match d with
  | .bl c => .done (.ok c e)
  | _ => .bad
theorem vtXb_ap : vtXb a e = vD (a e) kTXb := ap_ rfl
theorem kTXb_ap {c : Bool} : kTXb (.bl c) e = .done (.ok c e) := ap_ rfl
def kAnd (u : VT) (c : Bool) (e : Env) : T (O Bool) := if c = true then u e else .done (.ok false e)
def kOr (u : VT) (c : Bool) (e : Env) : T (O Bool) := if c = true then .done (.ok true e) else u e
def kNot (c : Bool) (e : Env) : T (O Bool) := .done (.ok (!c) e)
theorem vtAndX_ap : vtAndX t u e = bO (t e) (kAnd u) := ap_ rfl
theorem vtOrX_ap : vtOrX t u e = bO (t e) (kOr u) := ap_ rfl
theorem vtNotX_ap : vtNotX t e = bO (t e) kNot := ap_ rfl
theorem kAnd_ap {c : Bool} : kAnd u c e = if c = true then u e else .done (.ok false e) := ap_ rfl
theorem kOr_ap {c : Bool} : kOr u c e = if c = true then .done (.ok true e) else u e := ap_ rfl
theorem kNot_ap {c : Bool} : kNot c e = .done (.ok (!c) e) := ap_ rfl
theorem vtYesX_ap : vtYesX e = .done (.ok true e) := ap_ rfl
/-! what is walked -/
def kI (k : D → Option (List D)) (d : D) (e : Env) : T (O (List D)) := oT (k d) fun ds => .done (.ok ds e)
theorem kI_ap {k : D → Option (List D)} : kI k d e = oT (k d) (fun ds => .done (.ok ds e)) := ap_ rfl
theorem viL1_ap : viL1 a e = vD (a e) (kI lstOf) := ap_ rfl
theorem viT1_ap : viT1 a e = vD (a e) (kI tupOf) := ap_ rfl
theorem viR1_ap : viR1 a e = vD (a e) (kI rngOf) := ap_ rfl
theorem viE1_ap : viE1 a e = vD (a e) (kI enumOf) := ap_ rfl
theorem viS1_ap : viS1 a e = vD (a e) (kI strOf) := ap_ rfl
def kI2b (k : D → D → Option (List D)) (d1 d2 : D) (e : Env) : T (O (List D)) := oT (k d1 d2) fun ds => .done (.ok ds e)
def kI2 (b : VX) (k : D → D → Option (List D)) (d : D) (e : Env) : T (O (List D)) := vD (b e) (kI2b k d)
theorem viR2_ap : viR2 a b e = vD (a e) (kI2 b (rng2Of fun m n => rng m (n - m).toNat)) := ap_ rfl
theorem viDn_ap : viDn a b e = vD (a e) (kI2 b (rng2Of fun m n => rngD m (m - n).toNat)) := ap_ rfl
theorem kI2_ap {k : D → D → Option (List D)} : kI2 b k d e = vD (b e) (kI2b k d) := ap_ rfl
theorem kI2b_ap {k : D → D → Option (List D)} : kI2b k d1 d2 e = oT (k d1 d2) (fun ds => .done (.ok ds e)) := ap_ rfl
theorem rng2_i {q : Int → Int → List D} {m k : Int} (h : -(2 ^ 62) ≤ m ∧ m < 2 ^ 62 ∧ -(2 ^ 62) ≤ k ∧ k < 2 ^ 62) : rng2Of q (.int m) (.int k) = some (q m k) := if_pos h
/-! comprehensions with effects -/
def kLcE (e1 : Env) (vs : List Nat) (acc : List D) (e2 : Env) : T (O Sl) := .done (.ok (.ow (ol 0 acc)) (resE e1 e2 vs))
def kLc (vs : List Nat) (st : Tg) (t : VT) (x : VX) (ds : List D) (e : Env) : T (O Sl) := if ds.length ≤ sizeLine then bO (lcL vs st t x ds [] (wipeE e vs)) (kLcE e vs) else .bad
theorem vxLc_ap {st : Tg} : vxLc vi vs st t a e = bO (vi e) (kLc vs st t a) := ap_ rfl
theorem kLc_ap {st : Tg} {ds : List D} : kLc vs st t a ds e = if ds.length ≤ sizeLine then bO (lcL vs st t a ds [] (wipeE e vs)) (kLcE e vs) else .bad := ap_ rfl
theorem kLcE_ap {ds : List D} : kLcE e1 vs ds e = .done (.ok (.ow (ol 0 ds)) (resE e1 e vs)) := ap_ rfl
theorem res_nil : resE e1 e [] = e := ap_ rfl
theorem res_cons : resE e1 e (n :: vs) = resE e1 (e.set n (keepE e1 n)) vs := ap_ rfl
def keepO : Option (Option Sl) → Option Sl
  | some (some (.fz d)) => some (.fz d)
  | _ => none
theorem keep_ap : keepE e n = keepO e[n]? := ap_ rfl
theorem keepO_fz : keepO (some (some (.fz d))) = some (.fz d) := ap_ rfl
theorem keepO_non : keepO (some none) = none := ap_ rfl
theorem keepO_ow {m : N} : keepO (some (some (.ow m))) = none := ap_ rfl
/-! expressions without effects -/
variable {p q : G} {pb qb : B}
def nodeO : Option (Option Sl) → Option N
  | some (some s) => s.node
  | _ => none
theorem node_ap : e.node i = nodeO e[i]? := ap_ rfl
theorem gVar_ap : gVar i e = nodeO e[i]? := node_ap
theorem nodeO_fz : nodeO (some (some (.fz d))) = some (.f d) := ap_ rfl
theorem nodeO_ow {m : N} : nodeO (some (some (.ow m))) = some m := ap_ rfl
theorem gC_ap : gC d e = some (.f d) := ap_ rfl
def opN (o : N → N → Option N) : Option N → Option N → Option N
  | some x, some y => o x y
  | _, _ => none
theorem gOp_ap : gOp o p q e = opN o (p e) (q e) := ap_ rfl
theorem opN_s {x y : N} : opN o (some x) (some y) = o x y := ap_ rfl
def unN (o : N → Option N) : Option N → Option N
  | some x => o x
  | _ => none
theorem gUn_ap {o : N → Option N} : gUn o p e = unN o (p e) := ap_ rfl
theorem unN_s {o : N → Option N} {x : N} : unN o (some x) = o x := ap_ rfl
def argN (o : List N → Option N) : Option (List N) → Option N
  | some x => o x
  | _ => none
theorem gArgs_ap {o : List N → Option N} {gs : List G} : gArgs o gs e = argN o (gAll gs e) := by
  unfold gArgs argN
  cases gAll gs e <;> rfl
theorem argN_s {o : List N → Option N} {x : List N} : argN o (some x) = o x := ap_ rfl
def consN : Option N → Option (List N) → Option (List N)
  | some n, some ns => some (n :: ns)
  | _, _ => none
theorem gAll_nil : gAll [] e = some [] := ap_ rfl
theorem gAll_cons {gs : List G} : gAll (p :: gs) e = consN (p e) (gAll gs e) := by
  rfl
theorem consN_s {x : N} {xs : List N} : consN (some x) (some xs) = some (x :: xs) := ap_ rfl
def bVN : Option N → Option Bool
  | some (.f (.bl b)) => some b
  | _ => none
theorem bV_ap : bV p e = bVN (p e) := ap_ rfl
theorem bVN_b {c : Bool} : bVN (some (.f (.bl c))) = some c := ap_ rfl
def bTN : Option N → Option Bool
  | some n => truD n.toD
  | _ => none
theorem bT_ap : bT p e = bTN (p e) := ap_ rfl
theorem bTN_s {m : N} : bTN (some m) = truD m.toD := ap_ rfl
def bAndN (c : Option Bool) (q : B) (e : Env) : Option Bool := match c with
  | some true => q e
  | some false => some false
  | none => none
def bOrN (c : Option Bool) (q : B) (e : Env) : Option Bool := match c with
  | some true => some true
  | some false => q e
  | none => none
theorem bAnd_ap : bAnd pb qb e = bAndN (pb e) qb e := ap_ rfl
theorem bOr_ap : bOr pb qb e = bOrN (pb e) qb e := ap_ rfl
theorem bAndN_t : bAndN (some true) qb e = qb e := ap_ rfl
theorem bAndN_f : bAndN (some false) qb e = some false := ap_ rfl
theorem bOrN_t : bOrN (some true) qb e = some true := ap_ rfl
theorem bOrN_f : bOrN (some false) qb e = qb e := ap_ rfl
theorem bAndN_s {c c' : Bool} (h : qb e = some c') : bAndN (some c) qb e = some (c && c') := by
  cases c
  · rfl
  · exact h
theorem bOrN_s {c c' : Bool} (h : qb e = some c') : bOrN (some c) qb e = some (c || c') := by
  cases c
  · exact h
  · rfl
theorem bNot_ap : bNot pb e = (pb e).map not := ap_ rfl
theorem bYes_ap : bYes e = some true := ap_ rfl
def gAndN (c : Option N) (q : G) (e : Env) : Option N := match c with
  | some (.f (.bl true)) => q e
  | some (.f (.bl false)) => some (.f (.bl false))
  | _ => none
def gOrN (c : Option N) (q : G) (e : Env) : Option N := match c with
  | some (.f (.bl true)) => some (.f (.bl true))
  | some (.f (.bl false)) => q e
  | _ => none
theorem gAnd_ap : gAnd p q e = gAndN (p e) q e := ap_ rfl
theorem gOr_ap : gOr p q e = gOrN (p e) q e := ap_ rfl
theorem gAndN_t : gAndN (some (.f (.bl true))) q e = q e := ap_ rfl
theorem gAndN_f : gAndN (some (.f (.bl false))) q e = some (.f (.bl false)) := ap_ rfl
theorem gOrN_t : gOrN (some (.f (.bl true))) q e = some (.f (.bl true)) := ap_ rfl
theorem gOrN_f : gOrN (some (.f (.bl false))) q e = q e := ap_ rfl
theorem gAndN_s {c c' : Bool} (h : q e = some (.f (.bl c'))) : gAndN (some (.f (.bl c))) q e = some (.f (.bl (c && c'))) := by
  cases c
  · rfl
  · exact h
theorem gOrN_s {c c' : Bool} (h : q e = some (.f (.bl c'))) : gOrN (some (.f (.bl c))) q e = some (.f (.bl (c || c'))) := by
  cases c
  · exact h
  · rfl
def notN : Option N → Option N
  | some (.f (.bl b)) => some (.f (.bl (!b)))
  | _ => none
theorem gNot_ap : gNot p e = notN (p e) := ap_ rfl
theorem notN_b {c : Bool} : notN (some (.f (.bl c))) = some (.f (.bl (!c))) := ap_ rfl
def gIfN (c : Option Bool) (p q : G) (e : Env) : Option N := match c with
  | some true => p e
  | some false => q e
  | none => none
theorem gIf_ap : gIf pb p q e = gIfN (pb e) p q e := ap_ rfl
theorem gIfN_t : gIfN (some true) p q e = p e := ap_ rfl
theorem gIfN_f : gIfN (some false) p q e = q e := ap_ rfl
theorem gIfN_s {c : Bool} : gIfN (some c) p q e = if c = true then p e else q e := by
  cases c <;> rfl
def fzN : Option N → Option N
  | some (.f d) => some (.f d)
  | _ => none
theorem gFz_ap : gFz p e = fzN (p e) := by
  unfold gFz fzN
  rfl
theorem fzN_f : fzN (some (.f d)) = some (.f d) := ap_ rfl
def slN (o : N → Option Int → Option Int → Option N) : Option N → Option (Option Int) → Option (Option Int) → Option N
  | some n, some l, some h => o n l h
  | _, _, _ => none
theorem gSl_ap {o : N → Option Int → Option Int → Option N} {l u : GO} : gSl o p l u e = slN o (p e) (l e) (u e) := ap_ rfl
theorem slN_s {o : N → Option Int → Option Int → Option N} {x : N} {l h : Option Int} : slN o (some x) (some l) (some h) = o x l h := ap_ rfl
theorem goN_ap : goN e = some none := ap_ rfl
def goSN : Option N → Option (Option Int)
  | some (.f (.int i)) => some (some i)
  | _ => none
theorem goS_ap : goS p e = goSN (p e) := ap_ rfl
theorem goSN_i {j : Int} : goSN (some (.f (.int j))) = some (some j) := ap_ rfl
def xvO (C f : Str) : Option (Option Sl) → Option N
  | some (some (.xc _ _ _ C' fs)) => if C' = C then (fs.find? fun kv => decide (kv.1 = f)).map fun kv => .f kv.2 else none
  | _ => none
theorem gXv_ap {C f : Str} : gXv i C f e = xvO C f e[i]? := ap_ rfl
theorem xvO_x {C f : Str} {a : Addr} {cls : Value} {d : Option Addr} {fs : List (Str × D)} : xvO C f (some (some (.xc a cls d C fs))) = (fs.find? fun kv => decide (kv.1 = f)).map fun kv => .f kv.2 := if_pos rfl
theorem giL_ap : giL p e = ((p e).bind kidsL) := by
  unfold giL
  cases p e <;> rfl
theorem giE_ap : giE p e = ((p e).bind fun n => (kidsL n).map enumD) := by
  unfold giE
  cases p e <;> rfl
def tupN : Option N → Option (List D)
  | some (.f (.tup ds)) => some ds
  | _ => none
theorem giT_ap : giT p e = tupN (p e) := ap_ rfl
theorem tupN_t {ds : List D} : tupN (some (.f (.tup ds))) = some ds := ap_ rfl
def rngN : Option N → Option (List D)
  | some (.f (.int n)) => if n < 2 ^ 62 ∧ -(2 ^ 62) ≤ n then some (rng 0 n.toNat) else none
  | _ => none
theorem giR_ap : giR p e = rngN (p e) := ap_ rfl
theorem rngN_i {m : Int} : rngN (some (.f (.int m))) = if m < 2 ^ 62 ∧ -(2 ^ 62) ≤ m then some (rng 0 m.toNat) else none := ap_ rfl
def strN : Option N → Option (List D)
  | some (.f (.str z)) => some (chars z)
  | _ => none
theorem giS_ap : giS p e = strN (p e) := ap_ rfl
theorem strN_s {x : Str} : strN (some (.f (.str x))) = some (chars x) := ap_ rfl
theorem bind_some' {α β : Type} {x : α} {k : α → Option β} : (some x).bind k = k x := ap_ rfl
theorem kids_f {ds : List D} : kidsL (.f (.lst ds)) = some ds := ap_ rfl
def lcN (vs : List Nat) (st : Tg) (c : B) (p : G) (e : Env) : Option (List D) → Option N
  | some ds => if ds.length ≤ sizeLine then (comps st c p (wipeE e vs) ds).map fun rs => .f (.lst rs) else none
  | none => none
theorem gLc_ap {gi : GI} {st : Tg} : gLc gi vs st pb p e = lcN vs st pb p e (gi e) := ap_ rfl
theorem lcN_s {st : Tg} {ds : List D} : lcN vs st pb p e (some ds) = if ds.length ≤ sizeLine then (comps st pb p (wipeE e vs) ds).map fun rs => .f (.lst rs) else none := ap_ rfl
/-- targets -/
theorem stN_ap : stN i d e = if i < e.length then some (e.set i (some (.fz d))) else none := ap_ rfl
theorem stT_ap {q : Tgs} {ds : List D} : stT n q (.tup ds) e = if ds.length = n then q ds e else none := ap_ rfl
theorem stCons_ap {x : Tg} {q : Tgs} {ds : List D} : stCons x q (d :: ds) e = (x d e).bind fun e1 => q ds e1 := by
  show (match x d e with | some env' => q ds env' | none => none) = _
  cases x d e <;> rfl
theorem stNil_ap : stNil [] e = some e := ap_ rfl
/-! defs -/
def finF (us : List Sl) : SO → T FO
  | .nx e => oT (outsV us e) fun us' => .done (.rt (.fz .non) us')
  | .rt r e => oT (outsV us e) fun us' => .done (.rt r us')
  | .ex C fs e => oT (outsV us e) fun us' => .done (.ex C fs us')
  | _ => .bad
theorem runF_ap {pm : List Nat} {np : Nat} {us : List Sl} : runF pm np n g us = if us.length = np ∧ okPs pm 0 us = true then (g (env0 n us)).bind (finF us) else .bad := by
  rfl
theorem finF_nx {us : List Sl} : finF us (.nx e) = oT (outsV us e) fun us' => .done (.rt (.fz .non) us') := ap_ rfl
theorem finF_rt {us : List Sl} : finF us (.rt r e) = oT (outsV us e) fun us' => .done (.rt r us') := ap_ rfl
theorem finF_ex {us : List Sl} {C : Str} {fs : List (Str × D)} : finF us (.ex C fs e) = oT (outsV us e) fun us' => .done (.ex C fs us') := ap_ rfl
theorem okPs_nil {pm : List Nat} : okPs pm n [] = true := ap_ rfl
theorem okPs_fz {pm : List Nat} {us : List Sl} : okPs pm n (.fz d :: us) = okPs pm (n + 1) us := ap_ rfl
theorem okPs_l {pm : List Nat} {us : List Sl} {a : Addr} {xs : List N} : okPs pm n (.ow (.lst a xs) :: us) = (!(pm.contains n) && okPs pm (n + 1) us) := ap_ rfl
theorem okPs_d {pm : List Nat} {us : List Sl} {a : Addr} {xs : List (Key × N)} : okPs pm n (.ow (.dic a xs) :: us) = (!(pm.contains n) && okPs pm (n + 1) us) := ap_ rfl
theorem okPs_o {pm : List Nat} {us : List Sl} {a dx : Addr} {C : Str} {xs : List (Str × N)} : okPs pm n (.ow (.obj a dx C xs) :: us) = (!(pm.contains n) && okPs pm (n + 1) us) := ap_ rfl
theorem okPs_ol {pm : List Nat} {us : List Sl} {a : Addr} {xs : List D} : okPs pm n (.ow (ol a xs) :: us) = (!(pm.contains n) && okPs pm (n + 1) us) := ap_ rfl
theorem okPs_od {pm : List Nat} {us : List Sl} {a : Addr} {xs : List (Key × D)} : okPs pm n (.ow (od a xs) :: us) = (!(pm.contains n) && okPs pm (n + 1) us) := ap_ rfl
theorem okPs_cu {pm : List Nat} {us : List Sl} {v : V} {c : Cu} : okPs pm n (.cu v c :: us) = (!(pm.contains n) && okPs pm (n + 1) us) := ap_ rfl
theorem okPs_src {pm : List Nat} {us : List Sl} : okPs pm n (srcT :: us) = (!(pm.contains n) && okPs pm (n + 1) us) := ap_ rfl
theorem outsV_nil : outsV [] e = some [] := by
  unfold outsV
  rfl
theorem outsV_f {us : List Sl} {x : Option Sl} : outsV (.fz d :: us) (x :: e) = (outsV us e).map (.fz d :: ·) := ap_ rfl
theorem outsV_oo {us : List Sl} {m m' : N} : outsV (.ow m :: us) (some (.ow m') :: e) = (outsV us e).map (.ow m' :: ·) := ap_ rfl
theorem outsV_cc {us : List Sl} {v v' : V} {c c' : Cu} : outsV (.cu v c :: us) (some (.cu v' c') :: e) = (outsV us e).map (.cu v' c' :: ·) := ap_ rfl
theorem outsV_src {us : List Sl} : outsV (srcT :: us) (some srcT :: e) = (outsV us e).map (srcT :: ·) := ap_ rfl
theorem env0_ap {us : List Sl} : env0 n us = us.map some ++ List.replicate (n - us.length) none := ap_ rfl
end
/-! ### loops -/
theorem forL_nil {vs : List Nat} {st : Tg} {f : VS} {e : Env} : forL vs st f [] e = .done (.nx (wipeE e vs)) := ap_ rfl
def kTurn (vs : List Nat) (st : Tg) (f : VS) (ds : List D) : SO → T SO
  | .nx e2 => forL vs st f ds e2
  | .ct e2 => forL vs st f ds e2
  | .bk e2 => .done (.nx (wipeE e2 vs))
  | .rt r e2 => .done (.rt r e2)
  | .ex C fs e2 => .done (.ex C fs e2)
theorem forL_cons {vs : List Nat} {st : Tg} {f : VS} {d : D} {ds : List D} {e : Env} : forL vs st f (d :: ds) e = oT (st d (wipeE e vs)) fun e1 => (f e1).bind (kTurn vs st f ds) := by
  rfl
theorem kTurn_nx {vs : List Nat} {st : Tg} {f : VS} {ds : List D} {e : Env} : kTurn vs st f ds (.nx e) = forL vs st f ds e := ap_ rfl
theorem kTurn_ct {vs : List Nat} {st : Tg} {f : VS} {ds : List D} {e : Env} : kTurn vs st f ds (.ct e) = forL vs st f ds e := ap_ rfl
theorem kTurn_rt {vs : List Nat} {st : Tg} {f : VS} {ds : List D} {e : Env} {r : Sl} : kTurn vs st f ds (.rt r e) = .done (.rt r e) := ap_ rfl
theorem kTurn_bk {vs : List Nat} {st : Tg} {f : VS} {ds : List D} {e : Env} : kTurn vs st f ds (.bk e) = .done (.nx (wipeE e vs)) := ap_ rfl
theorem kTurn_ex {vs : List Nat} {st : Tg} {f : VS} {ds : List D} {e : Env} {C : Str} {fs : List (Str × D)} : kTurn vs st f ds (.ex C fs e) = .done (.ex C fs e) := ap_ rfl
/-- a turn, with the slots forgotten behind it -/
def turnW (vs : List Nat) (t : T SO) : T SO := t.bind fun o => match o with
  | .nx e => .done (.nx (wipeE e vs))
  | .ct e => .done (.nx (wipeE e vs))
  | .bk e => .done (.bk (wipeE e vs))
  | .rt r e => .done (.rt r e)
  | .ex C fs e => .done (.ex C fs e)
theorem turnW_nx {vs : List Nat} {e : Env} : turnW vs (.done (.nx e)) = .done (.nx (wipeE e vs)) := ap_ rfl
theorem turnW_ct {vs : List Nat} {e : Env} : turnW vs (.done (.ct e)) = .done (.nx (wipeE e vs)) := ap_ rfl
theorem turnW_bk {vs : List Nat} {e : Env} : turnW vs (.done (.bk e)) = .done (.bk (wipeE e vs)) := ap_ rfl
theorem turnW_rt {vs : List Nat} {e : Env} {r : Sl} : turnW vs (.done (.rt r e)) = .done (.rt r e) := ap_ rfl
theorem turnW_ex {vs : List Nat} {e : Env} {C : Str} {fs : List (Str × D)} : turnW vs (.done (.ex C fs e)) = .done (.ex C fs e) := ap_ rfl
theorem turnW_draw {vs : List Nat} {m : Int} {k : Int → T SO} : turnW vs (.draw m k) = .draw m fun r => turnW vs (k r) := ap_ rfl
theorem set_idem {i j : Nat} (e : Env) : (e.set i none).set j none = (e.set j none).set i none := by
  by_cases h : i = j
  · rw [h]
  · exact List.set_comm _ _ h
theorem wipe_set {i : Nat} : ∀ (vs : List Nat) (e : Env), wipeE (e.set i none) vs = (wipeE e vs).set i none
  | [], e => rfl
  | v :: vs, e => by
    show (wipeE (e.set i none) vs).set v none = ((wipeE e vs).set v none).set i none
    rw [wipe_set vs e, set_idem]
theorem wipe_wipe : ∀ (vs : List Nat) (e : Env), wipeE (wipeE e vs) vs = wipeE e vs
  | [], e => rfl
  | v :: vs, e => by
    show (wipeE ((wipeE e vs).set v none) vs).set v none = (wipeE e vs).set v none
    rw [wipe_set, wipe_wipe vs e, List.set_set]
theorem forL_wipe {vs : List Nat} {st : Tg} {f : VS} {ds : List D} {e : Env} : forL vs st f ds (wipeE e vs) = forL vs st f ds e := by
  cases ds with
  | nil => rw [forL_nil, forL_nil, wipe_wipe]
  | cons d ds => rw [forL_cons, forL_cons, wipe_wipe]
/-- one turn of a loop, by its outcome -/
theorem forL_turn {vs : List Nat} {st : Tg} {f : VS} {d : D} {ds : List D} {e : Env} : forL vs st f (d :: ds) e = (turnW vs (oT (st d (wipeE e vs)) f)).bind (kTurn vs st f ds) := by
  rw [forL_cons]
  cases st d (wipeE e vs) with
  | none => rfl
  | some e1 =>
    rw [oT_some, oT_some]
    unfold turnW
    rw [T.bind_assoc]
    congr 1
    funext o
    cases o with
    | nx e2 =>
      show forL vs st f ds e2 = forL vs st f ds (wipeE e2 vs)
      rw [forL_wipe]
    | ct e2 =>
      show forL vs st f ds e2 = forL vs st f ds (wipeE e2 vs)
      rw [forL_wipe]
    | bk e2 =>
      show T.done (SO.nx (wipeE e2 vs)) = T.done (SO.nx (wipeE (wipeE e2 vs) vs))
      rw [wipe_wipe]
    | rt r e2 => rfl
    | ex C fs e2 => rfl
/-- a loop that goes through: the state b, shown by φ -/
theorem forL_foldI {α β : Type} {vs : List Nat} {st : Tg} {f : VS} {enc : α → D} {φ : β → Env} {step : β → α → β} (I : Nat → β → Prop) : ∀ {xs : List α} {k : Nat} {b : β} {e0 : Env}, wipeE e0 vs = φ b → I k b → (∀ i b a, xs[i]? = some a → I (k + i) b → turnW vs (oT (st (enc a) (φ b)) f) = .done (.nx (φ (step b a))) ∧ I (k + i + 1) (step b a)) →
    forL vs st f (xs.map enc) e0 = .done (.nx (φ (xs.foldl step b))) ∧ I (k + xs.length) (xs.foldl step b)
  | [], k, b, e0, h0, hI, _ => by
    refine ⟨?_, hI⟩
    show T.done (SO.nx (wipeE e0 vs)) = _
    rw [h0]
    rfl
  | x :: xs, k, b, e0, h0, hI, hs => by
    obtain ⟨h1, h2⟩ := hs 0 b x rfl hI
    rw [List.map_cons, forL_turn, h0, h1, bind_done, kTurn_nx]
    have w : wipeE (φ (step b x)) vs = φ (step b x) := by
      have h1 : (oT (st (enc x) (φ b)) f).bind _ = T.done (SO.nx (φ (step b x))) := h1
      cases q : oT (st (enc x) (φ b)) f with
      | done o =>
        rw [q, bind_done] at h1
        cases o with
        | nx e =>
          have h1 : T.done (SO.nx (wipeE e vs)) = _ := h1
          injection h1 with h1
          injection h1 with h1
          rw [← h1, wipe_wipe]
        | ct e =>
          have h1 : T.done (SO.nx (wipeE e vs)) = _ := h1
          injection h1 with h1
          injection h1 with h1
          rw [← h1, wipe_wipe]
        | bk e => cases h1
        | rt r e => cases h1
        | ex C fs e => cases h1
      | bad =>
        rw [q] at h1
        cases h1
      | draw m k =>
        rw [q] at h1
        cases h1
    have ih := forL_foldI I (xs := xs) (k := k + 1) w h2 fun i b a ha hi => by
      have := hs (i + 1) b a ha (by rw [show k + (i + 1) = k + 1 + i by omega]; exact hi)
      rw [show k + (i + 1) + 1 = k + 1 + i + 1 by omega] at this
      exact this
    rw [show k + (x :: xs).length = k + 1 + xs.length by rw [List.length_cons]; omega]
    exact ih
theorem forL_fold {α β : Type} {vs : List Nat} {st : Tg} {f : VS} {enc : α → D} {φ : β → Env} {step : β → α → β} {xs : List α} {b : β} {e0 : Env} (h0 : wipeE e0 vs = φ b) (hs : ∀ b a, a ∈ xs → turnW vs (oT (st (enc a) (φ b)) f) = .done (.nx (φ (step b a)))) : forL vs st f (xs.map enc) e0 = .done (.nx (φ (xs.foldl step b))) :=
  (forL_foldI (fun _ _ => True) (k := 0) h0 trivial fun i b a ha _ => ⟨hs b a (List.mem_of_getElem? ha), trivial⟩).1
/-- a loop that may end early: each turn goes on from state b to step b a, or ends the loop -/
def goL {α β : Type} (φ : β → Env) (step : β → α → β ⊕ SO) : List α → β → SO
  | [], b => .nx (φ b)
  | x :: xs, b => match step b x with
    | .inl b' => goL φ step xs b'
    | .inr (.bk e) => .nx e
    | .inr o => o
theorem forL_run {α β : Type} {vs : List Nat} {st : Tg} {f : VS} {enc : α → D} {φ : β → Env} {step : β → α → β ⊕ SO} : ∀ {xs : List α} {b : β} {e0 : Env}, (∀ b, wipeE (φ b) vs = φ b) → wipeE e0 vs = φ b → (∀ b a, a ∈ xs → match step b a with
      | .inl b' => turnW vs (oT (st (enc a) (φ b)) f) = .done (.nx (φ b'))
      | .inr (.nx _) => False
      | .inr (.ct _) => False
      | .inr o => turnW vs (oT (st (enc a) (φ b)) f) = .done o) →
    forL vs st f (xs.map enc) e0 = .done (goL φ step xs b)
  | [], b, e0, _, h0, _ => by
    show T.done (SO.nx (wipeE e0 vs)) = _
    rw [h0]
    rfl
  | x :: xs, b, e0, hφ, h0, hs => by
    have h1 := hs b x List.mem_cons_self
    rw [List.map_cons, forL_turn, h0]
    show _ = T.done (match step b x with | .inl b' => goL φ step xs b' | .inr (.bk e) => .nx e | .inr o => o)
    cases q : step b x with
    | inl b' =>
      rw [q] at h1
      have h1 : turnW vs (oT (st (enc x) (φ b)) f) = .done (.nx (φ b')) := h1
      rw [h1, bind_done, kTurn_nx]
      exact forL_run hφ (hφ b') fun b a ha => hs b a (List.mem_cons_of_mem _ ha)
    | inr o =>
      rw [q] at h1
      cases o with
      | nx e => exact h1.elim
      | ct e => exact h1.elim
      | rt r e =>
        have h1 : turnW vs (oT (st (enc x) (φ b)) f) = .done (.rt r e) := h1
        rw [h1]
        rfl
      | ex C fs e =>
        have h1 : turnW vs (oT (st (enc x) (φ b)) f) = .done (.ex C fs e) := h1
        rw [h1]
        rfl
      | bk e =>
        have h1 : turnW vs (oT (st (enc x) (φ b)) f) = .done (.bk e) := h1
        rw [h1, bind_done, kTurn_bk]
        have w : wipeE e vs = e := by
          have h1 : (oT (st (enc x) (φ b)) f).bind _ = T.done (SO.bk e) := h1
          cases q : oT (st (enc x) (φ b)) f with
          | done o =>
            rw [q, bind_done] at h1
            cases o with
            | bk e' =>
              have h1 : T.done (SO.bk (wipeE e' vs)) = _ := h1
              injection h1 with h1
              injection h1 with h1
              rw [← h1, wipe_wipe]
            | _ => cases h1
          | bad =>
            rw [q] at h1
            cases h1
          | draw m k =>
            rw [q] at h1
            cases h1
        rw [w]
def toSO {β : Type} (φ : β → Env) : β ⊕ SO → SO
  | .inl b => .nx (φ b)
  | .inr o => o
def endsO {β : Type} : β ⊕ SO → Bool
  | .inr (.nx _) => false
  | .inr (.ct _) => false
  | _ => true
theorem forL_run2 {α β : Type} {vs : List Nat} {st : Tg} {f : VS} {enc : α → D} {φ : β → Env} {step : β → α → β ⊕ SO} {xs : List α} {b : β} {e0 : Env} (hφ : ∀ b, wipeE (φ b) vs = φ b) (h0 : wipeE e0 vs = φ b) (hs : ∀ b a, a ∈ xs → turnW vs (oT (st (enc a) (φ b)) f) = .done (toSO φ (step b a))) (hn : ∀ b a, endsO (step b a) = true) :
    forL vs st f (xs.map enc) e0 = .done (goL φ step xs b) := forL_run hφ h0 fun b a ha => by
  have h1 := hs b a ha
  have h2 := hn b a
  cases q : step b a with
  | inl b' =>
    rw [q] at h1
    exact h1
  | inr o =>
    rw [q] at h1 h2
    cases o with
    | nx e => cases h2
    | ct e => cases h2
    | bk e => exact h1
    | rt r e => exact h1
    | ex C fs e => exact h1
/-- behind a turn -/
def turnP (I : Nat → Env → Prop) (P : SO → Prop) (i : Nat) : SO → Prop
  | .nx e2 => I (i + 1) e2
  | .bk e2 => P (.nx e2)
  | .ct _ => False
  | o => P o
theorem turnP_nx {I : Nat → Env → Prop} {P : SO → Prop} {i : Nat} {e : Env} : turnP I P i (.nx e) = I (i + 1) e := ap_ rfl
theorem turnP_bk {I : Nat → Env → Prop} {P : SO → Prop} {i : Nat} {e : Env} : turnP I P i (.bk e) = P (.nx e) := ap_ rfl
theorem turnP_rt {I : Nat → Env → Prop} {P : SO → Prop} {i : Nat} {e : Env} {r : Sl} : turnP I P i (.rt r e) = P (.rt r e) := ap_ rfl
theorem turnP_ex {I : Nat → Env → Prop} {P : SO → Prop} {i : Nat} {e : Env} {C : Str} {fs : List (Str × D)} : turnP I P i (.ex C fs e) = P (.ex C fs e) := ap_ rfl
/-- what holds of a loop whose turns draw: I by the turn -/
theorem forL_all {vs : List Nat} {st : Tg} {f : VS} {P : SO → Prop} (I : Nat → Env → Prop) : ∀ {ds : List D} {k : Nat} {e0 : Env}, I k (wipeE e0 vs) → (∀ i d e, ds[i]? = some d → I (k + i) e → (turnW vs (oT (st d e) f)).All (turnP I P (k + i))) → (∀ e, I (k + ds.length) e → P (.nx e)) → (forL vs st f ds e0).All P
  | [], k, e0, h0, _, he => he _ h0
  | d :: ds, k, e0, h0, hs, he => by
    rw [forL_turn]
    refine T.all_bind.mpr ?_
    have h2 := hs 0 d _ rfl h0
    unfold turnW at h2 ⊢
    refine T.all_bind.mpr (T.all_mono (fun o ho => ?_) (T.all_bind.mp h2))
    have go : ∀ e2, I (k + 0 + 1) (wipeE e2 vs) → (forL vs st f ds (wipeE e2 vs)).All P := fun e2 h3 => forL_all I (k := k + 1) (by rw [wipe_wipe]; exact h3) (fun i d' e hd hi => by
      have := hs (i + 1) d' e hd (by rw [show k + (i + 1) = k + 1 + i by omega]; exact hi)
      rw [show k + (i + 1) = k + 1 + i by omega] at this
      exact this) fun e hi => he e (by rw [List.length_cons, show k + (ds.length + 1) = k + 1 + ds.length by omega]; exact hi)
    cases o with
    | nx e2 => exact go e2 ho
    | ct e2 => exact go e2 ho
    | bk e2 =>
      show P (.nx (wipeE (wipeE e2 vs) vs))
      rw [wipe_wipe]
      exact ho
    | rt r e2 => exact ho
    | ex C fs e2 => exact ho
/-! ### comprehensions -/
/-- whose turns have no effect: the items are f of those that pass -/
theorem comps_mp {α : Type} {st : Tg} {c : B} {p : G} {e : Env} {enc : α → D} {f : α → D} {t : α → Bool} : ∀ {xs : List α}, (∀ x ∈ xs, ∃ e1, st (enc x) e = some e1 ∧ c e1 = some (t x) ∧ (t x = true → p e1 = some (.f (f x)))) → comps st c p e (xs.map enc) = some ((xs.filter t).map f)
  | [], _ => rfl
  | x :: xs, h => by
    obtain ⟨e1, h1, h2, h3⟩ := h x List.mem_cons_self
    have ih := comps_mp (st := st) (c := c) (p := p) (e := e) (enc := enc) (f := f) (t := t) (xs := xs) fun y hy => h y (List.mem_cons_of_mem _ hy)
    rw [List.map_cons]
    unfold comps
    rw [h1]
    show (match c e1 with | some true => _ | some false => _ | none => _) = _
    rw [h2]
    cases q : t x with
    | true =>
      show (match p e1, comps st c p e (xs.map enc) with | some (.f y), some r => some (y :: r) | _, _ => none) = _
      rw [h3 q, ih, List.filter_cons_of_pos q]
      rfl
    | false =>
      show comps st c p e (xs.map enc) = _
      rw [ih, List.filter_cons_of_neg (by rw [q]; exact Bool.false_ne_true)]
theorem comps_all {α : Type} {st : Tg} {p : G} {e : Env} {enc : α → D} {f : α → D} {xs : List α} (h : ∀ x ∈ xs, ∃ e1, st (enc x) e = some e1 ∧ p e1 = some (.f (f x))) : comps st bYes p e (xs.map enc) = some (xs.map f) := by
  have := comps_mp (st := st) (c := bYes) (p := p) (e := e) (enc := enc) (f := f) (t := fun _ => true) (xs := xs) fun x hx => by
    obtain ⟨e1, h1, h2⟩ := h x hx
    exact ⟨e1, h1, rfl, fun _ => h2⟩
  rwa [List.filter_eq_self.mpr fun _ _ => rfl] at this
theorem comps_fil {α : Type} {st : Tg} {c : B} {p : G} {e : Env} {enc : α → D} {t : α → Bool} {xs : List α} (h : ∀ x ∈ xs, ∃ e1, st (enc x) e = some e1 ∧ c e1 = some (t x) ∧ p e1 = some (.f (enc x))) : comps st c p e (xs.map enc) = some ((xs.filter t).map enc) := comps_mp fun x hx => by
  obtain ⟨e1, h1, h2, h3⟩ := h x hx
  exact ⟨e1, h1, h2, fun _ => h3⟩
/-- comprehensions whose turns have effects, but change nothing -/
theorem lcL_map {α : Type} {vs : List Nat} {st : Tg} {t : VT} {x : VX} {e : Env} {enc : α → D} {f : α → D} {q : α → Bool} : ∀ {xs : List α} {acc : List D}, (∀ y ∈ xs, ∃ e1 e2, st (enc y) e = some e1 ∧ t e1 = .done (.ok (q y) e2) ∧ (q y = true → ∃ r e3, x e2 = .done (.ok r e3) ∧ r.fzD = some (f y) ∧ wipeE e3 vs = e) ∧ (q y = false → wipeE e2 vs = e)) → lcL vs st t x (xs.map enc) acc e = .done (.ok (acc ++ (xs.filter q).map f) e)
  | [], acc, _ => by
    show T.done (O.ok acc e) = _
    rw [List.filter_nil, List.map_nil, List.append_nil]
  | y :: xs, acc, h => by
    obtain ⟨e1, e2, h1, h2, h3, h4⟩ := h y List.mem_cons_self
    rw [List.map_cons]
    show (oT (st (enc y) e) fun e1 => bN (t e1) fun c e2 => if c = true then bN (x e2) fun r e3 => oT r.fzD fun y => lcL vs st t x (xs.map enc) (acc ++ [y]) (wipeE e3 vs) else lcL vs st t x (xs.map enc) acc (wipeE e2 vs)) = _
    rw [h1, oT_some, h2, bN_ok]
    cases qy : q y with
    | true =>
      obtain ⟨r, e3, h5, h6, h7⟩ := h3 qy
      rw [if_pos rfl, h5, bN_ok, h6, oT_some, h7, lcL_map fun z hz => h z (List.mem_cons_of_mem _ hz), List.filter_cons_of_pos qy, List.map_cons, List.append_assoc]
      rfl
    | false =>
      rw [if_neg Bool.false_ne_true, h4 qy, lcL_map fun z hz => h z (List.mem_cons_of_mem _ hz), List.filter_cons_of_neg (by rw [qy]; exact Bool.false_ne_true)]
theorem lcL_all {α : Type} {vs : List Nat} {st : Tg} {x : VX} {e : Env} {enc : α → D} {f : α → D} {xs : List α} {acc : List D} (h : ∀ y ∈ xs, ∃ e1 r e3, st (enc y) e = some e1 ∧ x e1 = .done (.ok r e3) ∧ r.fzD = some (f y) ∧ wipeE e3 vs = e) : lcL vs st vtYesX x (xs.map enc) acc e = .done (.ok (acc ++ xs.map f) e) := by
  have := lcL_map (vs := vs) (st := st) (t := vtYesX) (x := x) (e := e) (enc := enc) (f := f) (q := fun _ => true) (xs := xs) (acc := acc) fun y hy => by
    obtain ⟨e1, r, e3, h1, h2, h3, h4⟩ := h y hy
    exact ⟨e1, e1, h1, rfl, fun _ => ⟨r, e3, h2, h3, h4⟩, fun z => by cases z⟩
  rwa [List.filter_eq_self.mpr fun _ _ => rfl] at this
end Pu

/-! ## Pv: leaves -/
namespace Pu
open PySem PySem.Spec PyProof.Rows L2 Ed
section
variable {a b c d x y z : D} {e : Env} {l r : Names} {ad : Addr}
theorem mkL0 : mkL [] = some (.f (.lst [])) := ap_ rfl
theorem mkL1 : mkL [.f a] = some (.f (.lst [a])) := ap_ rfl
theorem mkL2 : mkL [.f a, .f b] = some (.f (.lst [a, b])) := ap_ rfl
theorem mkL3 : mkL [.f a, .f b, .f c] = some (.f (.lst [a, b, c])) := ap_ rfl
theorem mkL4 : mkL [.f a, .f b, .f c, .f d] = some (.f (.lst [a, b, c, d])) := ap_ rfl
theorem mkT0 : mkT [] = some (.f (.tup [])) := ap_ rfl
theorem mkT1 : mkT [.f a] = some (.f (.tup [a])) := ap_ rfl
theorem mkT2 : mkT [.f a, .f b] = some (.f (.tup [a, b])) := ap_ rfl
theorem mkT3 : mkT [.f a, .f b, .f c] = some (.f (.tup [a, b, c])) := ap_ rfl
theorem mkT4 : mkT [.f a, .f b, .f c, .f d] = some (.f (.tup [a, b, c, d])) := ap_ rfl
theorem mkT5 : mkT [.f a, .f b, .f c, .f d, .f x] = some (.f (.tup [a, b, c, d, x])) := ap_ rfl
theorem mkT6 : mkT [.f a, .f b, .f c, .f d, .f x, .f y] = some (.f (.tup [a, b, c, d, x, y])) := ap_ rfl
theorem mkT7 : mkT [.f a, .f b, .f c, .f d, .f x, .f y, .f z] = some (.f (.tup [a, b, c, d, x, y, z])) := ap_ rfl
theorem ol_map_f {ds : List D} : kidsL (.lst ad (ds.map N.f)) = some ds := kids_ol ad ds
/-! names -/
theorem lstOf_dN : lstOf (dN l) = some (l.map D.str) := ap_ rfl
theorem kids_dN' : kidsL (.f (dN l)) = some (l.map D.str) := ap_ rfl
theorem dN_eq : D.lst (l.map D.str) = dN l := ap_ rfl
theorem inL_names (x : Str) (l : Names) : inL (.str x) (l.map D.str) = some (decide (x ∈ l)) := by
  unfold inL
  rw [if_pos ⟨rfl, by rw [List.all_eq_true]; intro d hd; obtain ⟨b, _, rfl⟩ := List.mem_map.mp hd; rfl⟩, ← inV_str, List.map_map]
  rfl
theorem in_dN {s : Str} : fOp inD (.f (.str s)) (.f (dN l)) = some (.f (.bl (decide (s ∈ l)))) := by
  show ((inL (.str s) (l.map D.str)).map D.bl).map N.f = _
  rw [inL_names]
  rfl
theorem nin_dN {s : Str} : fOp ninD (.f (.str s)) (.f (dN l)) = some (.f (.bl (!decide (s ∈ l)))) := by
  show ((inL (.str s) (l.map D.str)).map fun b => D.bl (!b)).map N.f = _
  rw [inL_names]
  rfl
theorem in_lN {s : Str} : fOp inD (.f (.str s)) (.f (.lst (l.map D.str))) = some (.f (.bl (decide (s ∈ l)))) := in_dN
theorem nin_lN {s : Str} : fOp ninD (.f (.str s)) (.f (.lst (l.map D.str))) = some (.f (.bl (!decide (s ∈ l)))) := nin_dN
theorem in_olN {s : Str} : fOp inD (.f (.str s)) (ol ad (l.map D.str)) = some (.f (.bl (decide (s ∈ l)))) := by
  unfold fOp
  rw [ol_toD]
  exact in_dN
theorem nin_olN {s : Str} : fOp ninD (.f (.str s)) (ol ad (l.map D.str)) = some (.f (.bl (!decide (s ∈ l)))) := by
  unfold fOp
  rw [ol_toD]
  exact nin_dN
/-! truth values in a list of truth values -/
theorem inL_bools (c : Bool) (bs : List Bool) : inL (.bl c) (bs.map D.bl) = some (decide (c ∈ bs)) := by
  unfold inL
  rw [if_pos ⟨rfl, by rw [List.all_eq_true]; intro d hd; obtain ⟨b, _, rfl⟩ := List.mem_map.mp hd; rfl⟩]
  congr 1
  induction bs with
  | nil => rfl
  | cons b bs ih =>
    unfold inV at ih ⊢
    rw [List.map_cons, List.map_cons, List.any_cons, ih]
    cases b <;> cases c <;> simp [eqV, D.v]
theorem in_bools {c : Bool} {bs : List Bool} : fOp inD (.f (.bl c)) (.f (.lst (bs.map D.bl))) = some (.f (.bl (decide (c ∈ bs)))) := by
  show ((inL (.bl c) (bs.map D.bl)).map D.bl).map N.f = _
  rw [inL_bools]
  rfl
theorem nin_bools {c : Bool} {bs : List Bool} : fOp ninD (.f (.bl c)) (.f (.lst (bs.map D.bl))) = some (.f (.bl (!decide (c ∈ bs)))) := by
  show ((inL (.bl c) (bs.map D.bl)).map fun b => D.bl (!b)).map N.f = _
  rw [inL_bools]
  rfl
/-! numbers -/
variable {i j : Int}
theorem lt_i : fOp ltD (.f (.int i)) (.f (.int j)) = some (.f (.bl (decide (i < j)))) := ap_ rfl
theorem le_i : fOp leD (.f (.int i)) (.f (.int j)) = some (.f (.bl (decide (i ≤ j)))) := ap_ rfl
theorem gt_i : fOp gtD (.f (.int i)) (.f (.int j)) = some (.f (.bl (decide (i > j)))) := ap_ rfl
theorem ge_i : fOp geD (.f (.int i)) (.f (.int j)) = some (.f (.bl (decide (i ≥ j)))) := ap_ rfl
theorem add_i : fOp addD (.f (.int i)) (.f (.int j)) = some (.f (.int (i + j))) := ap_ rfl
theorem sub_i : fOp subD (.f (.int i)) (.f (.int j)) = some (.f (.int (i - j))) := ap_ rfl
theorem neg_i : fUn negD (.f (.int i)) = some (.f (.int (-i))) := ap_ rfl
theorem isN_non : fOp isND (.f .non) (.f .non) = some (.f (.bl true)) := ap_ rfl
theorem isN_str {s : Str} : fOp isND (.f (.str s)) (.f .non) = some (.f (.bl false)) := ap_ rfl
theorem isN_int : fOp isND (.f (.int i)) (.f .non) = some (.f (.bl false)) := ap_ rfl
theorem isN_tup {ds : List D} : fOp isND (.f (.tup ds)) (.f .non) = some (.f (.bl false)) := ap_ rfl
theorem isN_lst {ds : List D} : fOp isND (.f (.lst ds)) (.f .non) = some (.f (.bl false)) := ap_ rfl
theorem notN_non : fOp notND (.f .non) (.f .non) = some (.f (.bl false)) := ap_ rfl
theorem notN_str {s : Str} : fOp notND (.f (.str s)) (.f .non) = some (.f (.bl true)) := ap_ rfl
theorem notN_tup {ds : List D} : fOp notND (.f (.tup ds)) (.f .non) = some (.f (.bl true)) := ap_ rfl
theorem len_l {ds : List D} : fA1 lenD [.f (.lst ds)] = some (.f (.int ds.length)) := ap_ rfl
theorem len_t {ds : List D} : fA1 lenD [.f (.tup ds)] = some (.f (.int ds.length)) := ap_ rfl
theorem len_d {ds : List (Key × D)} : fA1 lenD [.f (.dic ds)] = some (.f (.int ds.length)) := ap_ rfl
theorem len_dN : fA1 lenD [.f (dN l)] = some (.f (.int l.length)) := by
  show some (N.f (.int ((l.map D.str).length))) = _
  rw [List.length_map]
theorem len_olv {ds : List D} : fA1 lenD [ol ad ds] = some (.f (.int ds.length)) := by
  show (lenD (ol ad ds).toD).map N.f = _
  rw [ol_toD]
  rfl
theorem len_odv {ds : List (Key × D)} : fA1 lenD [od ad ds] = some (.f (.int ds.length)) := by
  show (lenD (od ad ds).toD).map N.f = _
  rw [od_toD]
  rfl
theorem tru_b {t : Bool} : truD (.bl t) = some t := ap_ rfl
theorem tru_l {ds : List D} : truD (.lst ds) = some (!ds.isEmpty) := ap_ rfl
theorem tru_t {ds : List D} : truD (.tup ds) = some (!ds.isEmpty) := ap_ rfl
theorem tru_n : truD .non = some false := ap_ rfl
/-! parts -/
theorem ix_t0 {ds : List D} : ixD (.f (.tup (a :: ds))) (.f (.int 0)) = some (.f a) := by
  show (atI (a :: ds) (0 : Int)).map N.f = _
  rw [show atI (a :: ds) (0 : Int) = some a from atI_nat (j := 0) rfl]
  rfl
theorem ix_t1 {ds : List D} : ixD (.f (.tup (a :: b :: ds))) (.f (.int 1)) = some (.f b) := by
  show (atI (a :: b :: ds) (1 : Int)).map N.f = _
  rw [show atI (a :: b :: ds) (1 : Int) = some b from atI_nat (j := 1) rfl]
  rfl
theorem ix_t2 {ds : List D} : ixD (.f (.tup (a :: b :: c :: ds))) (.f (.int 2)) = some (.f c) := by
  show (atI (a :: b :: c :: ds) (2 : Int)).map N.f = _
  rw [show atI (a :: b :: c :: ds) (2 : Int) = some c from atI_nat (j := 2) rfl]
  rfl
theorem ix_t3 {ds : List D} : ixD (.f (.tup (a :: b :: c :: d :: ds))) (.f (.int 3)) = some (.f d) := by
  show (atI (a :: b :: c :: d :: ds) (3 : Int)).map N.f = _
  rw [show atI (a :: b :: c :: d :: ds) (3 : Int) = some d from atI_nat (j := 3) rfl]
  rfl
theorem ix_t4 {ds : List D} : ixD (.f (.tup (a :: b :: c :: d :: x :: ds))) (.f (.int 4)) = some (.f x) := by
  show (atI (a :: b :: c :: d :: x :: ds) (4 : Int)).map N.f = _
  rw [show atI (a :: b :: c :: d :: x :: ds) (4 : Int) = some x from atI_nat (j := 4) rfl]
  rfl
theorem ix_t6 {ds : List D} {u v : D} : ixD (.f (.tup (a :: b :: c :: d :: x :: y :: u :: ds))) (.f (.int 6)) = some (.f u) := by
  show (atI (a :: b :: c :: d :: x :: y :: u :: ds) (6 : Int)).map N.f = _
  rw [show atI (a :: b :: c :: d :: x :: y :: u :: ds) (6 : Int) = some u from atI_nat (j := 6) rfl]
  rfl
theorem ix_l0 {ds : List D} : ixD (.f (.lst (a :: ds))) (.f (.int 0)) = some (.f a) := by
  show (atI (a :: ds) (0 : Int)).map N.f = _
  rw [show atI (a :: ds) (0 : Int) = some a from atI_nat (j := 0) rfl]
  rfl
theorem ix_N0 {s : Str} : ixD (.f (dN (s :: l))) (.f (.int 0)) = some (.f (.str s)) := ix_l0
def isOlO : Option (Option Sl) → Option (List D)
  | some (some (.ow (.lst _ ns))) => kidsL.fds ns
  | _ => none
theorem isOl_ap {i : Nat} : isOlB e i = isOlO e[i]? := ap_ rfl
theorem isOlO_ol {ds : List D} : isOlO (some (some (.ow (ol ad ds)))) = some ds := kids_ol ad ds
def isOdO : Option (Option Sl) → Option (List (Key × D))
  | some (some (.ow (.dic _ ns))) => isOdB.fdk ns
  | _ => none
theorem isOd_ap {i : Nat} : isOdB e i = isOdO e[i]? := ap_ rfl
theorem isOdO_od {ds : List (Key × D)} : isOdO (some (some (.ow (od ad ds)))) = some ds := fdk_f ds
theorem key_s {s : Str} : keyD (.str s) = some (.inr s) := ap_ rfl
theorem key_i : keyD (.int i) = some (.inl i) := ap_ rfl
theorem nat_i {n : Nat} : natOf (.int (n : Int)) = some n := rfl
theorem int_i : intOf (.int i) = some i := ap_ rfl
theorem any_bools {bs : List Bool} : fA1 anyD [.f (.lst (bs.map D.bl))] = some (.f (.bl (bs.any id))) := by
  show ((bools (bs.map D.bl)).map fun bs => D.bl (bs.any id)).map N.f = _
  rw [bools_map]
  rfl
theorem all_bools {bs : List Bool} : fA1 allD [.f (.lst (bs.map D.bl))] = some (.f (.bl (bs.all id))) := by
  show ((bools (bs.map D.bl)).map fun bs => D.bl (bs.all id)).map N.f = _
  rw [bools_map]
  rfl
end
/-! slices -/
theorem cutL_from {α : Type} (l : List α) (k : Nat) : cutL l (some (k : Int)) none = l.drop k := by
  unfold cutL
  rw [HT.sIx_nat, HT.sIx_none]
  by_cases h : k ≤ l.length
  · rw [Nat.min_eq_left h, List.take_of_length_le (by rw [List.length_drop]; omega)]
  · rw [Nat.min_eq_right (by omega), List.drop_of_length_le (Nat.le_refl _), List.drop_of_length_le (by omega), List.take_nil]
theorem cutL_to {α : Type} (l : List α) (k : Nat) : cutL l none (some (k : Int)) = l.take k := by
  unfold cutL
  rw [HT.sIx_nat, HT.sIx_none]
  show (l.drop 0).take (min k l.length - 0) = _
  rw [List.drop_zero, Nat.sub_zero]
  by_cases h : k ≤ l.length
  · rw [Nat.min_eq_left h]
  · rw [Nat.min_eq_right (by omega), List.take_of_length_le (Nat.le_refl _), List.take_of_length_le (by omega)]
theorem sl_from {l : Names} {k : Nat} : slL (.f (dN l)) (some (k : Int)) none = some (.f (dN (l.drop k))) := by
  show some (N.f (.lst (cutL (l.map D.str) (some (k : Int)) none))) = _
  rw [cutL_map, cutL_from]
  rfl
theorem sl_from1 {l : Names} : slL (.f (dN l)) (some 1) none = some (.f (dN (l.drop 1))) := sl_from (k := 1)
theorem sl_to {l : Names} {k : Nat} : slL (.f (dN l)) none (some (k : Int)) = some (.f (dN (l.take k))) := by
  show some (N.f (.lst (cutL (l.map D.str) none (some (k : Int))))) = _
  rw [cutL_map, cutL_to]
  rfl
theorem sl_to1 {l : Names} : slL (.f (dN l)) none (some 1) = some (.f (dN (l.take 1))) := sl_to (k := 1)
/-! loops -/
def kWh (vs : List Nat) (t : VT) (f : VS) (n : Nat) : SO → T SO
  | .nx e2 => whileL vs t f n e2
  | .ct e2 => whileL vs t f n e2
  | .bk e2 => .done (.nx e2)
  | .rt r e2 => .done (.rt r e2)
  | .ex C fs e2 => .done (.ex C fs e2)
def kWhile (vs : List Nat) (t : VT) (f : VS) (n : Nat) (c : Bool) (e : Env) : T SO := if c = true then (f e).bind (kWh vs t f n) else .done (.nx e)
section
variable {vs : List Nat} {t : VT} {f : VS} {n : Nat} {e : Env} {r : Sl} {C : Str} {fs : List (Str × D)}
theorem whileL_ap : whileL vs t f (n + 1) e = bS (t (wipeE e vs)) (kWhile vs t f n) := ap_ rfl
theorem kWhile_t : kWhile vs t f n true e = (f e).bind (kWh vs t f n) := ap_ rfl
theorem kWhile_f : kWhile vs t f n false e = .done (.nx e) := ap_ rfl
theorem kWh_nx : kWh vs t f n (.nx e) = whileL vs t f n e := ap_ rfl
theorem kWh_ct : kWh vs t f n (.ct e) = whileL vs t f n e := ap_ rfl
theorem kWh_bk : kWh vs t f n (.bk e) = .done (.nx e) := ap_ rfl
theorem kWh_rt : kWh vs t f n (.rt r e) = .done (.rt r e) := ap_ rfl
theorem kWh_ex : kWh vs t f n (.ex C fs e) = .done (.ex C fs e) := ap_ rfl
/-- a loop that looks for the first -/
theorem goL_find {α : Type} {φ : Unit → Env} {t : α → Bool} {o : α → SO} (hb : ∀ a e, o a ≠ .bk e) : ∀ (xs : List α), goL φ (fun (_ : Unit) a => if t a = true then .inr (o a) else .inl ()) xs () = match xs.find? t with | some a => o a | none => .nx (φ ())
  | [] => rfl
  | x :: xs => by
    rw [List.find?_cons]
    unfold goL
    cases h : t x with
    | true =>
      rw [if_pos rfl]
      cases ho : o x with
      | bk e => exact absurd ho (hb x e)
      | _ =>
        simp only
        exact ho.symm
    | false =>
      rw [if_neg Bool.false_ne_true]
      exact goL_find hb xs
end
/-! ### what holds of all outcomes -/
section
variable {α β : Type} {P : O β → Prop} {S : SO → Prop} {F : FO → Prop} {q : T (O α)} {x : T (O Sl)} {z : T SO} {g : VS} {G : VF} {as : List PArg} {e : Env} {us : List Sl} {vs : List Nat}
def kAll (k : α → Env → T (O β)) (P : O β → Prop) : O α → Prop
  | .ok a e => (k a e).All P
  | .ex C fs e => P (.ex C fs e)
def kAllS (k : α → Env → T SO) (P : SO → Prop) : O α → Prop
  | .ok a e => (k a e).All P
  | .ex C fs e => P (.ex C fs e)
theorem all_bO {k : α → Env → T (O β)} (h : q.All (kAll k P)) : (bO q k).All P := T.all_bind.mpr (T.all_mono (fun o ho => by cases o <;> exact ho) h)
theorem all_bS {k : α → Env → T SO} (h : q.All (kAllS k S)) : (bS q k).All S := T.all_bind.mpr (T.all_mono (fun o ho => by cases o <;> exact ho) h)
def kAllD (k : D → Env → T (O β)) (P : O β → Prop) : O Sl → Prop
  | .ok a e => ∃ d, a.fzD = some d ∧ (k d e).All P
  | .ex C fs e => P (.ex C fs e)
theorem all_vD {k : D → Env → T (O β)} (h : x.All (kAllD k P)) : (vD x k).All P := all_bO (T.all_mono (fun o ho => by
  cases o with
  | ok a e =>
    obtain ⟨d, h1, h2⟩ := ho
    show (oT a.fzD _).All P
    rw [h1]
    exact h2
  | ex C fs e => exact ho) h)
def kAllDS (k : D → Env → T SO) (P : SO → Prop) : O Sl → Prop
  | .ok a e => ∃ d, a.fzD = some d ∧ (k d e).All P
  | .ex C fs e => P (.ex C fs e)
theorem all_vDS {k : D → Env → T SO} (h : x.All (kAllDS k S)) : (vDS x k).All S := all_bS (T.all_mono (fun o ho => by
  cases o with
  | ok a e =>
    obtain ⟨d, h1, h2⟩ := ho
    show (oT a.fzD _).All S
    rw [h1]
    exact h2
  | ex C fs e => exact ho) h)
def thAll (g : VS) (S : SO → Prop) : SO → Prop
  | .nx e => (g e).All S
  | o => S o
theorem all_thS (h : z.All (thAll g S)) : (thS z g).All S := T.all_bind.mpr (T.all_mono (fun o ho => by cases o <;> exact ho) h)
def turnAll (vs : List Nat) (S : SO → Prop) : SO → Prop
  | .nx e => S (.nx (wipeE e vs))
  | .ct e => S (.nx (wipeE e vs))
  | .bk e => S (.bk (wipeE e vs))
  | o => S o
theorem all_turnW (h : z.All (turnAll vs S)) : (turnW vs z).All S := T.all_bind.mpr (T.all_mono (fun o ho => by cases o <;> exact ho) h)
def tryAll (mm : Str → Option Bool) (i : Nat) (s : VS) (S : SO → Prop) : SO → Prop
  | .ex C fs e => ∃ b, mm C = some b ∧ (b = true → i < e.length ∧ noXc e = true ∧ ((s (e.set i (some (.xc 0 .none none C fs)))).bind (finT i)).All S) ∧ (b = false → S (.ex C fs e))
  | o => S o
theorem all_tryS {mm : Str → Option Bool} {i : Nat} {s : VS} (h : z.All (tryAll mm i s S)) : (tryS mm i s z).All S := T.all_bind.mpr (T.all_mono (fun o ho => by
  cases o with
  | ex C fs e =>
    obtain ⟨b, h1, h2, h3⟩ := ho
    show (oT (mm C) _).All S
    rw [h1]
    cases b with
    | true =>
      obtain ⟨h4, h5, h6⟩ := h2 rfl
      rw [oT_some, if_pos rfl, if_pos ⟨h4, h5⟩]
      exact h6
    | false => exact h3 rfl
  | _ => exact ho) h)
def backAll (as : List PArg) (e : Env) (P : O Sl → Prop) : FO → Prop
  | .rt r us => P (.ok r (back e as us))
  | .ex C fs us => P (.ex C fs (back e as us))
theorem all_callG {P : O Sl → Prop} (h : (G us).All (backAll as e P)) : (callG G as e us).All P := T.all_bind.mpr (T.all_mono (fun o ho => by cases o <;> exact ho) h)
def noExAll (P : O Sl → Prop) : O Sl → Prop
  | .ok r e => P (.ok r e)
  | .ex _ _ _ => False
theorem all_noEx {P : O Sl → Prop} (h : x.All (noExAll P)) : (noEx x).All P := T.all_bind.mpr (T.all_mono (fun o ho => by cases o <;> exact ho) h)
def finAll (us : List Sl) (F : FO → Prop) : SO → Prop
  | .nx e => ∃ us', outsV us e = some us' ∧ F (.rt (.fz .non) us')
  | .rt r e => ∃ us', outsV us e = some us' ∧ F (.rt r us')
  | .ex C fs e => ∃ us', outsV us e = some us' ∧ F (.ex C fs us')
  | _ => False
theorem all_finF (h : z.All (finAll us F)) : (z.bind (finF us)).All F := T.all_bind.mpr (T.all_mono (fun o ho => by
  cases o with
  | nx e =>
    obtain ⟨us', h1, h2⟩ := ho
    show (oT (outsV us e) _).All F
    rw [h1]
    exact h2
  | rt r e =>
    obtain ⟨us', h1, h2⟩ := ho
    show (oT (outsV us e) _).All F
    rw [h1]
    exact h2
  | ex C fs e =>
    obtain ⟨us', h1, h2⟩ := ho
    show (oT (outsV us e) _).All F
    rw [h1]
    exact h2
  | bk e => exact ho
  | ct e => exact ho) h)
end
section
variable {α β : Type} {P : O β → Prop} {Q : O Sl → Prop} {S : SO → Prop} {F : FO → Prop} {g s : VS} {as : List PArg} {e : Env} {us : List Sl} {vs : List Nat} {r : Sl} {C : Str} {fs : List (Str × D)} {x : α}
theorem kAll_ok {k : α → Env → T (O β)} : kAll k P (.ok x e) = (k x e).All P := ap_ rfl
theorem kAll_ex {k : α → Env → T (O β)} : kAll k P (.ex C fs e) = P (.ex C fs e) := ap_ rfl
theorem kAllS_ok {k : α → Env → T SO} : kAllS k S (.ok x e) = (k x e).All S := ap_ rfl
theorem kAllS_ex {k : α → Env → T SO} : kAllS k S (.ex C fs e) = S (.ex C fs e) := ap_ rfl
theorem kAllD_fz {k : D → Env → T (O β)} {d : D} : kAllD k P (.ok (.fz d) e) = (k d e).All P := propext ⟨fun ⟨_, h, z⟩ => by cases h; exact z, fun z => ⟨d, rfl, z⟩⟩
theorem kAllD_ow {k : D → Env → T (O β)} {m : N} : kAllD k P (.ok (.ow m) e) = (k m.toD e).All P := propext ⟨fun ⟨_, h, z⟩ => by cases h; exact z, fun z => ⟨_, rfl, z⟩⟩
theorem kAllD_ex {k : D → Env → T (O β)} : kAllD k P (.ex C fs e) = P (.ex C fs e) := ap_ rfl
theorem kAllDS_fz {k : D → Env → T SO} {d : D} : kAllDS k S (.ok (.fz d) e) = (k d e).All S := propext ⟨fun ⟨_, h, z⟩ => by cases h; exact z, fun z => ⟨d, rfl, z⟩⟩
theorem kAllDS_ow {k : D → Env → T SO} {m : N} : kAllDS k S (.ok (.ow m) e) = (k m.toD e).All S := propext ⟨fun ⟨_, h, z⟩ => by cases h; exact z, fun z => ⟨_, rfl, z⟩⟩
theorem kAllDS_ex {k : D → Env → T SO} : kAllDS k S (.ex C fs e) = S (.ex C fs e) := ap_ rfl
theorem thAll_nx : thAll g S (.nx e) = (g e).All S := ap_ rfl
theorem thAll_rt : thAll g S (.rt r e) = S (.rt r e) := ap_ rfl
theorem thAll_bk : thAll g S (.bk e) = S (.bk e) := ap_ rfl
theorem thAll_ct : thAll g S (.ct e) = S (.ct e) := ap_ rfl
theorem thAll_ex : thAll g S (.ex C fs e) = S (.ex C fs e) := ap_ rfl
theorem turnAll_nx : turnAll vs S (.nx e) = S (.nx (wipeE e vs)) := ap_ rfl
theorem turnAll_ct : turnAll vs S (.ct e) = S (.nx (wipeE e vs)) := ap_ rfl
theorem turnAll_bk : turnAll vs S (.bk e) = S (.bk (wipeE e vs)) := ap_ rfl
theorem turnAll_rt : turnAll vs S (.rt r e) = S (.rt r e) := ap_ rfl
theorem turnAll_ex : turnAll vs S (.ex C fs e) = S (.ex C fs e) := ap_ rfl
theorem backAll_rt : backAll as e Q (.rt r us) = Q (.ok r (back e as us)) := ap_ rfl
theorem backAll_ex : backAll as e Q (.ex C fs us) = Q (.ex C fs (back e as us)) := ap_ rfl
theorem noExAll_ok : noExAll Q (.ok r e) = Q (.ok r e) := ap_ rfl
theorem finAll_nx : finAll us F (.nx e) = ∃ us', outsV us e = some us' ∧ F (.rt (.fz .non) us') := ap_ rfl
theorem finAll_rt : finAll us F (.rt r e) = ∃ us', outsV us e = some us' ∧ F (.rt r us') := ap_ rfl
theorem finAll_ex : finAll us F (.ex C fs e) = ∃ us', outsV us e = some us' ∧ F (.ex C fs us') := ap_ rfl
theorem tryAll_nx {mm : Str → Option Bool} {i : Nat} : tryAll mm i s S (.nx e) = S (.nx e) := ap_ rfl
theorem tryAll_rt {mm : Str → Option Bool} {i : Nat} : tryAll mm i s S (.rt r e) = S (.rt r e) := ap_ rfl
end
theorem exmT_hd {C : Str} {b : Bool} {l : List (Str × Bool)} : exmT ((C, b) :: l) C = some b := by
  unfold exmT
  rw [List.find?_cons, decide_eq_true rfl]
  rfl
theorem exmT_tl {C C' : Str} {b : Bool} {l : List (Str × Bool)} (h : C' ≠ C) : exmT ((C', b) :: l) C = exmT l C := by
  unfold exmT
  rw [List.find?_cons, decide_eq_false h]
theorem fnd_hd {f : Str} {d : D} {fs : List (Str × D)} : ((f, d) :: fs).find? (fun kv => decide (kv.1 = f)) = some (f, d) := by
  rw [List.find?_cons, decide_eq_true rfl]
theorem dget_f {kvs : List (Key × D)} {s : Str} {d : D} (h : dfind kvs (.inr s) = some d) : dgetD (.f (.dic kvs)) (.f (.str s)) = some (.f d) := by
  show (dfind kvs (.inr s)).map N.f = _
  rw [h]
  rfl
theorem nfind_od {kvs : List (Key × D)} {k : Key} : nfind (kvs.map fun kv => (kv.1, N.f kv.2)) k = (dfind kvs k).map N.f := by
  unfold nfind dfind
  induction kvs with
  | nil => rfl
  | cons kv kvs ih =>
    rw [List.map_cons, List.find?_cons, List.find?_cons]
    cases h : decide (kv.1 = k) with
    | true => rfl
    | false => exact ih
theorem dget_od {kvs : List (Key × D)} {s : Str} {d : D} {a : Addr} (h : dfind kvs (.inr s) = some d) : dgetD (od a kvs) (.f (.str s)) = some (.f d) := by
  show nfind (kvs.map fun kv => (kv.1, N.f kv.2)) (.inr s) = _
  rw [nfind_od, h]
  rfl
end Pu

namespace Ed
open PySem PySem.Spec PyProof.Rows L2
def topS (i : Nat) : Stmt := PySem.Challenge.pw_everydoor_k11_whole_orders_keep_orders.main.body.getD i (.Pass ⟨0, 0, 0, 0⟩)
abbrev s_Barred___init__ : Stmt := inClass (topS 2) 0
abbrev s_linearize : Stmt := topS 4
abbrev s_order_into : Stmt := topS 5
abbrev s_merged : Stmt := topS 6
abbrev s_first_free_head : Stmt := topS 7
abbrev s_distinct : Stmt := topS 8
abbrev s__law_source : Stmt := topS 10
abbrev s__law_draw : Stmt := topS 11
abbrev s__law_kept : Stmt := topS 12
abbrev s__law_ancestors : Stmt := topS 13
abbrev s__law_stuck : Stmt := topS 14
abbrev s__law_asked : Stmt := topS 15
abbrev s__law_right : Stmt := topS 16
abbrev s_law : Stmt := topS 17
abbrev n_Barred___init__ : List Str := ["self", "heads"]
theorem sc_Barred___init__ : SupScope n_Barred___init__ ["self", "heads"] (defScope s_Barred___init__) := ⟨rfl, rfl, rfl, by decide +kernel, rfl, by decide +kernel, by decide +kernel, by decide +kernel, rfl, rfl⟩
abbrev n_linearize : List Str := ["bases", "name", "done"]
theorem sc_linearize : FnScope n_linearize ["bases", "name"] (defScope s_linearize) := ⟨rfl, rfl, rfl, by decide +kernel, rfl, by decide +kernel, by decide +kernel⟩
abbrev n_order_into : List Str := ["bases", "name", "done", "base", "rows"]
theorem sc_order_into : FnScope n_order_into ["bases", "name", "done"] (defScope s_order_into) := ⟨rfl, rfl, rfl, by decide +kernel, rfl, by decide +kernel, by decide +kernel⟩
abbrev n_merged : List Str := ["rows", "result", "taken", "row"]
theorem sc_merged : FnScope n_merged ["rows"] (defScope s_merged) := ⟨rfl, rfl, rfl, by decide +kernel, rfl, by decide +kernel, by decide +kernel⟩
abbrev n_first_free_head : List Str := ["rows", "row", "other"]
theorem sc_first_free_head : FnScope n_first_free_head ["rows"] (defScope s_first_free_head) := ⟨rfl, rfl, rfl, by decide +kernel, rfl, by decide +kernel, by decide +kernel⟩
abbrev n_distinct : List Str := ["names", "result", "name"]
theorem sc_distinct : FnScope n_distinct ["names"] (defScope s_distinct) := ⟨rfl, rfl, rfl, by decide +kernel, rfl, by decide +kernel, by decide +kernel⟩
abbrev n__law_source : List Str := ["_law_script", "_law_greats", "_law_lessers", "_law_cell"]
theorem sc__law_source : FnScope n__law_source ["_law_script"] (defScope s__law_source) := ⟨rfl, rfl, rfl, by decide +kernel, rfl, by decide +kernel, by decide +kernel⟩
abbrev n__law_draw : List Str := ["_law_source_here", "_law_limit", "_law_greats", "_law_lessers", "_law_value", "_law_turn", "_law_primes", "_law_mixed"]
theorem sc__law_draw : FnScope n__law_draw ["_law_source_here", "_law_limit"] (defScope s__law_draw) := ⟨rfl, rfl, rfl, by decide +kernel, rfl, by decide +kernel, by decide +kernel⟩
abbrev n__law_kept : List Str := ["_law_part", "_law_whole", "_law_places", "_law_name"]
theorem sc__law_kept : FnScope n__law_kept ["_law_part", "_law_whole"] (defScope s__law_kept) := ⟨rfl, rfl, rfl, by decide +kernel, rfl, by decide +kernel, by decide +kernel⟩
abbrev n__law_ancestors : List Str := ["_law_bases", "_law_name", "_law_found", "_law_k", "_law_other", "_law_base"]
theorem sc__law_ancestors : FnScope n__law_ancestors ["_law_bases", "_law_name"] (defScope s__law_ancestors) := ⟨rfl, rfl, rfl, by decide +kernel, rfl, by decide +kernel, by decide +kernel⟩
abbrev n__law_stuck : List Str := ["_law_rows", "_law_names", "_law_row", "_law_name", "_law_k", "_law_free"]
theorem sc__law_stuck : FnScope n__law_stuck ["_law_rows"] (defScope s__law_stuck) := ⟨rfl, rfl, rfl, by decide +kernel, rfl, by decide +kernel, by decide +kernel⟩
abbrev n__law_asked : List Str := ["_law_bases", "_law_name", "_law_told", "e"]
theorem sc__law_asked : FnScope n__law_asked ["_law_bases", "_law_name"] (defScope s__law_asked) := ⟨rfl, rfl, rfl, by decide +kernel, rfl, by decide +kernel, by decide +kernel⟩
abbrev n__law_right : List Str := ["_law_bases", "_law_name", "_law_orders", "_law_told", "_law_rows", "_law_stuck_here", "_law_base", "_law_head", "_law_row"]
theorem sc__law_right : FnScope n__law_right ["_law_bases", "_law_name", "_law_orders"] (defScope s__law_right) := ⟨rfl, rfl, rfl, by decide +kernel, rfl, by decide +kernel, by decide +kernel⟩
abbrev n_law : List Str := ["_law_script", "_law_source_here", "_law_bases", "_law_k", "_law_rest", "_law_chosen", "_law_j", "_law_orders", "_law_name"]
theorem sc_law : FnScope n_law ["_law_script"] (defScope s_law) := ⟨rfl, rfl, rfl, by decide +kernel, rfl, by decide +kernel, by decide +kernel⟩
def d_linearize : He.DefD := ⟨("linearize", none), "linearize", "linearize", defArgs s_linearize, defBody s_linearize, defScope s_linearize, [], []⟩
def d_order_into : He.DefD := ⟨("order_into", none), "order_into", "order_into", defArgs s_order_into, defBody s_order_into, defScope s_order_into, [], []⟩
def d_merged : He.DefD := ⟨("merged", none), "merged", "merged", defArgs s_merged, defBody s_merged, defScope s_merged, [], []⟩
def d_first_free_head : He.DefD := ⟨("first_free_head", none), "first_free_head", "first_free_head", defArgs s_first_free_head, defBody s_first_free_head, defScope s_first_free_head, [], []⟩
def d_distinct : He.DefD := ⟨("distinct", none), "distinct", "distinct", defArgs s_distinct, defBody s_distinct, defScope s_distinct, [], []⟩
def d__law_source : He.DefD := ⟨("_law_source", none), "_law_source", "_law_source", defArgs s__law_source, defBody s__law_source, defScope s__law_source, [], []⟩
def d__law_draw : He.DefD := ⟨("_law_draw", none), "_law_draw", "_law_draw", defArgs s__law_draw, defBody s__law_draw, defScope s__law_draw, [], []⟩
def d__law_kept : He.DefD := ⟨("_law_kept", none), "_law_kept", "_law_kept", defArgs s__law_kept, defBody s__law_kept, defScope s__law_kept, [], []⟩
def d__law_ancestors : He.DefD := ⟨("_law_ancestors", none), "_law_ancestors", "_law_ancestors", defArgs s__law_ancestors, defBody s__law_ancestors, defScope s__law_ancestors, [], []⟩
def d__law_stuck : He.DefD := ⟨("_law_stuck", none), "_law_stuck", "_law_stuck", defArgs s__law_stuck, defBody s__law_stuck, defScope s__law_stuck, [], []⟩
def d__law_asked : He.DefD := ⟨("_law_asked", none), "_law_asked", "_law_asked", defArgs s__law_asked, defBody s__law_asked, defScope s__law_asked, [], []⟩
def d__law_right : He.DefD := ⟨("_law_right", none), "_law_right", "_law_right", defArgs s__law_right, defBody s__law_right, defScope s__law_right, [], []⟩
def d_law : He.DefD := ⟨("law", none), "law", "law", defArgs s_law, defBody s_law, defScope s_law, [], []⟩
def e_Barred : SupD := ⟨("Barred", some "__init__"), "__init__", "Barred.__init__", defArgs s_Barred___init__, defBody s_Barred___init__, defScope s_Barred___init__⟩
def su : List SupD := [e_Barred]
def fn : List He.DefD := [d_linearize, d_order_into, d_merged, d_first_free_head, d_distinct, d__law_source, d__law_draw, d__law_kept, d__law_ancestors, d__law_stuck, d__law_asked, d__law_right, d_law]
def fa : List He.Fa := [.glo "linearize", .glo "order_into", .glo "merged", .glo "first_free_head", .glo "distinct", .glo "_law_source", .glo "_law_draw", .glo "_law_kept", .glo "_law_ancestors", .glo "_law_stuck", .glo "_law_asked", .glo "_law_right", .glo "law", .free "any", .free "int", .free "len", .free "list", .free "range", .free "sorted", .free "str", .free "super", .glo "Barred", .noat "Barred" "heads", .exm "Barred" "Barred" true]
structure Tx (K : PySem.W.Frag) (mg : Str → Option Value) : Prop where
  g_linearize : mg "linearize" = some (.ref (He.ga K "linearize"))
  g_order_into : mg "order_into" = some (.ref (He.ga K "order_into"))
  g_merged : mg "merged" = some (.ref (He.ga K "merged"))
  g_first_free_head : mg "first_free_head" = some (.ref (He.ga K "first_free_head"))
  g_distinct : mg "distinct" = some (.ref (He.ga K "distinct"))
  g__law_source : mg "_law_source" = some (.ref (He.ga K "_law_source"))
  g__law_draw : mg "_law_draw" = some (.ref (He.ga K "_law_draw"))
  g__law_kept : mg "_law_kept" = some (.ref (He.ga K "_law_kept"))
  g__law_ancestors : mg "_law_ancestors" = some (.ref (He.ga K "_law_ancestors"))
  g__law_stuck : mg "_law_stuck" = some (.ref (He.ga K "_law_stuck"))
  g__law_asked : mg "_law_asked" = some (.ref (He.ga K "_law_asked"))
  g__law_right : mg "_law_right" = some (.ref (He.ga K "_law_right"))
  g_law : mg "law" = some (.ref (He.ga K "law"))
  z_any : mg "any" = none
  z_int : mg "int" = none
  z_len : mg "len" = none
  z_list : mg "list" = none
  z_range : mg "range" = none
  z_sorted : mg "sorted" = none
  z_str : mg "str" = none
  z_super : mg "super" = none
  g_Barred : mg "Barred" = some (.ref (He.ga K "Barred"))
  na_Barred_heads : NoAttr K (He.ga K "Barred") "heads"
  ex_Barred_Barred : PySem.W.exmOne K (.ref (He.ga K "Barred")) (.ref (He.ga K "Barred")) = some true
  S_Barred : SupC K (He.ga K "Barred") (He.ma K (He.ga K "Barred") "__init__") (PySem.Challenge.pw_everydoor_k11_whole_orders_keep_orders.main.file) e_Barred
  xf_Barred : XfC K (He.ga K "Barred")
  F_linearize : ∃ fd, FunD K d_linearize.name d_linearize.qual d_linearize.params d_linearize.body d_linearize.scope (d_linearize.dvs K) (d_linearize.kws K) (He.fAd K d_linearize.at_) fd
  F_order_into : ∃ fd, FunD K d_order_into.name d_order_into.qual d_order_into.params d_order_into.body d_order_into.scope (d_order_into.dvs K) (d_order_into.kws K) (He.fAd K d_order_into.at_) fd
  F_merged : ∃ fd, FunD K d_merged.name d_merged.qual d_merged.params d_merged.body d_merged.scope (d_merged.dvs K) (d_merged.kws K) (He.fAd K d_merged.at_) fd
  F_first_free_head : ∃ fd, FunD K d_first_free_head.name d_first_free_head.qual d_first_free_head.params d_first_free_head.body d_first_free_head.scope (d_first_free_head.dvs K) (d_first_free_head.kws K) (He.fAd K d_first_free_head.at_) fd
  F_distinct : ∃ fd, FunD K d_distinct.name d_distinct.qual d_distinct.params d_distinct.body d_distinct.scope (d_distinct.dvs K) (d_distinct.kws K) (He.fAd K d_distinct.at_) fd
  F__law_source : ∃ fd, FunD K d__law_source.name d__law_source.qual d__law_source.params d__law_source.body d__law_source.scope (d__law_source.dvs K) (d__law_source.kws K) (He.fAd K d__law_source.at_) fd
  F__law_draw : ∃ fd, FunD K d__law_draw.name d__law_draw.qual d__law_draw.params d__law_draw.body d__law_draw.scope (d__law_draw.dvs K) (d__law_draw.kws K) (He.fAd K d__law_draw.at_) fd
  F__law_kept : ∃ fd, FunD K d__law_kept.name d__law_kept.qual d__law_kept.params d__law_kept.body d__law_kept.scope (d__law_kept.dvs K) (d__law_kept.kws K) (He.fAd K d__law_kept.at_) fd
  F__law_ancestors : ∃ fd, FunD K d__law_ancestors.name d__law_ancestors.qual d__law_ancestors.params d__law_ancestors.body d__law_ancestors.scope (d__law_ancestors.dvs K) (d__law_ancestors.kws K) (He.fAd K d__law_ancestors.at_) fd
  F__law_stuck : ∃ fd, FunD K d__law_stuck.name d__law_stuck.qual d__law_stuck.params d__law_stuck.body d__law_stuck.scope (d__law_stuck.dvs K) (d__law_stuck.kws K) (He.fAd K d__law_stuck.at_) fd
  F__law_asked : ∃ fd, FunD K d__law_asked.name d__law_asked.qual d__law_asked.params d__law_asked.body d__law_asked.scope (d__law_asked.dvs K) (d__law_asked.kws K) (He.fAd K d__law_asked.at_) fd
  F__law_right : ∃ fd, FunD K d__law_right.name d__law_right.qual d__law_right.params d__law_right.body d__law_right.scope (d__law_right.dvs K) (d__law_right.kws K) (He.fAd K d__law_right.at_) fd
  F_law : ∃ fd, FunD K d_law.name d_law.qual d_law.params d_law.body d_law.scope (d_law.dvs K) (d_law.kws K) (He.fAd K d_law.at_) fd
def exB (K : PySem.W.Frag) : Bool := true && (supB K "Barred" (PySem.Challenge.pw_everydoor_k11_whole_orders_keep_orders.main.file)) && (xfB K (He.ga K "Barred"))
theorem tx_of {K : PySem.W.Frag} {mg : Str → Option Value} {h : Heap} (X : K.In h) (G : h.Ns mainGlobals mg) (c : He.SaysD fa fn K) {w : World} (cs : SaysY fa fn su exB w K) (e : exB K = true) : Tx K mg := by
  unfold exB at e
  simp only [Bool.and_eq_true] at e
  obtain ⟨⟨_, hx0⟩, hx1⟩ := e
  exact { g_linearize := He.glo_ok X G (c.fact 0 (f := .glo "linearize") rfl), g_order_into := He.glo_ok X G (c.fact 1 (f := .glo "order_into") rfl), g_merged := He.glo_ok X G (c.fact 2 (f := .glo "merged") rfl), g_first_free_head := He.glo_ok X G (c.fact 3 (f := .glo "first_free_head") rfl), g_distinct := He.glo_ok X G (c.fact 4 (f := .glo "distinct") rfl), g__law_source := He.glo_ok X G (c.fact 5 (f := .glo "_law_source") rfl), g__law_draw := He.glo_ok X G (c.fact 6 (f := .glo "_law_draw") rfl), g__law_kept := He.glo_ok X G (c.fact 7 (f := .glo "_law_kept") rfl), g__law_ancestors := He.glo_ok X G (c.fact 8 (f := .glo "_law_ancestors") rfl), g__law_stuck := He.glo_ok X G (c.fact 9 (f := .glo "_law_stuck") rfl), g__law_asked := He.glo_ok X G (c.fact 10 (f := .glo "_law_asked") rfl), g__law_right := He.glo_ok X G (c.fact 11 (f := .glo "_law_right") rfl), g_law := He.glo_ok X G (c.fact 12 (f := .glo "law") rfl), z_any := He.free_ok X G (c.fact 13 (f := .free "any") rfl), z_int := He.free_ok X G (c.fact 14 (f := .free "int") rfl), z_len := He.free_ok X G (c.fact 15 (f := .free "len") rfl), z_list := He.free_ok X G (c.fact 16 (f := .free "list") rfl), z_range := He.free_ok X G (c.fact 17 (f := .free "range") rfl), z_sorted := He.free_ok X G (c.fact 18 (f := .free "sorted") rfl), z_str := He.free_ok X G (c.fact 19 (f := .free "str") rfl), z_super := He.free_ok X G (c.fact 20 (f := .free "super") rfl), g_Barred := He.glo_ok X G (c.fact 21 (f := .glo "Barred") rfl), na_Barred_heads := He.noat_ok (c.fact 22 (f := .noat "Barred" "heads") rfl), ex_Barred_Barred := He.exm_ok (c.fact 23 (f := .exm "Barred" "Barred" true) rfl), F_linearize := c.def_ 0 (d := d_linearize) rfl, F_order_into := c.def_ 1 (d := d_order_into) rfl, F_merged := c.def_ 2 (d := d_merged) rfl, F_first_free_head := c.def_ 3 (d := d_first_free_head) rfl, F_distinct := c.def_ 4 (d := d_distinct) rfl, F__law_source := c.def_ 5 (d := d__law_source) rfl, F__law_draw := c.def_ 6 (d := d__law_draw) rfl, F__law_kept := c.def_ 7 (d := d__law_kept) rfl, F__law_ancestors := c.def_ 8 (d := d__law_ancestors) rfl, F__law_stuck := c.def_ 9 (d := d__law_stuck) rfl, F__law_asked := c.def_ 10 (d := d__law_asked) rfl, F__law_right := c.def_ 11 (d := d__law_right) rfl, F_law := c.def_ 12 (d := d_law) rfl, S_Barred := sup_of rfl (cs.def_ 0 (d := e_Barred) rfl) hx0, xf_Barred := xfB_ok hx1 }
abbrev R : PySem.W.OpenRow := PySem.W.OpenLaw.row PySem.Challenge.rw_everydoor_k11_whole_orders_keep_orders
abbrev hk : PySem.W.Hook := hookY 4 fa fn su exB
def ob (s : PySem.W.SharedT) : AlY := obsY 4 fa fn su exB (HandSHeadRun.getT s)
theorem ob_eq (s : PySem.W.SharedT) : ob s = hk.obs s.abs := obsY_eq (HandSHeadRun.getT_eq s)
def PF (P : Program) : Prop := (P.main.file == (PySem.Challenge.pw_everydoor_k11_whole_orders_keep_orders.main.file)) = true ∧ (P.main.scope.names.lookup ("super" : Str)).isSome = false
def loose : List Str := ["DoorError", "Barred", "linearize", "order_into", "merged", "first_free_head", "distinct", "_law_source", "_law_draw", "_law_kept", "_law_ancestors", "_law_stuck", "_law_asked", "_law_right"]
theorem run (w : World) : HandSHeadRun.RunEq R (PySem.W.view R.prog [17]) hk ob 3000 loose w := by
  intro os
  kernel_rfl
end Ed
namespace Ed
open PySem PySem.Spec PyProof.Rows L2
local macro_rules | `(tactic| walk_at "hp1") => `(tactic| first | exact (Own.fr (by assumption)) _ _ (by assumption) | exact Own.get (by assumption) 0 | exact Own.get (by assumption) 1 | exact Own.get (by assumption) 2 | exact Own.get (by assumption) 3 | exact Own.get (by assumption) 4 | exact Own.get (by assumption) 5 | exact Own.get (by assumption) 6 | exact Own.get (by assumption) 7 | exact Own.get (by assumption) 8 | exact Own.get (by assumption) 9)
local macro_rules | `(tactic| walk_at "same") => `(tactic| repeat (first | exact Same.refl _ | assumption | exact Own.fr (by assumption) | exact same_upd (by assumption) | refine Same.trans ?_ (Own.fr (by assumption)) | refine Same.trans ?_ (by assumption) | refine Same.trans ?_ (same_upd (by assumption))))
local macro_rules | `(tactic| walk_at "hp") => `(tactic| first | exact SqL.of ((Own.fr (by assumption)) _ _ (by assumption)) | exact SqT.of ((Own.fr (by assumption)) _ _ (by assumption)) | exact SqL.of ((Own.fr (by assumption)) _ _ upd_same) | exact SqT.of ((Own.fr (by assumption)) _ _ upd_same) | exact SqL.of (Own.get (by assumption) 0) | exact SqL.of (Own.get (by assumption) 1) | exact SqL.of (Own.get (by assumption) 2) | exact SqL.of (Own.get (by assumption) 3) | exact SqL.of (Own.get (by assumption) 4) | exact SqL.of (Own.get (by assumption) 5) | exact SqL.of (Own.get (by assumption) 6) | exact SqL.of (Own.get (by assumption) 7) | exact SqL.of (Own.get (by assumption) 8) | exact SqL.of (Own.get (by assumption) 9) | exact SqT.of (Own.get (by assumption) 0) | exact SqT.of (Own.get (by assumption) 1) | exact SqT.of (Own.get (by assumption) 2) | exact SqT.of (Own.get (by assumption) 3) | exact SqT.of (Own.get (by assumption) 4) | exact SqT.of (Own.get (by assumption) 5) | exact SqT.of (Own.get (by assumption) 6) | exact SqT.of (Own.get (by assumption) 7) | exact SqT.of (Own.get (by assumption) 8) | exact SqT.of (Own.get (by assumption) 9) | walk_at "hp1" | assumption | (apply Same.seq _ (by assumption); walk_at "same") | (apply Same.tup _ (by assumption); walk_at "same"))
local macro_rules | `(tactic| walk_at "lt") => `(tactic| first | omega | assumption | exact cdivW_of (by omega) (by omega) | exact Or.inr ⟨by omega, by omega⟩ | exact Or.inl ⟨by omega, by omega⟩ | exact ⟨by omega, by omega, by omega⟩)
local macro_rules | `(tactic| walk_at "r1") => `(tactic| first
  | with_reducible refine r_seq ?_ | with_reducible refine r_asg ?_ | with_reducible refine r_name ?_ | with_reducible refine r_op ?_ | with_reducible refine r_c ?_ | with_reducible refine r_cons ?_ | with_reducible refine r_nil ?_
  | ((with_reducible apply r_var); rfl) | with_reducible refine r_I0 ?_ | with_reducible refine r_test ?_ | with_reducible refine r_isbl ?_ | with_reducible refine r_cb ?_ | with_reducible refine r_int ?_ | with_reducible refine r_intB ?_
  | with_reducible refine r_if ?_ | with_reducible refine r_ifE ?_ | with_reducible refine r_and ?_ | with_reducible refine r_or ?_ | with_reducible refine r_not ?_ | with_reducible refine r_andV ?_ | with_reducible refine r_orV ?_ | with_reducible refine r_notV ?_ | with_reducible refine r_chain ?_
  | with_reducible refine r_drop ?_ | with_reducible refine r_ret ?_ | with_reducible refine r_retN ?_ | with_reducible refine r_next ?_ | with_reducible refine r_B ?_ | with_reducible refine r_sub ?_ | with_reducible refine r_gcons ?_ | with_reducible refine r_gnil ?_
  | with_reducible refine r_own ?_ | with_reducible refine r_bm ?_ | with_reducible refine r_bm0 ?_ | with_reducible refine r_sl ?_ | with_reducible refine r_nopart ?_ | with_reducible refine r_part ?_ | with_reducible refine r_isint ?_ | with_reducible refine r_tup ?_ | with_reducible refine r_lst ?_ | with_reducible refine r_U ?_ | with_reducible refine r_un ?_ | with_reducible refine r_min2 ?_
  | ((with_reducible refine r_eq ?_ ?_); rfl) | ((with_reducible refine r_ne ?_ ?_); rfl)
  | ((with_reducible refine r_I ?_ ?_); walk_at "lt")
  | ((with_reducible apply r_ixL); walk_at "hp"; rfl)
  | ((with_reducible apply r_ixT); walk_at "hp"; rfl)
  | ((with_reducible apply r_len); walk_at "hp")
  | ((with_reducible apply r_lenT); walk_at "hp")
  | ((with_reducible apply r_tyL); walk_at "hp")
  | with_reducible refine r_sfld ?_ | with_reducible refine r_tfld' ?_ | with_reducible refine r_make ?_ | with_reducible refine r_methR ?_ | with_reducible refine r_yes ?_
  | ((with_reducible apply r_getF); walk_at "hp1"; assumption; assumption; rfl)
  | ((with_reducible apply r_recv); walk_at "hp1"; rfl)
  | with_reducible refine r_rev ?_ | with_reducible refine r_isN ?_ | with_reducible refine r_notN ?_ | with_reducible refine r_ownW ?_ | with_reducible refine r_raise ?_ | with_reducible refine r_mkO ?_ | with_reducible refine r_tryAs ?_ | with_reducible refine r_ownK ?_ | with_reducible refine r_dnew ?_ | with_reducible refine r_dget ?_ | with_reducible refine r_din ?_ | with_reducible refine r_dnin ?_ | with_reducible refine r_dput ?_ | with_reducible refine r_jn ?_ | with_reducible refine r_js1 ?_ | with_reducible refine r_js0 ?_ | with_reducible refine r_fmt ?_ | with_reducible refine r_gcons ?_ | with_reducible refine r_gnil ?_
  | with_reducible refine r_m1 ?_ | with_reducible refine r_isS ?_ | with_reducible refine r_starts ?_ | with_reducible refine r_ends ?_
  | with_reducible refine r_for ?_ | with_reducible refine r_lc ?_ | with_reducible refine r_iList ?_ | with_reducible refine r_iTup ?_ | with_reducible refine r_iRng1 ?_ | with_reducible refine r_iRng2 ?_
  | ((with_reducible apply r_exL); walk_at "hp") | ((with_reducible apply r_exT); walk_at "hp") | ((with_reducible refine r_bnd ?_ ?_ ?_); omega; omega)
  | ((with_reducible refine r_wipe ?_ ?_); rfl)
  | with_reducible refine ⟨_, rfl, ?_⟩)
local macro_rules | `(tactic| walk_at "rd") => `(tactic| repeat (walk_at "r1"))
section
variable {P : Program} {w : World} {K : PySem.W.Frag} {mg : Str → Option Value} {base : Heap}
theorem ok__law_source (T : Tx K mg) (hP : PF P) : Ok1 P w K mg base "_law_source" 1 (spSource K) := by
  obtain ⟨fd, F⟩ := T.F__law_source

  refine ok1_of F T.g__law_source sc__law_source (fun vs H Q E h => sp1_len h) (fun _ _ _ _ _ _ us hl => match us, hl with | [_], _ => rfl) (fun cdv A outer s H vs Q E hr h => ?_)
  obtain ⟨v0, rfl, h⟩ := h
  refine ⟨_, (pss_cons (ps_setLc (i := 1) (own := [("_law_cell", 3)]) (g := (gName 3)) (by rfl) sc__law_source.nd rfl rfl (sw_true rfl rfl rfl (by decide +kernel)) (kPiL K (pe_slice (kSlL K) (pv 0) po_none (po_some pe_int))) (blkOk_by (own := [("_law_cell", 3)]) (N := n__law_source) (sc := defScope s__law_source) (by decide +kernel)) (fun _ _ _ _ _ => (pg_name (i := 3) sc__law_source.nd rfl (.inl rfl))) (fun _ _ _ _ _ => by exact (pts_one (pt_cmpR op_ge (pv 3) (pe_op op_pow pe_int pe_int) (nomark _)))) (fun _ _ _ _ _ => by exact (pe_callTy c_int1 (by rfl) T.z_int (by decide +kernel) (pa_cons (pv 3) pa_nil))))
      (pss_cons (ps_setLc (i := 2) (own := [("_law_cell", 3)]) (g := (gName 3)) (by rfl) sc__law_source.nd rfl rfl (sw_true rfl rfl rfl (by decide +kernel)) (kPiL K (pe_slice (kSlL K) (pv 0) po_none (po_some pe_int))) (blkOk_by (own := [("_law_cell", 3)]) (N := n__law_source) (sc := defScope s__law_source) (by decide +kernel)) (fun _ _ _ _ _ => (pg_name (i := 3) sc__law_source.nd rfl (.inl rfl))) (fun _ _ _ _ _ => by exact (pts_one (pt_cmpR op_lt (pv 3) (pe_op op_pow pe_int pe_int) (nomark _)))) (fun _ _ _ _ _ => by exact (pe_op op_mod (pe_callTy c_int1 (by rfl) T.z_int (by decide +kernel) (pa_cons (pv 3) pa_nil)) pe_int)))
      (pss_one (ps_ret (pe_lst (pa_cons (pv 1) (pa_cons (pv 2) (pa_cons pe_int (pa_cons pe_int pa_nil))))))))), ?_⟩
  try dsimp only [cxOf, Cx.nox, Cx.wish]

  obtain ⟨a, ns, F, M, rfl, hS, hl, o, k⟩ := h
  walk_at "rd"
  refine r_slL o (o.fr.seq hS) fun l1 H1 n1 o1 => ?_
  rw [cut_iL] at o1
  walk_at "rd"
  refine lcb (walk_list (xs := iL (cutL ns none (some 63)))) o1 (fun i acc F' M' => F' = F ∧ M' = (l1, .lst (iL (cutL ns none (some 63)))) :: M ∧ ∃ g, acc = iL g ∧ g.length ≤ i) ⟨rfl, rfl, [], rfl, Nat.zero_le _⟩ ?_ ?_ ?_
  · rintro D i acc F' M' H' _ ⟨rfl, rfl, _⟩ o'
    exact SqL.of (o'.get 1)
  · rintro D i x acc F' M' H' H'' hi ⟨rfl, rfl, g, rfl, hg⟩ o' ⟨rfl, hx⟩
    obtain ⟨n, hn, rfl⟩ := iL_get hx
    have hc := cutL_len ns none (some 63)
    rw [len_iL] at hi
    walk_at "rd"
    refine ite2 (fun hc => ?_) (fun hc => ?_)
    · walk_at "rd"
      exact lcN ⟨_, _, _, small1000 (by rw [len_iL]; omega), ⟨rfl, rfl, g ++ [n], iL_app _ _, by rw [List.length_append]; exact Nat.succ_le_succ hg⟩, o'⟩
    · exact ⟨_, _, _, ⟨rfl, rfl, g, rfl, by omega⟩, o'⟩
  rintro D acc F' M' H' nD ⟨rfl, rfl, g, rfl, hg⟩ o2
  have o2 : Own F' ((D, HO.lst (iL g)) :: M) H' := o2.sub (.cons_cons _ (.cons _ (.refl _)))
  walk_at "rd"
  refine r_slL o2 (o2.fr.seq hS) fun l2 H2 n2 o3 => ?_
  rw [cut_iL] at o3
  walk_at "rd"
  refine lcb (walk_list (xs := iL (cutL ns none (some 63)))) o3 (fun i acc F' M' => F' = _ ∧ M' = (l2, .lst (iL (cutL ns none (some 63)))) :: (D, HO.lst (iL g)) :: M ∧ ∃ l, acc = iL l ∧ l.length ≤ i) ⟨rfl, rfl, [], rfl, Nat.zero_le _⟩ ?_ ?_ ?_
  · rintro D i acc F' M' H' _ ⟨rfl, rfl, _⟩ o'
    exact SqL.of (o'.get 1)
  · rintro D i x acc F' M' H' H'' hi ⟨rfl, rfl, g, rfl, hg⟩ o' ⟨rfl, hx⟩
    obtain ⟨n, hn, rfl⟩ := iL_get hx
    have hc := cutL_len ns none (some 63)
    rw [len_iL] at hi
    walk_at "rd"
    refine ite2 (fun hc => ?_) (fun hc => ?_)
    · walk_at "rd"
      exact lcN ⟨_, _, _, small1000 (by rw [len_iL]; omega), ⟨rfl, rfl, g ++ [n % 2147483647], iL_app _ _, by rw [List.length_append]; exact Nat.succ_le_succ hg⟩, o'⟩
    · exact ⟨_, _, _, ⟨rfl, rfl, g, rfl, by omega⟩, o'⟩
  rintro E acc F' M' H' nE ⟨rfl, rfl, l, rfl, hl⟩ o4
  have o4 : Own F' [(E, HO.lst (iL l)), (D, HO.lst (iL g))] H' ∧ Own F' ((E, HO.lst (iL l)) :: (D, HO.lst (iL g)) :: M) H' := ⟨o4.sub (.cons_cons _ (.cons _ (.cons_cons _ (List.nil_sublist _)))), o4.sub (.cons_cons _ (.cons _ (.refl _)))⟩
  walk_at "rd"
  refine newL o4.2 fun p H3 _ o5 => ?_
  exact k p [(p, _), (D, _), (E, _)] H3 ⟨D, E, g, l, 0, 0, rfl⟩ (o5.perm (.cons _ (.swap _ _ _)))

theorem ok__law_draw (T : Tx K mg) (hP : PF P) : Ok1 P w K mg base "_law_draw" 1 (spDraw) := by
  obtain ⟨fd, F⟩ := T.F__law_draw

  refine ok1_of F T.g__law_draw sc__law_draw (fun vs H Q E h => sp2_len h) (fun _ _ _ _ _ _ us hl => match us, hl with | [_, _], _ => rfl) (fun cdv A outer s H vs Q E hr h => ?_)
  obtain ⟨v0, v1, rfl, h⟩ := h
  refine ⟨_, (pss_cons (ps_set (i := 2) sc__law_draw.nd rfl (.inl rfl) (pe_ix (kIxL K) (pv 0) pe_int (fun _ _ => rfl)))
      (pss_cons (ps_set (i := 3) sc__law_draw.nd rfl (.inl rfl) (pe_ix (kIxL K) (pv 0) pe_int (fun _ _ => rfl)))
      (pss_cut (ps_if (PW.pt (pw_and (pt_cmpR op_eq (pe_ix (kIxL K) (pv 0) pe_int (fun _ _ => rfl)) pe_int (nomark _)) (pw_and1 (pt_cmpR (kNeD K hr.units) (pv 2) (pe_lst pa_nil) (nomark _))))) (pss_one (ps_asg (pe_bm PySem.F.plainAttrs_list PySem.F.slot_list_pop PySem.F.type_list_pop mt_popAt (pv 2) (pa_cons pe_int pa_nil)) (pg_sub (pv 0) pe_int set_list))) pss_nil)
      (pss_cons (ps_set (i := 4) sc__law_draw.nd rfl (.inl rfl) (pe_op op_mod (pe_callTy c_int1 (by rfl) T.z_int (by decide +kernel) (pa_cons (pe_ix (kIxL K) (pv 0) pe_int (fun _ _ => rfl)) pa_nil)) (pv 1)))
      (pss_cons (ps_asg (pe_op op_fdivW (pe_callTy c_int1 (by rfl) T.z_int (by decide +kernel) (pa_cons (pe_ix (kIxL K) (pv 0) pe_int (fun _ _ => rfl)) pa_nil)) (pv 1)) (pg_sub (pv 0) pe_int set_list))
      (pss_cons (ps_set (i := 5) sc__law_draw.nd rfl (.inl rfl) (pe_ix (kIxL K) (pv 0) pe_int (fun _ _ => rfl)))
      (pss_cons (ps_asg (pe_op op_add (pv 5) pe_int) (pg_sub (pv 0) pe_int set_list))
      (pss_cut (ps_if (pt_cmpR (kNeD K hr.units) (pv 3) (pe_lst pa_nil) (nomark _)) (pss_cons (ps_set (i := 6) sc__law_draw.nd rfl (.inl rfl) (pe_lst (pa_cons pe_int (pa_cons pe_int (pa_cons pe_int (pa_cons pe_int (pa_cons pe_int (pa_cons pe_int (pa_cons pe_int (pa_cons pe_int pa_nil))))))))))
      (pss_cons (ps_set (i := 7) sc__law_draw.nd rfl (.inl rfl) (pe_op op_mod (pe_callTy c_int1 (by rfl) T.z_int (by decide +kernel) (pa_cons (pe_op op_add (pe_op op_mul (pe_ix (kIxL K) (pv 3) (pe_op op_mod (pv 5) (pe_callB (kLen K) (by rfl) T.z_len (by decide +kernel) (pa_cons (pv 3) pa_nil))) (fun _ _ => rfl)) (pe_ix (kIxL K) (pv 6) (pe_op op_mod (pv 5) pe_int) (fun _ _ => rfl))) (pe_op op_mul (pe_op op_add (pv 5) pe_int) pe_int)) pa_nil)) pe_int))
      (pss_one (ps_set (i := 4) sc__law_draw.nd rfl (.inl rfl) (pe_op op_add (pv 4) (pe_op op_mod (pe_callTy c_int1 (by rfl) T.z_int (by decide +kernel) (pa_cons (pe_op op_add (pe_op op_mul (pv 7) (pv 7)) (pv 5)) pa_nil)) pe_int)))))) pss_nil)
      (pss_one (ps_ret (pe_op op_mod (pv 4) (pv 1)))))))))))), ?_⟩
  try dsimp only [cxOf, Cx.nox, Cx.wish]

  obtain ⟨a, m, F, S, M, rfl, rfl, h0, h1, hs, o, k⟩ := h
  obtain ⟨ag, al, g, l, c, t, rfl⟩ := hs
  walk_at "rd"
  -- if the rest is used up, the next great number
  refine r_cut (fun σ' H' => ∃ (g : List Int) (c : Int), σ' = [some (.ref a), some (.int m), some (.ref ag), some (.ref al), none, none, none, none] ∧ Own F ([(a, HO.lst [V.ref ag, V.ref al, V.int c, V.int t]), (ag, HO.lst (iL g)), (al, HO.lst (iL l))] ++ M) H') ?_ ?_
  · walk_at "rd"
    refine ite2 (fun hc => ?_) (fun hc => ?_)
    · walk_at "rd"
      refine newL o fun p H1 _ o1 => ?_
      refine r_neD (.lst (SqL.of (o1.get 2)) (dpAll_iL g)) (.lst (SqL.of (o1.get 0)) .nil) (shp_iL g).shaped (shp_iL []).shaped ?_
      rw [eqv_iL_nil]
      walk_at "rd"
      cases g with
      | nil => exact iteF ⟨[], c, rfl, o1.tail⟩
      | cons n g =>
        refine iteT ?_
        walk_at "rd"
        refine r_popAt o1.tail 1 rfl (by decide) (by decide) (j := 0) (six rfl (by rw [len_iL]; simp)) rfl fun H2 o2 => ?_
        walk_at "rd"
        refine r_setL o2 0 rfl (j := 2) rfl fun H3 o3 => ?_
        exact ⟨g, n, rfl, o3⟩
    · refine iteF ?_
      walk_at "rd"
      exact ⟨g, c, rfl, o⟩
  · rintro σ' H1 ⟨g, c, rfl, o⟩
    walk_at "rd"
    refine r_setL o 0 rfl (j := 2) rfl fun H2 o => ?_
    walk_at "rd"
    refine r_setL o 0 rfl (j := 3) rfl fun H3 o => ?_
    refine r_cut (fun σ' H' => ∃ (z : Int) (y5 y6 y7 : Option V), σ' = [some (.ref a), some (.int m), some (.ref ag), some (.ref al), some (.int z), y5, y6, y7] ∧ Own F ([(a, HO.lst [V.ref ag, V.ref al, V.int (c / m), V.int (t + 1)]), (ag, HO.lst (iL g)), (al, HO.lst (iL l))] ++ M) H') ?_ ?_
    · walk_at "rd"
      refine newL o fun p H1 _ o1 => ?_
      refine r_neD (.lst (SqL.of (o1.get 3)) (dpAll_iL l)) (.lst (SqL.of (o1.get 0)) .nil) (shp_iL l).shaped (shp_iL []).shaped ?_
      rw [eqv_iL_nil]
      walk_at "rd"
      cases l with
      | nil => exact iteF ⟨_, _, _, _, rfl, o1.tail⟩
      | cons n l =>
        refine iteT ?_
        walk_at "rd"
        refine newL o1.tail fun p H2 _ o2 => ?_
        walk_at "rd"
        have hn : (0 : Int) < ((iL (n :: l)).length : Int) := by rw [len_iL, List.length_cons]; omega
        refine r_I hn ?_
        have e0 := Int.emod_nonneg t (show ((iL (n :: l)).length : Int) ≠ 0 by omega)
        have e1 := Int.emod_lt_of_pos t hn
        have hj : (t % ((iL (n :: l)).length : Int)).toNat < (n :: l).length := by rw [len_iL] at e0 e1 ⊢; omega
        refine r_ixL (SqL.of (o2.get 3)) (at_of (Int.toNat_of_nonneg e0).symm (get_iL hj)) ?_
        walk_at "rd"
        have e2 := Int.emod_nonneg t (show (8 : Int) ≠ 0 by decide)
        have e3 := Int.emod_lt_of_pos t (show (0 : Int) < 8 by decide)
        obtain ⟨q, hq, hq1, hq2⟩ : ∃ q : Int, atI [V.int 48271, V.int 69621, V.int 16807, V.int 39373, V.int 62089, V.int 40692, V.int 52774, V.int 31743] (t % 8) = some (.int q) ∧ 0 ≤ q ∧ q < 100000 := by
          have h8 : t % 8 = 0 ∨ t % 8 = 1 ∨ t % 8 = 2 ∨ t % 8 = 3 ∨ t % 8 = 4 ∨ t % 8 = 5 ∨ t % 8 = 6 ∨ t % 8 = 7 := by omega
          rcases h8 with h | h | h | h | h | h | h | h <;> rw [h] <;> exact ⟨_, rfl, by decide, by decide⟩
        refine r_ixL (SqL.of (o2.get 0)) hq ?_
        walk_at "rd"
        generalize hz : (n :: l)[(t % ((iL (n :: l)).length : Int)).toNat] * q + (t + 1) * 104729 = z
        have z0 := Int.emod_nonneg z (show (2147483647 : Int) ≠ 0 by decide)
        have z1 := Int.emod_lt_of_pos z (show (0 : Int) < 2147483647 by decide)
        walk_at "rd"
        exact ⟨_, _, _, _, rfl, o2.tail⟩
    · rintro σ' H1 ⟨z, y5, y6, y7, rfl, o⟩
      walk_at "rd"
      exact k _ _ _ (Int.emod_nonneg _ (by omega)) (Int.emod_lt_of_pos _ h0) ⟨ag, al, g, l, _, _, rfl⟩ o

theorem ok_Barred___init__ (T : Tx K mg) (hP : PF P) : FnR P w K mg base CX0 1 (He.ma K (He.ga K "Barred") "__init__") (spErrL K (He.ga K "Barred") "heads") := by
  refine fn_sup (N := n_Barred___init__) (ps := ["self", "heads"]) T.S_Barred rfl sc_Barred___init__ rfl rfl (by decide +kernel) hP.1 hP.2 T.z_super ?_ (fun _ _ _ _ _ _ _ _ us hl => BindsTo.of_eq (match us, hl with | [_, _], _ => rfl)) (fun cdv cc A outer s H vs Q E hr h => ?_)
  · rintro vs H Q E ⟨a, l, xs, rfl, _⟩
    rfl
  obtain ⟨a, l, xs, rfl, hl, ha, k⟩ := h
  refine ⟨_, _, a, _, pe_str, (pss_one (ps_ost (pv 0) (pe_callTy (kListOf K) (by rfl) T.z_list (by decide +kernel) (pa_cons (pv 1) pa_nil)))), rfl, ha, ?_⟩
  try dsimp only [cxS]
  refine ⟨rfl, ha, ?_⟩
  show tCB (rListOf K) (tCons (tVar 1) tNil) _ _ _
  refine r_cb (r_cons (r_var rfl (r_nil ?_)))
  refine ⟨l, xs, rfl, .inl hl, fun q hq => ?_⟩
  refine r_var rfl ?_
  exact ⟨a, _, rfl, T.S_Barred.oex, T.na_Barred_heads, .inl ⟨by rw [upd_ne (ne_of_none ha hq)]; exact ha, fun dx h1 h2 => k q hq dx h1 h2⟩⟩

end
end Ed
namespace Pu
open PySem PySem.Spec PyProof.Rows L2 Ed
local macro_rules | `(tactic| walk_at "v") => `(tactic| simp (config := {decide := false}) only [turnW_nx, turnW_ct, turnW_bk, turnW_rt, turnW_ex, turnW_draw, all_done, bind_done, bind_draw, oT_some, bO_ok, bO_ex, bO_draw, bS_ok, bS_ex, bS_draw, bN_ok, bN_draw, vD_fz, vD_ow, vD_ex, vD_draw, vDS_fz, vDS_ow, vDS_ex, vDS_draw, vSeq_ap, thS_nx, thS_rt, thS_bk, thS_ct, thS_ex, thS_draw, vNil_ap, vSet_ap, kSet_ap, vDrop_ap, kDrop_ap, vRet_ap, kRet_ap, vRetN_ap, vBrk_ap, vCont_ap, vIf_ap, kIf_t, kIf_f, vFz_ap, vWp_ap, wipe_nil, wipe_cons, fz_ap, fzO_fz, fzO_ow, fzO_non, vForW_ap, vWhileW_ap, vAsg_ap, kAsg_ap, vDput_ap, kDput_ap, kDput2_ap, vSetI_ap, kSetI_ap, kSetI2_ap, vAug_ap, augO_int, vRaise_ap, kRaise2_ap, vTry_ap, tryS_nx, tryS_rt, tryS_ex, finT_nx, finT_rt, noXc_nil, noXc_non, noXc_fz, noXc_ow, noXc_cu, vxP_ap, vxN_ap, pO_f, nO_l, nO_d, vO_f, vxOp_ap, kOp_ap, kOp2_ap, vxUn_ap, kUn_ap, vxOpV_ap, kOpV_ap, vxApp_ap, kApp_ap, vxPopA_ap, kPopA_ap, vxPop_ap, vxDnew_ap, vxRd_ap, rdO_ow, rdO_fz, vxCat_ap, kCat_ap, kCat2_ap, lstOf_l, tupOf_t, strOf_s, enumOf_l, callO_ap, callG_drawT, noEx_ok, noEx_draw, vxCall_ap, vxCall0_ap, kCall_ap, kCall0_ap, vaNil_ap, vaV_ap, kArgV_ap, kArg_ap, vaB_ap, argB_s, vxTup_ap, vxLst_ap, vxArgs_ap, kTup_ap, kLst_ap, kArgs_ap, vals_nil, vals_v, slots_nil, slots_v, slots_b, slB_s, back_nil, back_v, back_b, ndA_nil, ndA_v, ndA_b, inA_nil, inA_v, inA_b, noXs_fz, noXs_ow, noXs_cu, noXs_src, vtP_ap, vtX_ap, kTX_ap, vtXb_ap, kTXb_ap, vtAndX_ap, vtOrX_ap, vtNotX_ap, kAnd_ap, kOr_ap, kNot_ap, vtYesX_ap, kI_ap, viL1_ap, viT1_ap, viR1_ap, viE1_ap, viS1_ap, viR2_ap, viDn_ap, kI2_ap, kI2b_ap, vxLc_ap, kLc_ap, kLcE_ap, res_nil, res_cons, keep_ap, keepO_fz, keepO_non, keepO_ow, node_ap, gVar_ap, nodeO_fz, nodeO_ow, gC_ap, gOp_ap, opN_s, gUn_ap, unN_s, gArgs_ap, argN_s, gAll_nil, gAll_cons, consN_s, bV_ap, bVN_b, bT_ap, bTN_s, bAnd_ap, bOr_ap, bAndN_t, bAndN_f, bOrN_t, bOrN_f, bNot_ap, bYes_ap, gAnd_ap, gOr_ap, gAndN_t, gAndN_f, gOrN_t, gOrN_f, gNot_ap, notN_b, gIf_ap, gIfN_t, gIfN_f, gFz_ap, fzN_f, gSl_ap, slN_s, goN_ap, goS_ap, goSN_i, gXv_ap, xvO_x, giL_ap, giE_ap, giT_ap, tupN_t, giR_ap, giS_ap, strN_s, bind_some', kids_f, kids_ol, gLc_ap, lcN_s, stN_ap, stT_ap, stCons_ap, stNil_ap, runF_ap, finF_nx, finF_rt, finF_ex, okPs_nil, okPs_fz, okPs_l, okPs_d, okPs_o, okPs_ol, okPs_od, okPs_cu, okPs_src, outsV_nil, outsV_f, outsV_oo, outsV_cc, outsV_src, env0_ap, ol_toD, od_toD, setOl, setOd, List.getElem?_cons_succ, List.getElem?_cons_zero, List.set_cons_succ, List.set_cons_zero, List.length_cons, List.length_nil, List.map_cons, List.map_nil, List.cons_append, List.nil_append, List.replicate_succ, List.replicate_zero, List.all_cons, List.all_nil, Nat.reduceAdd, Nat.reduceSub, Nat.reduceLT, Nat.reduceLeDiff, Nat.reduceEqDiff, Nat.zero_add, Option.map_some, Option.map_none, Option.isSome_some, Option.isSome_none, if_true, if_false, reduceIte, reduceCtorEq, Bool.and_true, Bool.true_and, Bool.not_false, decide_true, decide_false, Bool.not_true, and_self, and_true, true_and, Nat.reduceBEq, Bool.or_false, Bool.false_or, lf_eqs, lf_nes, lf_eqi, lf_nei, lf_eqb, lf_neb, lf_len, Bool.false_eq_true, List.contains_nil, List.contains_cons, Int.reduceLT, Int.reduceLE, Int.toNat, Nat.lt_irrefl, mkL0, mkL1, mkL2, mkL3, mkL4, mkT0, mkT1, mkT2, mkT3, mkT4, mkT5, mkT6, mkT7, lstOf_dN, kids_dN', in_dN, nin_dN, in_lN, nin_lN, in_olN, nin_olN, in_bools, nin_bools, lt_i, le_i, gt_i, ge_i, add_i, sub_i, neg_i, isN_non, isN_str, isN_int, isN_tup, isN_lst, notN_non, notN_str, notN_tup, len_l, len_t, len_d, len_dN, len_olv, len_odv, tru_b, tru_l, tru_t, tru_n, ix_t0, ix_t1, ix_t2, ix_t3, ix_t4, ix_t6, ix_l0, ix_N0, isOl_ap, isOlO_ol, isOd_ap, isOdO_od, key_s, key_i, nat_i, int_i, kBack_rt, kBack_ex, turnP_nx, turnP_bk, turnP_rt, turnP_ex, exmT_hd, fnd_hd, kAll_ok, kAll_ex, kAllS_ok, kAllS_ex, kAllD_fz, kAllD_ow, kAllD_ex, kAllDS_fz, kAllDS_ow, kAllDS_ex, thAll_nx, thAll_rt, thAll_bk, thAll_ct, thAll_ex, turnAll_nx, turnAll_ct, turnAll_bk, turnAll_rt, turnAll_ex, backAll_rt, backAll_ex, noExAll_ok, finAll_nx, finAll_rt, finAll_ex, tryAll_nx, tryAll_rt, Option.some.injEq, exists_eq_left', any_bools, all_bools, sl_from1, sl_to1, kWhile_t, kWhile_f, kWh_nx, kWh_ct, kWh_bk, kWh_rt, kWh_ex])
section
variable {P : Program} {w : World} {K : PySem.W.Frag} {mg : Str → Option Value} {base : Heap}
def vb_distinct_0 : VS := (vIf (vtP (bV (gOp (fOp ninD) (gVar 2) (gVar 1)))) (vDrop (vxApp 1 (vxP (gVar 2)))) vNil)
def v_distinct : VS := (vSeq (vSet 1 (vxN (gArgs mkL []))) (vSeq (vForW [2] (viL1 (vxP (gVar 0))) (stN 2) vb_distinct_0) (vWp [2] (vRet (vxRd 1)))))
@[irreducible] def V_distinct : VF := runF [] 1 3 v_distinct
theorem V_distinct_s : V_distinct = runF [] 1 3 v_distinct := by
  unfold V_distinct
  rfl
abbrev f_distinct : FSt := (sSeq (sSet 1 (xN (gArgs mkL [])))
  (sSeq (sForW [2] (iL1 (xP (gVar 0))) (stN 2)
  (sIf (tP (bV (gOp (fOp ninD) (gVar 2) (gVar 1)))) (sDrop (xApp 1 (xP (gVar 2)))) sNil))
  (sWp [2] (sRet (xRd 1)))))
theorem sim_distinct : SimFn f_distinct [] [] 1 v_distinct := ⟨_, _, fun XI => inferInstance, by decide, by decide⟩
def vb_first_free_head_0 : VS := (vIf (vtP (bNot (bV (gArgs (fA1 anyD) [(gFz (gLc (giL (gVar 0)) [2] (stN 2) bYes (gOp (fOp inD) (gOp ixD (gVar 1) (gC (.int 0))) (gFz (gSl slL (gVar 2) (goS (gC (.int 1))) goN)))))])))) (vRet (vxP (gOp ixD (gVar 1) (gC (.int 0))))) vNil)
def v_first_free_head : VS := (vSeq (vForW [1, 2] (viL1 (vxP (gVar 0))) (stN 1) vb_first_free_head_0) (vWp [0, 1, 2] (vRet (vxP (gC .non)))))
@[irreducible] def V_first_free_head : VF := runF [] 1 3 v_first_free_head
theorem V_first_free_head_s : V_first_free_head = runF [] 1 3 v_first_free_head := by
  unfold V_first_free_head
  rfl
abbrev f_first_free_head : FSt := (sSeq (sForW [1, 2] (iL1 (xP (gVar 0))) (stN 1)
  (sIf (tP (bNot (bV (gArgs (fA1 anyD) [(gFz (gLc (giL (gVar 0)) [2] (stN 2) bYes (gOp (fOp inD) (gOp ixD (gVar 1) (gC (.int 0))) (gFz (gSl slL (gVar 2) (goS (gC (.int 1))) goN)))))])))) (sRet (xP (gOp ixD (gVar 1) (gC (.int 0))))) sNil))
  (sWp [0, 1, 2] (sRet (xP (gC .non)))))
theorem sim_first_free_head : SimFn f_first_free_head [] [] 1 v_first_free_head := ⟨_, _, fun XI => inferInstance, by decide, by decide⟩
def vt_merged_0 : VT := (vtP (bV (gOp (fOp gtD) (gArgs (fA1 lenD) [(gVar 0)]) (gC (.int 0)))))
def vb_merged_0 : VS := (vFz 0 (vSeq (vSet 2 (vxCall0 1 V_first_free_head (vaV (vxP (gVar 0)) vaNil))) (vSeq (vIf (vtP (bV (gOp (fOp isND) (gVar 2) (gC .non)))) (vRaise "Barred" okL (nmL "heads") (vaV (vxCall0 1 V_distinct (vaV (vxN (gLc (giL (gVar 0)) [3] (stN 3) bYes (gOp ixD (gVar 3) (gC (.int 0))))) vaNil)) vaNil)) vNil) (vWp [3] (vSeq (vDrop (vxApp 1 (vxP (gVar 2)))) (vSeq (vSet 0 (vxN (gLc (giL (gVar 0)) [3] (stN 3) bYes (gIf (bV (gOp (fOp eqD) (gOp ixD (gVar 3) (gC (.int 0))) (gVar 2))) (gFz (gSl slL (gVar 3) (goS (gC (.int 1))) goN)) (gVar 3))))) (vWp [2, 3] (vSet 0 (vxN (gLc (giL (gVar 0)) [3] (stN 3) (bV (gOp (fOp gtD) (gArgs (fA1 lenD) [(gVar 3)]) (gC (.int 0)))) (gVar 3)))))))))))
def v_merged : VS := (vSeq (vSet 1 (vxN (gArgs mkL []))) (vSeq (vSet 0 (vxN (gLc (giL (gVar 0)) [3] (stN 3) (bV (gOp (fOp gtD) (gArgs (fA1 lenD) [(gVar 3)]) (gC (.int 0)))) (gVar 3)))) (vWp [3] (vSeq (vWhileW 1000 [2, 3] vt_merged_0 vb_merged_0) (vWp [0, 2, 3] (vRet (vxRd 1)))))))
@[irreducible] def V_merged : VF := runF [0] 1 4 v_merged
theorem V_merged_s : V_merged = runF [0] 1 4 v_merged := by
  unfold V_merged
  rfl
abbrev f_merged : FSt := (sSeq (sSet 1 (xN (gArgs mkL [])))
  (sSeq (sSet 0 (xN (gLc (giL (gVar 0)) [3] (stN 3) (bV (gOp (fOp gtD) (gArgs (fA1 lenD) [(gVar 3)]) (gC (.int 0)))) (gVar 3))))
  (sWp [3] (sSeq (sWhileW 1000 [2, 3] (tP (bV (gOp (fOp gtD) (gArgs (fA1 lenD) [(gVar 0)]) (gC (.int 0)))))
  (sFz 0 (sSeq (sSet 2 (xCall0 1 (CV0 [] V_first_free_head) (aV (xP (gVar 0)) aNil)))
  (sSeq (sIf (tP (bV (gOp (fOp isND) (gVar 2) (gC .non)))) (sRaise "Barred" (fun ds => okL ds = true) (nmL "heads") (aV (xCall0 1 (CV0 [] V_distinct) (aV (xN (gLc (giL (gVar 0)) [3] (stN 3) bYes (gOp ixD (gVar 3) (gC (.int 0))))) aNil)) aNil)) sNil)
  (sWp [3] (sSeq (sDrop (xApp 1 (xP (gVar 2))))
  (sSeq (sSet 0 (xN (gLc (giL (gVar 0)) [3] (stN 3) bYes (gIf (bV (gOp (fOp eqD) (gOp ixD (gVar 3) (gC (.int 0))) (gVar 2))) (gFz (gSl slL (gVar 3) (goS (gC (.int 1))) goN)) (gVar 3)))))
  (sWp [2, 3] (sSet 0 (xN (gLc (giL (gVar 0)) [3] (stN 3) (bV (gOp (fOp gtD) (gArgs (fA1 lenD) [(gVar 3)]) (gC (.int 0)))) (gVar 3))))))))))))
  (sWp [0, 2, 3] (sRet (xRd 1)))))))
theorem sim_merged : SimFn f_merged [0] [0] 1 v_merged := ⟨_, _, fun XI => inferInstance, by decide, by decide⟩
def vb_order_into_0 (R : VF) : VS := (vDrop (vxCall 3 R (vaV (vxP (gVar 0)) (vaV (vxP (gVar 3)) (vaB 2 vaNil)))))
def v_order_into (R : VF) : VS := (vSeq (vIf (vtP (bV (gOp (fOp dinD) (gVar 1) (gVar 2)))) vRetN vNil) (vSeq (vForW [3] (viL1 (vxP (gOp dgetD (gVar 0) (gVar 1)))) (stN 3) (vb_order_into_0 R)) (vWp [3] (vSeq (vSet 4 (vxN (gLc (giL (gOp dgetD (gVar 0) (gVar 1))) [3] (stN 3) bYes (gFz (gArgs glist [(gOp dgetD (gVar 2) (gVar 3))]))))) (vWp [3] (vSeq (vDrop (vxApp 4 (vxN (gArgs glist [(gOp dgetD (gVar 0) (gVar 1))])))) (vWp [0] (vFz 4 (vDput 2 (vxP (gVar 1)) (vxCat (vxN (gArgs mkL [(gVar 1)])) (vxCall 1 V_merged (vaV (vxP (gVar 4)) vaNil))))))))))))
def Vr_order_into : Nat → VF
  | 0 => fun _ => .bad
  | n + 1 => runF [] 3 5 (v_order_into (Vr_order_into n))
@[irreducible] def V_order_into (n : Nat) : VF := Vr_order_into n
theorem V_order_into_z : V_order_into 0 = fun _ => .bad := by
  unfold V_order_into
  rfl
theorem V_order_into_s (n : Nat) : V_order_into (n + 1) = runF [] 3 5 (v_order_into (V_order_into n)) := by
  unfold V_order_into
  rfl
abbrev f_order_into (n : Nat) : FSt := (sSeq (sIf (tP (bV (gOp (fOp dinD) (gVar 1) (gVar 2)))) sRetN sNil)
  (sSeq (sForW [3] (iL1 (xP (gOp dgetD (gVar 0) (gVar 1)))) (stN 3)
  (sDrop (xCall 3 (CV [2] (V_order_into n)) (aV (xP (gVar 0)) (aV (xP (gVar 3)) (aB 2 aNil))))))
  (sWp [3] (sSeq (sSet 4 (xN (gLc (giL (gOp dgetD (gVar 0) (gVar 1))) [3] (stN 3) bYes (gFz (gArgs glist [(gOp dgetD (gVar 2) (gVar 3))])))))
  (sWp [3] (sSeq (sDrop (xApp 4 (xN (gArgs glist [(gOp dgetD (gVar 0) (gVar 1))]))))
  (sWp [0] (sFz 4 (sDput 2 (xP (gVar 1)) (xCat (xN (gArgs mkL [(gVar 1)])) (xCall 1 (CV [0] V_merged) (aV (xP (gVar 4)) aNil))))))))))))
theorem sim_order_into (n : Nat) : SimFn (f_order_into n) [] [2] 3 (v_order_into (V_order_into n)) := ⟨_, _, fun XI => inferInstance, by decide, by decide⟩
def v_linearize : VS := (vSeq (vSet 2 vxDnew) (vSeq (vDrop (vxCall 3 (V_order_into 20) (vaV (vxP (gVar 0)) (vaV (vxP (gVar 1)) (vaB 2 vaNil))))) (vWp [0] (vRet (vxN (gArgs glist [(gOp dgetD (gVar 2) (gVar 1))]))))))
@[irreducible] def V_linearize : VF := runF [] 2 3 v_linearize
theorem V_linearize_s : V_linearize = runF [] 2 3 v_linearize := by
  unfold V_linearize
  rfl
abbrev f_linearize : FSt := (sSeq (sSet 2 xDnew)
  (sSeq (sDrop (xCall 3 (CV [2] (V_order_into 20)) (aV (xP (gVar 0)) (aV (xP (gVar 1)) (aB 2 aNil)))))
  (sWp [0] (sRet (xN (gArgs glist [(gOp dgetD (gVar 2) (gVar 1))]))))))
theorem sim_linearize : SimFn f_linearize [] [] 2 v_linearize := ⟨_, _, fun XI => inferInstance, by decide, by decide⟩
def v__law_kept : VS := (vSeq (vSet 2 (vxN (gLc (giL (gVar 0)) [3] (stN 3) (bV (gOp (fOp inD) (gVar 3) (gVar 1))) (gOp (fOp indexD) (gVar 1) (gVar 3))))) (vWp [1, 3] (vRet (vxP (gAnd (gOp (fOp eqD) (gArgs (fA1 lenD) [(gVar 2)]) (gArgs (fA1 lenD) [(gVar 0)])) (gOp (fOp eqD) (gVar 2) (gFz (gArgs gsortedI [(gVar 2)]))))))))
@[irreducible] def V__law_kept : VF := runF [] 2 4 v__law_kept
theorem V__law_kept_s : V__law_kept = runF [] 2 4 v__law_kept := by
  unfold V__law_kept
  rfl
abbrev f__law_kept : FSt := (sSeq (sSet 2 (xN (gLc (giL (gVar 0)) [3] (stN 3) (bV (gOp (fOp inD) (gVar 3) (gVar 1))) (gOp (fOp indexD) (gVar 1) (gVar 3)))))
  (sWp [1, 3] (sRet (xP (gAnd (gOp (fOp eqD) (gArgs (fA1 lenD) [(gVar 2)]) (gArgs (fA1 lenD) [(gVar 0)])) (gOp (fOp eqD) (gVar 2) (gFz (gArgs gsortedI [(gVar 2)]))))))))
theorem sim__law_kept : SimFn f__law_kept [] [] 2 v__law_kept := ⟨_, _, fun XI => inferInstance, by decide, by decide⟩
def vb__law_ancestors_1 : VS := (vSet 2 (vxN (gOp gcat (gVar 2) (gFz (gLc (giL (gOp dgetD (gVar 0) (gVar 4))) [5] (stN 5) (bV (gOp (fOp ninD) (gVar 5) (gVar 2))) (gVar 5))))))
def vb__law_ancestors_0 : VS := (vFz 2 (vForW [4, 5] (viL1 (vxP (gVar 2))) (stN 4) vb__law_ancestors_1))
def v__law_ancestors : VS := (vSeq (vSet 2 (vxN (gArgs mkL [(gVar 1)]))) (vWp [1] (vSeq (vForW [3, 4, 5] (viR1 (vxP (gArgs (fA1 lenD) [(gVar 0)]))) (stN 3) vb__law_ancestors_0) (vWp [0, 3, 4, 5] (vRet (vxRd 2))))))
@[irreducible] def V__law_ancestors : VF := runF [] 2 6 v__law_ancestors
theorem V__law_ancestors_s : V__law_ancestors = runF [] 2 6 v__law_ancestors := by
  unfold V__law_ancestors
  rfl
abbrev f__law_ancestors : FSt := (sSeq (sSet 2 (xN (gArgs mkL [(gVar 1)])))
  (sWp [1] (sSeq (sForW [3, 4, 5] (iR1 (xP (gArgs (fA1 lenD) [(gVar 0)]))) (stN 3)
  (sFz 2 (sForW [4, 5] (iL1 (xP (gVar 2))) (stN 4)
  (sSet 2 (xN (gOp gcat (gVar 2) (gFz (gLc (giL (gOp dgetD (gVar 0) (gVar 4))) [5] (stN 5) (bV (gOp (fOp ninD) (gVar 5) (gVar 2))) (gVar 5)))))))))
  (sWp [0, 3, 4, 5] (sRet (xRd 2))))))
theorem sim__law_ancestors : SimFn f__law_ancestors [] [] 2 v__law_ancestors := ⟨_, _, fun XI => inferInstance, by decide, by decide⟩
def vb__law_stuck_1 : VS := (vIf (vtP (bV (gOp (fOp ninD) (gVar 3) (gVar 1)))) (vDrop (vxApp 1 (vxP (gVar 3)))) vNil)
def vb__law_stuck_0 : VS := (vFz 2 (vForW [3] (viL1 (vxP (gVar 2))) (stN 3) vb__law_stuck_1))
def vb__law_stuck_2 : VS := (vSeq (vSet 5 (vxN (gLc (giL (gVar 1)) [3] (stN 3) (bV (gOp (fOp ninD) (gC (.bl true)) (gFz (gLc (giL (gVar 0)) [2] (stN 2) bYes (gOp (fOp inD) (gVar 3) (gFz (gSl slL (gVar 2) (goS (gC (.int 1))) goN))))))) (gVar 3)))) (vWp [2, 3] (vSeq (vSet 1 (vxN (gLc (giL (gVar 1)) [3] (stN 3) (bV (gOp (fOp ninD) (gVar 3) (gVar 5))) (gVar 3)))) (vWp [3] (vSet 0 (vxN (gLc (giL (gVar 0)) [2] (stN 2) bYes (gFz (gLc (giL (gVar 2)) [3] (stN 3) (bV (gOp (fOp ninD) (gVar 3) (gVar 5))) (gVar 3))))))))))
def v__law_stuck : VS := (vSeq (vSet 0 (vxN (gLc (giL (gVar 0)) [2] (stN 2) (bV (gOp (fOp neD) (gVar 2) (gFz (gArgs mkL [])))) (gVar 2)))) (vWp [2] (vSeq (vSet 1 (vxN (gArgs mkL []))) (vFz 0 (vSeq (vForW [2, 3] (viL1 (vxP (gVar 0))) (stN 2) vb__law_stuck_0) (vWp [2, 3] (vSeq (vForW [2, 3, 4, 5] (viR1 (vxP (gArgs (fA1 lenD) [(gVar 1)]))) (stN 4) vb__law_stuck_2) (vWp [0, 2, 3, 4, 5] (vRet (vxRd 1))))))))))
@[irreducible] def V__law_stuck : VF := runF [0] 1 6 v__law_stuck
theorem V__law_stuck_s : V__law_stuck = runF [0] 1 6 v__law_stuck := by
  unfold V__law_stuck
  rfl
abbrev f__law_stuck : FSt := (sSeq (sSet 0 (xN (gLc (giL (gVar 0)) [2] (stN 2) (bV (gOp (fOp neD) (gVar 2) (gFz (gArgs mkL [])))) (gVar 2))))
  (sWp [2] (sSeq (sSet 1 (xN (gArgs mkL [])))
  (sFz 0 (sSeq (sForW [2, 3] (iL1 (xP (gVar 0))) (stN 2)
  (sFz 2 (sForW [3] (iL1 (xP (gVar 2))) (stN 3)
  (sIf (tP (bV (gOp (fOp ninD) (gVar 3) (gVar 1)))) (sDrop (xApp 1 (xP (gVar 3)))) sNil))))
  (sWp [2, 3] (sSeq (sForW [2, 3, 4, 5] (iR1 (xP (gArgs (fA1 lenD) [(gVar 1)]))) (stN 4)
  (sSeq (sSet 5 (xN (gLc (giL (gVar 1)) [3] (stN 3) (bV (gOp (fOp ninD) (gC (.bl true)) (gFz (gLc (giL (gVar 0)) [2] (stN 2) bYes (gOp (fOp inD) (gVar 3) (gFz (gSl slL (gVar 2) (goS (gC (.int 1))) goN))))))) (gVar 3))))
  (sWp [2, 3] (sSeq (sSet 1 (xN (gLc (giL (gVar 1)) [3] (stN 3) (bV (gOp (fOp ninD) (gVar 3) (gVar 5))) (gVar 3))))
  (sWp [3] (sSet 0 (xN (gLc (giL (gVar 0)) [2] (stN 2) bYes (gFz (gLc (giL (gVar 2)) [3] (stN 3) (bV (gOp (fOp ninD) (gVar 3) (gVar 5))) (gVar 3)))))))))))
  (sWp [0, 2, 3, 4, 5] (sRet (xRd 1))))))))))
theorem sim__law_stuck : SimFn f__law_stuck [0] [0] 1 v__law_stuck := ⟨_, _, fun XI => inferInstance, by decide, by decide⟩
abbrev su__law_asked_0 (a : Addr) (cls : Value) (d : Option Addr) : FSt := (sRet (xP (gArgs mkT [(gC (.bl false)), (gXf a cls d 3 "Barred" "heads")])))
def vsu__law_asked_0 : VS := (vRet (vxP (gArgs mkT [(gC (.bl false)), (gXv 3 "Barred" "heads")])))
instance : SimSu su__law_asked_0 [] [] vsu__law_asked_0 := SimSu.of (fun a cls d => inferInstance) (by decide) (by decide)
def v__law_asked : VS := (vSeq (vTry (exmT [("Barred", true)]) 3 (vSet 2 (vxCall 2 V_linearize (vaV (vxP (gVar 0)) (vaV (vxP (gVar 1)) vaNil)))) vsu__law_asked_0) (vWp [0, 1, 3] (vFz 2 (vRet (vxP (gArgs mkT [(gC (.bl true)), (gVar 2)]))))))
@[irreducible] def V__law_asked : VF := runF [] 2 4 v__law_asked
theorem V__law_asked_s : V__law_asked = runF [] 2 4 v__law_asked := by
  unfold V__law_asked
  rfl
abbrev f__law_asked : FSt := (sSeq (sTryW [] [] (exmT [("Barred", true)]) 3 (sSet 2 (xCall 2 (CV [] V_linearize) (aV (xP (gVar 0)) (aV (xP (gVar 1)) aNil)))) su__law_asked_0)
  (sWp [0, 1, 3] (sFz 2 (sRet (xP (gArgs mkT [(gC (.bl true)), (gVar 2)]))))))
theorem sim__law_asked : SimFn f__law_asked [] [] 2 v__law_asked := ⟨_, _, fun XI => inferInstance, by decide, by decide⟩
def v__law_right : VS := (vSeq (vSet 3 (vxCall0 2 V__law_asked (vaV (vxP (gVar 0)) (vaV (vxP (gVar 1)) vaNil)))) (vSeq (vIf (vtP (bV (gOp (fOp inD) (gC (.bl true)) (gFz (gLc (giL (gOp dgetD (gVar 0) (gVar 1))) [6] (stN 6) bYes (gOp (fOp dninD) (gVar 6) (gVar 2))))))) (vRet (vxP (gNot (gOp ixD (gVar 3) (gC (.int 0)))))) vNil) (vWp [6] (vSeq (vSet 4 (vxN (gOp gcat (gFz (gLc (giL (gOp dgetD (gVar 0) (gVar 1))) [6] (stN 6) bYes (gOp dgetD (gVar 2) (gVar 6)))) (gFz (gArgs mkL [(gOp dgetD (gVar 0) (gVar 1))]))))) (vWp [6] (vFz 4 (vSeq (vSet 5 (vxCall0 1 V__law_stuck (vaV (vxP (gVar 4)) vaNil))) (vSeq (vIf (vtP (bV (gOp (fOp neD) (gOp ixD (gVar 3) (gC (.int 0))) (gOp (fOp eqD) (gVar 5) (gFz (gArgs mkL [])))))) (vRet (vxP (gC (.bl false)))) vNil) (vSeq (vIf (vtP (bNot (bV (gOp ixD (gVar 3) (gC (.int 0)))))) (vRet (vxP (gAnd (gOp (fOp neD) (gOp ixD (gVar 3) (gC (.int 1))) (gFz (gArgs mkL []))) (gOp (fOp ninD) (gC (.bl false)) (gFz (gLc (giL (gOp ixD (gVar 3) (gC (.int 1)))) [7] (stN 7) bYes (gOp (fOp inD) (gVar 7) (gVar 5)))))))) vNil) (vWp [5, 7] (vSeq (vIf (vtOrX (vtP (bV (gOp (fOp neD) (gFz (gSl slL (gOp ixD (gVar 3) (gC (.int 1))) goN (goS (gC (.int 1))))) (gFz (gArgs mkL [(gVar 1)]))))) (vtXb (vxOp (fOp neD) (vxN (gArgs gsortedS [(gOp ixD (gVar 3) (gC (.int 1)))])) (vxArgs gsortedS (vaV (vxCall0 2 V__law_ancestors (vaV (vxP (gVar 0)) (vaV (vxP (gVar 1)) vaNil))) vaNil))))) (vRet (vxP (gC (.bl false)))) vNil) (vWp [0] (vFz 4 (vSeq (vIf (vtXb (vxOp (fOp inD) (vxP (gC (.bl false))) (vxLc (viL1 (vxP (gVar 4))) [8] (stN 8) vtYesX (vxCall0 2 V__law_kept (vaV (vxP (gVar 8)) (vaV (vxP (gOp ixD (gVar 3) (gC (.int 1)))) vaNil)))))) (vRet (vxP (gC (.bl false)))) vNil) (vWp [4, 8] (vSeq (vDput 2 (vxP (gVar 1)) (vxN (gArgs glist [(gOp ixD (gVar 3) (gC (.int 1)))]))) (vWp [1, 3] (vRet (vxP (gC (.bl true)))))))))))))))))))))
@[irreducible] def V__law_right : VF := runF [] 3 9 v__law_right
theorem V__law_right_s : V__law_right = runF [] 3 9 v__law_right := by
  unfold V__law_right
  rfl
abbrev f__law_right : FSt := (sSeq (sSet 3 (xCall0 2 (CV0 [] V__law_asked) (aV (xP (gVar 0)) (aV (xP (gVar 1)) aNil))))
  (sSeq (sIf (tP (bV (gOp (fOp inD) (gC (.bl true)) (gFz (gLc (giL (gOp dgetD (gVar 0) (gVar 1))) [6] (stN 6) bYes (gOp (fOp dninD) (gVar 6) (gVar 2))))))) (sRet (xP (gNot (gOp ixD (gVar 3) (gC (.int 0)))))) sNil)
  (sWp [6] (sSeq (sSet 4 (xN (gOp gcat (gFz (gLc (giL (gOp dgetD (gVar 0) (gVar 1))) [6] (stN 6) bYes (gOp dgetD (gVar 2) (gVar 6)))) (gFz (gArgs mkL [(gOp dgetD (gVar 0) (gVar 1))])))))
  (sWp [6] (sFz 4 (sSeq (sSet 5 (xCall0 1 (CV0 [0] V__law_stuck) (aV (xP (gVar 4)) aNil)))
  (sSeq (sIf (tP (bV (gOp (fOp neD) (gOp ixD (gVar 3) (gC (.int 0))) (gOp (fOp eqD) (gVar 5) (gFz (gArgs mkL [])))))) (sRet (xP (gC (.bl false)))) sNil)
  (sSeq (sIf (tP (bNot (bV (gOp ixD (gVar 3) (gC (.int 0)))))) (sRet (xP (gAnd (gOp (fOp neD) (gOp ixD (gVar 3) (gC (.int 1))) (gFz (gArgs mkL []))) (gOp (fOp ninD) (gC (.bl false)) (gFz (gLc (giL (gOp ixD (gVar 3) (gC (.int 1)))) [7] (stN 7) bYes (gOp (fOp inD) (gVar 7) (gVar 5)))))))) sNil)
  (sWp [5, 7] (sSeq (sIf (tOrX (tP (bV (gOp (fOp neD) (gFz (gSl slL (gOp ixD (gVar 3) (gC (.int 1))) goN (goS (gC (.int 1))))) (gFz (gArgs mkL [(gVar 1)]))))) (tXb (xOp (fOp neD) (xN (gArgs gsortedS [(gOp ixD (gVar 3) (gC (.int 1)))])) (xArgs gsortedS (aV (xCall0 2 (CV0 [] V__law_ancestors) (aV (xP (gVar 0)) (aV (xP (gVar 1)) aNil))) aNil))))) (sRet (xP (gC (.bl false)))) sNil)
  (sWp [0] (sFz 4 (sSeq (sIf (tXb (xOp (fOp inD) (xP (gC (.bl false))) (xLc (iL1 (xP (gVar 4))) [8] (stN 8) tYesX (xCall0 2 (CV0 [] V__law_kept) (aV (xP (gVar 8)) (aV (xP (gOp ixD (gVar 3) (gC (.int 1)))) aNil)))))) (sRet (xP (gC (.bl false)))) sNil)
  (sWp [4, 8] (sSeq (sDput 2 (xP (gVar 1)) (xN (gArgs glist [(gOp ixD (gVar 3) (gC (.int 1)))])))
  (sWp [1, 3] (sRet (xP (gC (.bl true)))))))))))))))))))))
theorem sim__law_right : SimFn f__law_right [] [2] 3 v__law_right := ⟨_, _, fun XI => inferInstance, by decide, by decide⟩
abbrev f_law : FSt := (sSeq (sSet 2 xDnew)
  (sSeq (sForW [3, 4, 5, 6] (iR1 (xOp (fOp addD) (xP (gC (.int 1))) (xCall0 2 (CV0 [] V_draw) (aB 1 (aV (xP (gC (.int 12))) aNil))))) (stN 3)
  (sSeq (sSet 4 (xN (gArgs glistK [(gVar 2)])))
  (sSeq (sSet 5 (xN (gArgs mkL [])))
  (sSeq (sForW [6] (iR1 (xCall0 2 (CV0 [] V_draw) (aB 1 (aV (xP (gC (.int 5))) aNil)))) (stN 6)
  (sIf (tP (bV (gOp (fOp neD) (gVar 4) (gFz (gArgs mkL []))))) (sDrop (xApp 5 (xPopA 4 (xCall0 2 (CV0 [] V_draw) (aB 1 (aV (xP (gArgs (fA1 lenD) [(gVar 4)])) aNil)))))) sNil))
  (sWp [4, 6] (sFz 5 (sDput 2 (xOp (fOp addD) (xOp ixD (xP (gC (.str "abcdefgh"))) (xCall0 2 (CV0 [] V_draw) (aB 1 (aV (xP (gC (.int 8))) aNil)))) (xP (gArgs (fA1 strD) [(gVar 3)]))) (xP (gVar 5)))))))))
  (sWp [1, 3, 4, 5, 6] (sSeq (sSet 7 xDnew)
  (sFz 2 (sSeq (sForW [8] (iL1 (xN (gArgs glistK [(gVar 2)]))) (stN 8)
  (sFz 2 (sIf (tNotX (tX (xCall0 3 (CV0 [2] V__law_right) (aV (xP (gVar 2)) (aV (xP (gVar 8)) (aB 7 aNil)))))) (sRet (xP (gC (.bl false)))) sNil)))
  (sWp [2, 7, 8] (sRet (xP (gC (.bl true)))))))))))
def vb_law_1 : VS := (vIf (vtP (bV (gOp (fOp neD) (gVar 4) (gFz (gArgs mkL []))))) (vDrop (vxApp 5 (vxPopA 4 (vxCall0 2 V_draw (vaB 1 (vaV (vxP (gArgs (fA1 lenD) [(gVar 4)])) vaNil)))))) vNil)
def vb_law_0 : VS := (vSeq (vSet 4 (vxN (gArgs glistK [(gVar 2)]))) (vSeq (vSet 5 (vxN (gArgs mkL []))) (vSeq (vForW [6] (viR1 (vxCall0 2 V_draw (vaB 1 (vaV (vxP (gC (.int 5))) vaNil)))) (stN 6) vb_law_1) (vWp [4, 6] (vFz 5 (vDput 2 (vxOp (fOp addD) (vxOp ixD (vxP (gC (.str "abcdefgh"))) (vxCall0 2 V_draw (vaB 1 (vaV (vxP (gC (.int 8))) vaNil)))) (vxP (gArgs (fA1 strD) [(gVar 3)]))) (vxP (gVar 5))))))))
def vb_law_2 : VS := (vFz 2 (vIf (vtNotX (vtX (vxCall0 3 V__law_right (vaV (vxP (gVar 2)) (vaV (vxP (gVar 8)) (vaB 7 vaNil)))))) (vRet (vxP (gC (.bl false)))) vNil))
def v_law : VS := (vSeq (vSet 2 vxDnew) (vSeq (vForW [3, 4, 5, 6] (viR1 (vxOp (fOp addD) (vxP (gC (.int 1))) (vxCall0 2 V_draw (vaB 1 (vaV (vxP (gC (.int 12))) vaNil))))) (stN 3) vb_law_0) (vWp [1, 3, 4, 5, 6] (vSeq (vSet 7 vxDnew) (vFz 2 (vSeq (vForW [8] (viL1 (vxN (gArgs glistK [(gVar 2)]))) (stN 8) vb_law_2) (vWp [2, 7, 8] (vRet (vxP (gC (.bl true)))))))))))
theorem sim_law : SimFn f_law [] [0] 1 v_law := ⟨_, _, fun XI => inferInstance, by decide, by decide⟩

theorem distF_fold (l acc : Names) : l.foldl (fun acc x => if x ∈ acc then acc else acc ++ [x]) acc = distF acc l := by
  induction l generalizing acc with
  | nil => rfl
  | cons x l ih => exact ih _
theorem V_distinct_eq (l : Names) (h : l.length ≤ 1000) : V_distinct [.fz (dN l)] = .done (.rt (.ow (ol 0 ((dist l).map D.str))) [.fz (dN l)]) := by
  rw [V_distinct_s]
  unfold v_distinct
  walk_at "v"
  have key := forL_foldI (vs := [2]) (st := stN 2) (f := vb_distinct_0) (enc := D.str) (φ := fun acc : Names => [some (.fz (dN l)), some (.ow (ol 0 (acc.map D.str))), none]) (step := fun acc x => if x ∈ acc then acc else acc ++ [x]) (fun i acc => acc.length ≤ i) (xs := l) (k := 0) (b := []) (e0 := [some (.fz (dN l)), some (.ow (ol 0 [])), none]) rfl (Nat.le_refl 0) fun i acc x hx hi => by
    have hil : i < l.length := (List.getElem?_eq_some_iff.mp hx).1
    unfold vb_distinct_0
    walk_at "v"
    by_cases hm : x ∈ acc
    · simp only [hm, if_true, decide_true]
      walk_at "v"
      omega
    · simp only [hm, if_false, decide_false]
      walk_at "v"
      rw [if_pos (small1000 (by rw [List.length_map]; omega))]
      walk_at "v"
      exact ⟨by rw [List.map_append]; rfl, by rw [List.length_append]; show _ + 1 ≤ _; omega⟩
  rw [key.1]
  walk_at "v"
  rw [distF_fold]
  rfl
/-- rows of names as data -/
abbrev dR (rs : List Names) : D := .lst (rs.map dN)
def hd (r : Names) : Str := r.headD ⟨#[]⟩
theorem hd_cons (x : Str) (r : Names) : hd (x :: r) = x := rfl
theorem ix_hd {r : Names} (h : r ≠ []) : ixD (.f (dN r)) (.f (.int 0)) = some (.f (.str (hd r))) := by
  cases r with
  | nil => exact absurd rfl h
  | cons x r => exact ix_N0
theorem ffh_find (all : List Names) : ∀ rs : List Names, (∀ r ∈ rs, r ≠ []) → ffh rs all = (rs.find? fun r => !barredBy all (hd r)).map hd
  | [], _ => rfl
  | [] :: rs, h => absurd rfl (h _ List.mem_cons_self)
  | (x :: q) :: rs, h => by
    have ih := ffh_find all rs fun r hr => h r (List.mem_cons_of_mem _ hr)
    unfold ffh
    rw [List.find?_cons, hd_cons]
    cases barredBy all x with
    | true => exact ih
    | false => rfl
def dO : Option Str → D
  | none => .non
  | some s => .str s
theorem V_ffh_eq (rs : List Names) (hne : ∀ r ∈ rs, r ≠ []) (hl : rs.length ≤ 1000) : V_first_free_head [.fz (dR rs)] = .done (.rt (.fz (dO (ffh rs rs))) [.fz (dR rs)]) := by
  rw [V_first_free_head_s]
  unfold v_first_free_head
  walk_at "v"
  rw [forL_run2 (enc := dN) (φ := fun _ : Unit => [some (.fz (dR rs)), none, none]) (step := fun (_ : Unit) r => if (!barredBy rs (hd r)) = true then .inr (.rt (.fz (.str (hd r))) [some (.fz (dR rs)), some (.fz (dN r)), none]) else .inl ()) (b := ()) (fun _ => rfl) rfl ?hs (fun _ r => by split <;> rfl), goL_find (fun a e z => by cases z), ffh_find rs rs hne]
  case hs =>
    intro _ r hr
    have h0 := hne r hr
    unfold vb_first_free_head_0
    walk_at "v"
    rw [if_pos (Nat.le_of_lt (small1000 (by rw [List.length_map]; exact hl))), comps_all (enc := dN) (f := fun o : Names => D.bl (decide (hd r ∈ o.drop 1))) ?hh]
    case hh =>
      intro o _
      refine ⟨_, rfl, ?_⟩
      walk_at "v"
      rw [ix_hd h0]
      walk_at "v"
    rw [show (rs.map fun o : Names => D.bl (decide (hd r ∈ o.drop 1))) = (rs.map fun o : Names => decide (hd r ∈ o.drop 1)).map D.bl by rw [List.map_map]; rfl]
    walk_at "v"
    rw [show (rs.map fun o : Names => decide (hd r ∈ o.drop 1)).any id = barredBy rs (hd r) by unfold barredBy; rw [List.any_map]; rfl]
    cases barredBy rs (hd r) with
    | true =>
      walk_at "v"
      rfl
    | false =>
      walk_at "v"
      rw [ix_hd h0]
      walk_at "v"
      rfl
  cases rs.find? (fun r => !barredBy rs (hd r)) with
  | none =>
    walk_at "v"
    rfl
  | some r =>
    walk_at "v"
    rfl

theorem gtlen {n : Nat} : decide ((n : Int) > 0) = !(n == 0) := by
  cases n with
  | zero => rfl
  | succ n => exact decide_eq_true (by omega)
theorem full_comps {e : Env} {rs : List Names} {k : Nat} (h : ∀ r : Names, ∃ e1, stN k (dN r) e = some e1 ∧ gVar k e1 = some (.f (dN r))) : comps (stN k) (bV (gOp (fOp gtD) (gArgs (fA1 lenD) [(gVar k)]) (gC (.int 0)))) (gVar k) e (rs.map dN) = some ((full rs).map dN) := by
  refine comps_fil (t := fun r : Names => !r.isEmpty) fun r _ => ?_
  obtain ⟨e1, h1, h2⟩ := h r
  refine ⟨e1, h1, ?_, h2⟩
  simp only [bV_ap, gOp_ap, gArgs_ap, gAll_cons, h2, gAll_nil, consN_s, argN_s, len_dN, gC_ap, opN_s, gt_i, bVN_b, gtlen]
  cases r <;> rfl
theorem full_ne (rs : List Names) : ∀ r ∈ full rs, r ≠ [] := fun r hr => by
  have := (List.mem_filter.mp hr).2
  cases r with
  | nil => cases this
  | cons x q => exact fun z => by cases z
theorem heads_hd : ∀ rs : List Names, (∀ r ∈ rs, r ≠ []) → heads rs = rs.map hd
  | [], _ => rfl
  | [] :: rs, h => absurd rfl (h _ List.mem_cons_self)
  | (x :: q) :: rs, h => by
    have ih := heads_hd rs fun r hr => h r (List.mem_cons_of_mem _ hr)
    unfold heads at ih ⊢
    rw [List.filterMap_cons]
    show x :: List.filterMap List.head? rs = _
    rw [ih]
    rfl
theorem take_hd {t : Str} {r : Names} (h : r ≠ []) : (if hd r = t then r.drop 1 else r) = takeH t r := by
  cases r with
  | nil => exact absurd rfl h
  | cons x q => rfl
theorem full_len (rs : List Names) : (full rs).length ≤ rs.length := List.length_filter_le _ _
theorem eq_str {a b : Str} : fOp eqD (.f (.str a)) (.f (.str b)) = some (.f (.bl (decide (a = b)))) := lf_eqs
/-- the loop of merged -/
theorem merged_loop : ∀ (n : Nat) (rs : List Names) (res : Names) (o : Sl), (o = .ow (ol 0 (rs.map dN)) ∨ o = .fz (dR rs)) → (∀ r ∈ rs, r ≠ []) → tot rs < n → rs.length ≤ 1000 → res.length + n ≤ 10000 →
    (∀ l, mergeN n rs = .ok l → ∃ o', whileL [2, 3] vt_merged_0 vb_merged_0 n [some o, some (.ow (ol 0 (res.map D.str))), none, none] = .done (.nx [some o', some (.ow (ol 0 ((res ++ l).map D.str))), none, none])) ∧
    ∀ er, mergeN n rs = .error er → ∃ x e', whileL [2, 3] vt_merged_0 vb_merged_0 n [some o, some (.ow (ol 0 (res.map D.str))), none, none] = .done (.ex "Barred" [("heads", dN er)] (x :: e'))
  | 0, rs, _, _, _, _, h, _, _ => absurd h (Nat.not_lt_zero _)
  | n + 1, rs, res, o, ho, hne, ht, hl, hr => by
    have htest : vt_merged_0 [some o, some (.ow (ol 0 (res.map D.str))), none, none] = .done (.ok (!(rs.length == 0)) [some o, some (.ow (ol 0 (res.map D.str))), none, none]) := by
      unfold vt_merged_0
      rcases ho with rfl | rfl <;> (walk_at "v"; rw [List.length_map, gtlen])
    have hfz : Env.fz [some o, some (.ow (ol 0 (res.map D.str))), none, none] 0 = [some (.fz (dR rs)), some (.ow (ol 0 (res.map D.str))), none, none] := by
      rcases ho with rfl | rfl <;> walk_at "v"
    rw [whileL_ap]
    walk_at "v"
    rw [htest]
    walk_at "v"
    cases hrs : rs with
    | nil =>
      refine ⟨fun l h => ?_, fun er h => ?_⟩
      · unfold mergeN at h
        rw [if_pos rfl] at h
        cases h
        rw [List.append_nil]
        exact ⟨_, rfl⟩
      · unfold mergeN at h
        rw [if_pos rfl] at h
        cases h
    | cons r0 q0 =>
      rw [← hrs]
      have hpos : (!(rs.length == 0)) = true := by rw [hrs]; rfl
      have hm : mergeN (n + 1) rs = match ffh rs rs with
        | none => .error (dist (heads rs))
        | some t => match mergeN n (stepR rs t) with
          | .ok l => .ok (t :: l)
          | .error e => .error e := by
        show (if rs = [] then _ else _) = _
        rw [if_neg (by rw [hrs]; exact fun z => by cases z)]
        all_goals rfl
      rw [hpos, kWhile_t, hm]
      unfold vb_merged_0
      rw [vFz_ap, hfz]
      walk_at "v"
      rw [callG_rt (V_ffh_eq rs hne hl)]
      walk_at "v"
      cases hf : ffh rs rs with
      | none =>
        refine ⟨fun l h => (by cases h), fun er h => ?_⟩
        injection h with h
        subst h
        unfold dO
        walk_at "v"
        rw [if_pos (Nat.le_of_lt (small1000 (by rw [List.length_map]; exact hl))), comps_all (enc := dN) (f := fun r : Names => D.str (hd r)) ?hh]
        case hh =>
          intro r hr
          refine ⟨_, rfl, ?_⟩
          walk_at "v"
          rw [ix_hd (hne r hr)]
        rw [show (rs.map fun r : Names => D.str (hd r)) = (heads rs).map D.str by rw [heads_hd rs hne, List.map_map]; rfl]
        walk_at "v"
        rw [dN_eq, callG_rt (V_distinct_eq (heads rs) (by rw [heads_hd rs hne, List.length_map]; exact hl))]
        walk_at "v"
        exact ⟨_, _, rfl⟩
      | some t =>
        obtain ⟨q, hq, hb⟩ := ffh_mem hf
        have hstep : tot (stepR rs t) < n := Nat.lt_of_lt_of_le (tot_step hq) (Nat.le_of_lt_succ ht)
        have hsl : (stepR rs t).length ≤ 1000 := by
          have := full_len (rs.map (takeH t))
          rw [List.length_map] at this
          unfold stepR
          omega
        unfold dO
        walk_at "v"
        rw [if_pos (by show (res.map D.str).length < 2 ^ 24; rw [List.length_map]; omega)]
        walk_at "v"
        rw [if_pos (Nat.le_of_lt (small1000 (by rw [List.length_map]; exact hl))), comps_all (enc := dN) (f := fun r : Names => dN (takeH t r)) ?hh]
        case hh =>
          intro r hr
          refine ⟨_, rfl, ?_⟩
          walk_at "v"
          rw [ix_hd (hne r hr)]
          walk_at "v"
          rw [← take_hd (hne r hr), gIfN_s]
          by_cases e : hd r = t
          · rw [if_pos (decide_eq_true e), if_pos e]
            walk_at "v"
          · rw [if_neg (by rw [decide_eq_false e]; exact Bool.false_ne_true), if_neg e]
            walk_at "v"
        rw [show (rs.map fun r : Names => dN (takeH t r)) = (rs.map (takeH t)).map dN by rw [List.map_map]; rfl]
        walk_at "v"
        rw [if_pos (Nat.le_of_lt (small1000 (by rw [List.length_map, List.length_map]; exact hl))), full_comps fun r => ⟨_, rfl, rfl⟩]
        walk_at "v"
        have ih := merged_loop n (stepR rs t) (res ++ [t]) (.ow (ol 0 ((stepR rs t).map dN))) (.inl rfl) (full_ne _) hstep hsl (by rw [List.length_append]; show _ + 1 + n ≤ _; omega)
        rw [List.map_append] at ih
        refine ⟨fun l h => ?_, fun er h => ?_⟩
        · cases hm2 : mergeN n (stepR rs t) with
          | ok l2 =>
            rw [hm2] at h
            cases h
            obtain ⟨o', h2⟩ := ih.1 l2 hm2
            refine ⟨o', ?_⟩
            rw [show res ++ t :: l2 = (res ++ [t]) ++ l2 by rw [List.append_assoc]; rfl]
            exact h2
          | error e =>
            rw [hm2] at h
            cases h
        · cases hm2 : mergeN n (stepR rs t) with
          | ok l2 =>
            rw [hm2] at h
            cases h
          | error e =>
            rw [hm2] at h
            cases h
            exact ih.2 _ hm2
def outM (rows : List Names) : T FO := match merge rows with
  | .ok l => .done (.rt (.ow (ol 0 (l.map D.str))) [.fz (dR rows)])
  | .error er => .done (.ex "Barred" [("heads", dN er)] [.fz (dR rows)])
theorem V_merged_eq (rows : List Names) (hl : rows.length ≤ 1000) (ht : tot rows < 999) : V_merged [.fz (dR rows)] = outM rows := by
  have hm : merge rows = mergeN 1000 (full rows) := mergeN_more _ _ _ (by rw [tot_full]; omega) (by rw [tot_full]; omega)
  have lp := merged_loop 1000 (full rows) [] (.ow (ol 0 ((full rows).map dN))) (.inl rfl) (full_ne rows) (by rw [tot_full]; omega) (Nat.le_trans (full_len rows) hl) (by decide)
  rw [V_merged_s]
  unfold v_merged outM
  walk_at "v"
  rw [if_pos (Nat.le_of_lt (small1000 (by rw [List.length_map]; exact hl))), full_comps fun r => ⟨_, rfl, rfl⟩]
  walk_at "v"
  rw [hm]
  cases h : mergeN 1000 (full rows) with
  | ok l =>
    obtain ⟨o', h2⟩ := lp.1 l h
    rw [List.map_nil] at h2
    rw [h2]
    walk_at "v"
  | error er =>
    obtain ⟨x, e', h2⟩ := lp.2 er h
    rw [List.map_nil] at h2
    rw [h2]
    walk_at "v"

theorem din_f {kvs : List (Key × D)} {s : Str} : fOp dinD (.f (.str s)) (.f (.dic kvs)) = some (.f (.bl (dfind kvs (.inr s)).isSome)) := rfl
theorem dnin_f {kvs : List (Key × D)} {s : Str} : fOp dninD (.f (.str s)) (.f (.dic kvs)) = some (.f (.bl (!(dfind kvs (.inr s)).isSome))) := rfl
theorem din_od {kvs : List (Key × D)} {s : Str} {a : Addr} : fOp dinD (.f (.str s)) (od a kvs) = some (.f (.bl (dfind kvs (.inr s)).isSome)) := by
  unfold fOp
  rw [od_toD]
  rfl
theorem dnin_od {kvs : List (Key × D)} {s : Str} {a : Addr} : fOp dninD (.f (.str s)) (od a kvs) = some (.f (.bl (!(dfind kvs (.inr s)).isSome))) := by
  unfold fOp
  rw [od_toD]
  rfl
theorem putD_nd {kvs : List (Key × D)} {k : Key} {d : D} (h : (kvs.map Prod.fst).Nodup) : ((putD kvs k d).map Prod.fst).Nodup := by
  unfold putD
  split
  · rw [List.map_map]
    have : (Prod.fst ∘ fun kv : Key × D => if kv.1 = k then (kv.1, d) else kv) = Prod.fst := by
      funext kv
      show (if kv.1 = k then (kv.1, d) else kv).1 = kv.1
      split <;> rfl
    rw [this]
    exact h
  · rename_i hn
    rw [List.map_append]
    refine List.nodup_append.mpr ⟨h, by simp, fun x hx y hy z => hn ?_⟩
    obtain ⟨kv, h1, h2⟩ := List.mem_map.mp hx
    rw [List.map_cons, List.map_nil, List.mem_singleton] at hy
    exact List.any_eq_true.mpr ⟨kv, h1, decide_eq_true (by rw [h2, z, hy])⟩
theorem putD_keys {kvs : List (Key × D)} {k : Key} {d : D} {j : Key} (h : j ∈ (putD kvs k d).map Prod.fst) : j ∈ kvs.map Prod.fst ∨ j = k := by
  unfold putD at h
  split at h
  · rw [List.map_map] at h
    have : (Prod.fst ∘ fun kv : Key × D => if kv.1 = k then (kv.1, d) else kv) = Prod.fst := by
      funext kv
      show (if kv.1 = k then (kv.1, d) else kv).1 = kv.1
      split <;> rfl
    rw [this] at h
    exact .inl h
  · rw [List.map_append, List.mem_append] at h
    rcases h with h | h
    · exact .inl h
    · rw [List.map_cons, List.map_nil, List.mem_singleton] at h
      exact .inr h
/-- what is done: names with their orders -/
structure DoneD (dn : List (Key × D)) (B : Str → Names) (ρ : Str → Nat) (dom : Names) : Prop where
  nd : (dn.map Prod.fst).Nodup
  key : ∀ k ∈ dn.map Prod.fst, k ∈ dom.map Sum.inr
  val : ∀ y d, dfind dn (.inr y) = some d → y ∈ dom ∧ ∃ l, d = dN l ∧ linR B ρ y = .ok l
def GrowsD (dn dn' : List (Key × D)) : Prop := ∀ y v, dfind dn (.inr y) = some v → dfind dn' (.inr y) = some v
section
variable {kvs dn : List (Key × D)} {B : Str → Names} {ρ : Str → Nat} {dom : Names}
theorem DoneD.nil : DoneD [] B ρ dom := ⟨by simp, fun _ h => (nomatch h), fun _ _ h => by cases h⟩
theorem DoneD.len (h : DoneD dn B ρ dom) : dn.length ≤ dom.length := by
  have := nodup_le h.nd h.key
  rwa [List.length_map, List.length_map] at this
theorem DoneD.put (h : DoneD dn B ρ dom) {x : Str} {l : Names} (hx : x ∈ dom) (hl : linR B ρ x = .ok l) : DoneD (putD dn (.inr x) (dN l)) B ρ dom := by
  refine ⟨putD_nd h.nd, fun k hk => ?_, fun y d hy => ?_⟩
  · rcases putD_keys hk with hk | rfl
    · exact h.key k hk
    · exact List.mem_map.mpr ⟨x, hx, rfl⟩
  · rw [dfind_put] at hy
    split at hy
    · rename_i e
      cases e
      cases hy
      exact ⟨hx, l, rfl, hl⟩
    · exact h.val y d hy
theorem grows_put (h : DoneD dn B ρ dom) {x : Str} {l : Names} (hl : linR B ρ x = .ok l) : GrowsD dn (putD dn (.inr x) (dN l)) := fun y v hv => by
  rw [dfind_put]
  split
  · rename_i e
    cases e
    obtain ⟨_, l', rfl, h2⟩ := h.val _ v hv
    rw [hl] at h2
    cases h2
    rfl
  · exact hv
/-- what order_into does -/
def OutO (kvs : List (Key × D)) (B : Str → Names) (ρ : Str → Nat) (dom : Names) (x : Str) (dn : List (Key × D)) (o : FO) : Prop := ∃ dn', DoneD dn' B ρ dom ∧ GrowsD dn dn' ∧ match linR B ρ x with
  | .ok l => o = .rt (.fz .non) [.fz (.dic kvs), .fz (.str x), .ow (od 0 dn')] ∧ dfind dn' (.inr x) = some (dN l)
  | .error e => o = .ex "Barred" [("heads", dN e)] [.fz (.dic kvs), .fz (.str x), .ow (od 0 dn')]
theorem tot_le {n : Nat} : ∀ (rs : List Names), (∀ r ∈ rs, r.length ≤ n) → tot rs ≤ rs.length * n
  | [], _ => Nat.zero_le _
  | r :: rs, h => by
    have ih := tot_le rs fun q hq => h q (List.mem_cons_of_mem _ hq)
    have h1 := h r List.mem_cons_self
    unfold tot at ih ⊢
    rw [List.map_cons, List.sum_cons, List.length_cons, Nat.add_mul, Nat.one_mul]
    omega
theorem order_into_ok (tb : TabD kvs B dom) (dag : Dag B ρ dom) : ∀ (n : Nat) (x : Str) (dn : List (Key × D)), x ∈ dom → ρ x < n → DoneD dn B ρ dom → (V_order_into n [.fz (.dic kvs), .fz (.str x), .ow (od 0 dn)]).All (OutO kvs B ρ dom x dn)
  | 0, _, _, _, h, _ => absurd h (Nat.not_lt_zero _)
  | n + 1, x, dn, hx, hr, hdn => by
    have hBx := tb.ex x hx
    have few := tb.few x hx
    have sm := tb.sm
    rw [V_order_into_s]
    unfold v_order_into
    walk_at "v"
    rw [din_od]
    walk_at "v"
    cases hd : dfind dn (.inr x) with
    | some v =>
      walk_at "v"
      obtain ⟨_, l, rfl, hl⟩ := hdn.val x v hd
      refine ⟨dn, hdn, fun _ _ z => z, ?_⟩
      rw [hl]
      exact ⟨rfl, hd⟩
    | none =>
      walk_at "v"
      rw [dget_f hBx]
      walk_at "v"
      refine all_finF (all_thS (forL_all (fun i e => ∃ dn', e = [some (.fz (.dic kvs)), some (.fz (.str x)), some (.ow (od 0 dn')), none, none] ∧ DoneD dn' B ρ dom ∧ GrowsD dn dn' ∧ ∀ y ∈ (B x).take i, ∃ v, dfind dn' (.inr y) = some v) (k := 0) ⟨dn, rfl, hdn, fun _ _ z => z, fun _ z => by cases z⟩ ?_ ?_))
      · rintro i d _ hdi ⟨dn', rfl, hd1, hg1, hall⟩
        rw [List.getElem?_map] at hdi
        cases hy : (B x)[i]? with
        | none =>
          rw [hy] at hdi
          cases hdi
        | some y =>
          rw [hy] at hdi
          cases hdi
          obtain ⟨hyd, hyr⟩ := dag.sub x hx y (List.mem_of_getElem? hy)
          unfold vb_order_into_0
          walk_at "v"
          refine all_turnW (all_bS (all_callG (T.all_mono (fun o ho => ?_) (order_into_ok tb dag n y dn' hyd (by omega) hd1))))
          obtain ⟨dn2, hd2, hg2, ho⟩ := ho
          have hg : GrowsD dn dn2 := fun z v h => hg2 z v (hg1 z v h)
          cases hl : linR B ρ y with
          | ok l =>
            rw [hl] at ho
            obtain ⟨rfl, hv2⟩ := ho
            refine ⟨dn2, rfl, hd2, hg, fun z hz => ?_⟩
            rw [take_snoc hy] at hz
            rcases List.mem_append.mp hz with hz | hz
            · obtain ⟨v, hv⟩ := hall z (by rw [Nat.zero_add]; exact hz)
              exact ⟨v, hg2 z v hv⟩
            · rw [List.mem_singleton.mp hz]
              exact ⟨_, hv2⟩
          | error e =>
            rw [hl] at ho
            have ho : o = _ := ho
            subst ho
            have hlin : linR B ρ x = .error e := by
              rw [linR_eq dag hx, linAll_err hy (fun z hz => ?_) hl]
              obtain ⟨v, hv⟩ := hall z (by rw [Nat.zero_add]; exact hz)
              obtain ⟨_, l, _, h2⟩ := hd1.val z v hv
              exact ⟨l, h2⟩
            refine ⟨_, rfl, dn2, hd2, hg, ?_⟩
            rw [hlin]
      · rintro _ ⟨dn1, rfl, hd1, hg1, hall⟩
        rw [List.length_map, Nat.zero_add, List.take_length] at hall
        obtain ⟨g, hgok⟩ : ∃ g : Str → Names, ∀ y ∈ B x, linR B ρ y = .ok (g y) := by
          refine ⟨fun y => match linR B ρ y with
            | .ok l => l
            | .error _ => [], fun y hy => ?_⟩
          obtain ⟨v, hv⟩ := hall y hy
          obtain ⟨_, l, _, h2⟩ := hd1.val y v hv
          simp only [h2]
        have hla := linAll_ok hgok
        have heq := linR_eq dag hx
        rw [hla] at heq
        dsimp only at heq
        have glen : ∀ y ∈ B x, (g y).length ≤ 30 := fun y hy => Nat.le_trans (linR_len dag (dag.sub x hx y hy).1 (hgok y hy)) tb.sm
        have hgv : ∀ y ∈ B x, dfind dn1 (.inr y) = some (dN (g y)) := fun y hy => by
          obtain ⟨v, hv⟩ := hall y hy
          obtain ⟨_, l, rfl, h2⟩ := hd1.val y v hv
          rw [hgok y hy] at h2
          cases h2
          exact hv
        have hrl : (((B x).map g) ++ [B x]).length ≤ 11 := by
          rw [List.length_append, List.length_map]
          show _ + 1 ≤ _
          omega
        have h30 : ∀ r ∈ ((B x).map g) ++ [B x], r.length ≤ 30 := fun r hr => by
          rcases List.mem_append.mp hr with hr | hr
          · obtain ⟨y, hy, rfl⟩ := List.mem_map.mp hr
            exact glen y hy
          · rw [List.mem_singleton.mp hr]
            omega
        have htot := tot_le _ h30
        show T.All _ _
        walk_at "v"
        rw [dget_f hBx]
        walk_at "v"
        rw [if_pos (Nat.le_of_lt (small1000 (by rw [List.length_map]; omega))), comps_all (enc := D.str) (f := fun y => dN (g y)) ?hh]
        case hh =>
          intro y hy
          refine ⟨_, rfl, ?_⟩
          walk_at "v"
          rw [dget_od (hgv y hy)]
          rfl
        walk_at "v"
        rw [dget_f hBx, show argN glist (consN (some (N.f (dN (B x)))) (some [])) = some (.f (.lst ((B x).map D.str))) from rfl]
        walk_at "v"
        rw [if_pos (small1000 (by rw [List.length_map]; omega))]
        walk_at "v"
        rw [show ((B x).map fun y => dN (g y)) ++ [D.lst ((B x).map D.str)] = (((B x).map g) ++ [B x]).map dN by rw [List.map_append, List.map_map]; rfl, callG_ap, V_merged_eq _ (by omega) (by omega)]
        unfold outM
        cases hm : merge (((B x).map g) ++ [B x]) with
        | ok l =>
          rw [hm] at heq
          walk_at "v"
          have hll := linR_len dag hx heq
          rw [List.length_cons] at hll
          have hdl := hd1.len
          rw [if_pos (by show 1 + (l.map D.str).length ≤ 2 ^ 24; rw [List.length_map]; omega)]
          walk_at "v"
          rw [if_pos (small1000 (by omega))]
          walk_at "v"
          refine ⟨_, hd1.put hx heq, fun y v hv => grows_put hd1 heq y v (hg1 y v hv), ?_⟩
          rw [heq]
          refine ⟨rfl, ?_⟩
          rw [dfind_put, if_pos rfl]
        | error e =>
          rw [hm] at heq
          walk_at "v"
          refine ⟨dn1, hd1, hg1, ?_⟩
          rw [heq]
theorem linearize_ok (tb : TabD kvs B dom) (dag : Dag B ρ dom) {x : Str} (hx : x ∈ dom) (hr : ρ x < 20) : (V_linearize [.fz (.dic kvs), .fz (.str x)]).All fun o => o = match linR B ρ x with
    | .ok l => .rt (.ow (ol 0 (l.map D.str))) [.fz (.dic kvs), .fz (.str x)]
    | .error e => .ex "Barred" [("heads", dN e)] [.fz (.dic kvs), .fz (.str x)] := by
  rw [V_linearize_s]
  unfold v_linearize
  walk_at "v"
  refine all_finF (all_thS (all_bS (all_callG (T.all_mono (fun o ho => ?_) (order_into_ok tb dag 20 x [] hx hr .nil)))))
  obtain ⟨dn', hd, hg, ho⟩ := ho
  cases h : linR B ρ x with
  | ok l =>
    rw [h] at ho
    obtain ⟨rfl, hv⟩ := ho
    walk_at "v"
    rw [dget_od hv, show argN glist (consN (some (N.f (dN l))) (some [])) = some (.f (.lst (l.map D.str))) from rfl]
    walk_at "v"
  | error e =>
    rw [h] at ho
    have ho : o = _ := ho
    subst ho
    walk_at "v"
def dRes (r : Except Names Names) : D := .tup [.bl (resV r).1, dN (resV r).2]
theorem asked_ok (tb : TabD kvs B dom) (dag : Dag B ρ dom) {x : Str} (hx : x ∈ dom) (hr : ρ x < 20) : (V__law_asked [.fz (.dic kvs), .fz (.str x)]).All fun o => o = .rt (.fz (dRes (linR B ρ x))) [.fz (.dic kvs), .fz (.str x)] := by
  rw [V__law_asked_s]
  unfold v__law_asked
  walk_at "v"
  refine all_finF (all_thS (all_tryS (all_bS (all_callG (T.all_mono (fun o ho => ?_) (linearize_ok tb dag hx hr))))))
  subst ho
  cases h : linR B ρ x with
  | ok l =>
    walk_at "v"
    rfl
  | error e =>
    refine ⟨true, exmT_hd, fun _ => ⟨show 3 < 4 by decide, rfl, ?_⟩, fun z => by cases z⟩
    unfold vsu__law_asked_0
    walk_at "v"
    rfl
end

/-! ### orders keep orders: the mathematics -/
theorem take_or (t : Str) (r : Names) : r = takeH t r ∨ r = t :: takeH t r := by
  cases r with
  | nil => exact .inl rfl
  | cons x q =>
    show x :: q = (if x = t then q else x :: q) ∨ x :: q = t :: (if x = t then q else x :: q)
    by_cases e : x = t
    · rw [if_pos e, e]
      exact .inr rfl
    · rw [if_neg e]
      exact .inl rfl
theorem mergeN_sub : ∀ {n : Nat} {rows : List Names} {l : Names}, tot rows < n → mergeN n rows = .ok l → ∀ r ∈ rows, r.Sublist l
  | 0, _, _, h, _ => absurd h (Nat.not_lt_zero _)
  | n + 1, rows, l, ht, h => by
    intro r hr
    unfold mergeN at h
    split at h
    · rename_i e
      rw [e] at hr
      cases hr
    · split at h
      · cases h
      · rename_i t hf
        obtain ⟨q, hq, hb⟩ := ffh_mem hf
        have hstep : tot (stepR rows t) < n := Nat.lt_of_lt_of_le (tot_step hq) (Nat.le_of_lt_succ ht)
        split at h
        · rename_i l2 h2
          cases h
          have ih := mergeN_sub hstep h2
          have hs : (takeH t r).Sublist l2 := by
            by_cases e : takeH t r = []
            · rw [e]
              exact List.nil_sublist _
            · refine ih _ (List.mem_filter.mpr ⟨List.mem_map.mpr ⟨r, hr, rfl⟩, ?_⟩)
              cases h : takeH t r with
              | nil => exact absurd h e
              | cons _ _ => rfl
          rcases take_or t r with e | e
          · rw [e]
            exact hs.cons t
          · rw [e]
            exact hs.cons_cons t
        · cases h
theorem merge_sub {rows : List Names} {l : Names} (h : merge rows = .ok l) : ∀ r ∈ rows, r.Sublist l := fun r hr => by
  by_cases e : r = []
  · rw [e]
    exact List.nil_sublist _
  · refine mergeN_sub (by rw [tot_full]; exact Nat.lt_succ_self _) h r (List.mem_filter.mpr ⟨hr, ?_⟩)
    cases r with
    | nil => exact absurd rfl e
    | cons _ _ => rfl
theorem merge_iff {rows : List Names} {l : Names} (h : merge rows = .ok l) (y : Str) : y ∈ l ↔ ∃ r ∈ rows, y ∈ r := ⟨(merge_mem h).2 y, fun ⟨r, hr, hy⟩ => (merge_sub h r hr).subset hy⟩
section
variable {B : Str → Names} {ρ : Str → Nat} {dom : Names}
/-- an order: the class, behind it the merge of the orders of its bases -/
theorem linR_ok (D : Dag B ρ dom) {x : Str} {l : Names} (hx : x ∈ dom) (h : linR B ρ x = .ok l) : ∃ ls q, linAll (linR B ρ) (B x) = .ok ls ∧ merge (ls ++ [B x]) = .ok q ∧ l = x :: q := by
  rw [linR_eq D hx] at h
  cases h1 : linAll (linR B ρ) (B x) with
  | error e =>
    rw [h1] at h
    cases h
  | ok ls =>
    rw [h1] at h
    dsimp only at h
    cases h2 : merge (ls ++ [B x]) with
    | error e =>
      rw [h2] at h
      cases h
    | ok q =>
      rw [h2] at h
      cases h
      exact ⟨ls, q, rfl, h2, rfl⟩
theorem linAll_mem {f : Str → Except Names Names} : ∀ {xs : Names} {ls : List Names}, linAll f xs = .ok ls → ∀ x ∈ xs, ∃ l ∈ ls, f x = .ok l
  | [], _, _, _, h => by cases h
  | y :: xs, ls, h, x, hx => by
    unfold linAll at h
    cases h1 : f y with
    | error e =>
      rw [h1] at h
      cases h
    | ok a =>
      rw [h1] at h
      dsimp only at h
      cases h2 : linAll f xs with
      | error e =>
        rw [h2] at h
        cases h
      | ok q =>
        rw [h2] at h
        cases h
        rcases List.mem_cons.mp hx with rfl | hx
        · exact ⟨a, List.mem_cons_self, h1⟩
        · obtain ⟨l, h3, h4⟩ := linAll_mem h2 x hx
          exact ⟨l, List.mem_cons_of_mem _ h3, h4⟩
/-- an order is closed under bases -/
theorem linR_closed (D : Dag B ρ dom) : ∀ (n : Nat) {x : Str} {l : Names}, x ∈ dom → ρ x < n → linR B ρ x = .ok l → ∀ y ∈ l, ∀ b ∈ B y, b ∈ l
  | 0, _, _, _, h, _ => absurd h (Nat.not_lt_zero _)
  | n + 1, x, l, hx, hr, h => by
    obtain ⟨ls, q, h1, h2, rfl⟩ := linR_ok D hx h
    intro y hy b hb
    refine List.mem_cons_of_mem _ ((merge_iff h2 b).mpr ?_)
    rcases List.mem_cons.mp hy with rfl | hy
    · exact ⟨B y, List.mem_append_right _ List.mem_cons_self, hb⟩
    · obtain ⟨r, hr1, hr2⟩ := (merge_iff h2 y).mp hy
      rcases List.mem_append.mp hr1 with hr1 | hr1
      · obtain ⟨_, hls⟩ := linAll_inv h1
        obtain ⟨z, hz, hz2⟩ := hls r hr1
        obtain ⟨hzd, hzr⟩ := D.sub x hx z hz
        exact ⟨r, List.mem_append_left _ hr1, linR_closed D n hzd (by omega) hz2 y hr2 b hb⟩
      · rw [List.mem_singleton.mp hr1] at hr2
        obtain ⟨l2, hl2, hl3⟩ := linAll_mem h1 y hr2
        obtain ⟨hyd, hyr⟩ := D.sub x hx y hr2
        obtain ⟨_, _, _, _, rfl⟩ := linR_ok D hyd hl3
        exact ⟨_, List.mem_append_left _ hl2, linR_closed D n hyd (by omega) hl3 y List.mem_cons_self b hb⟩
/-- what an order holds lies within so many steps -/
def within (B : Str → Names) (x : Str) : Nat → Str → Prop
  | 0, y => y = x
  | n + 1, y => y = x ∨ ∃ b ∈ B x, within B b n y
theorem linR_within (D : Dag B ρ dom) : ∀ (n : Nat) {x : Str} {l : Names}, x ∈ dom → ρ x ≤ n → linR B ρ x = .ok l → ∀ y ∈ l, within B x n y
  | n, x, l, hx, hr, h => by
    obtain ⟨ls, q, h1, h2, rfl⟩ := linR_ok D hx h
    intro y hy
    rcases List.mem_cons.mp hy with rfl | hy
    · cases n with
      | zero => rfl
      | succ n => exact .inl rfl
    · obtain ⟨r, hr1, hr2⟩ := (merge_iff h2 y).mp hy
      have base : ∀ z ∈ B x, ∀ l2, linR B ρ z = .ok l2 → y ∈ l2 → within B x n y := fun z hz l2 hl2 hy2 => by
        obtain ⟨hzd, hzr⟩ := D.sub x hx z hz
        cases n with
        | zero => omega
        | succ n => exact .inr ⟨z, hz, linR_within D n hzd (by omega) hl2 y hy2⟩
      rcases List.mem_append.mp hr1 with hr1 | hr1
      · obtain ⟨_, hls⟩ := linAll_inv h1
        obtain ⟨z, hz, hz2⟩ := hls r hr1
        exact base z hz r hz2 hr2
      · rw [List.mem_singleton.mp hr1] at hr2
        obtain ⟨l2, hl2, hl3⟩ := linAll_mem h1 y hr2
        obtain ⟨hyd, hyr⟩ := D.sub x hx y hr2
        obtain ⟨_, _, _, _, rfl⟩ := linR_ok D hyd hl3
        exact base y hr2 _ hl3 List.mem_cons_self
end
/-! ancestors -/
def ancStep (B : Str → Names) (f : Names) (o : Str) : Names := f ++ (B o).filter fun b => !decide (b ∈ f)
def ancRound (B : Str → Names) (f : Names) : Names := f.foldl (ancStep B) f
def ancN (B : Str → Names) : Nat → Names → Names
  | 0, f => f
  | n + 1, f => ancN B n (ancRound B f)
section
variable {B : Str → Names} {dom : Names}
theorem step_nd {f : Names} {o : Str} (hf : f.Nodup) (hb : (B o).Nodup) : (ancStep B f o).Nodup := List.nodup_append.mpr ⟨hf, hb.filter _, fun a ha b hb e => by
  have := (List.mem_filter.mp hb).2
  rw [← e, decide_eq_true ha] at this
  cases this⟩
theorem step_mem {f : Names} {o y : Str} : y ∈ ancStep B f o ↔ y ∈ f ∨ y ∈ B o := by
  unfold ancStep
  rw [List.mem_append, List.mem_filter]
  constructor
  · rintro (h | h)
    · exact .inl h
    · exact .inr h.1
  · rintro (h | h)
    · exact .inl h
    · by_cases hy : y ∈ f
      · exact .inl hy
      · exact .inr ⟨h, by rw [decide_eq_false hy]; rfl⟩
theorem fold_mem {y : Str} : ∀ {os f : Names}, y ∈ os.foldl (ancStep B) f ↔ y ∈ f ∨ ∃ o ∈ os, y ∈ B o
  | [], f => by simp
  | o :: os, f => by
    rw [List.foldl_cons, fold_mem, step_mem]
    simp only [List.mem_cons, exists_eq_or_imp]
    rw [or_assoc]
theorem fold_nd (hB : ∀ o ∈ dom, (B o).Nodup) : ∀ {os f : Names}, (∀ o ∈ os, o ∈ dom) → f.Nodup → (os.foldl (ancStep B) f).Nodup
  | [], f, _, hf => hf
  | o :: os, f, h, hf => fold_nd (os := os) hB (fun q hq => h q (List.mem_cons_of_mem _ hq)) (step_nd hf (hB o (h o List.mem_cons_self)))
theorem anc_sub {l : Names} (hc : ∀ y ∈ l, ∀ b ∈ B y, b ∈ l) : ∀ (n : Nat) {f : Names}, (∀ y ∈ f, y ∈ l) → ∀ y ∈ ancN B n f, y ∈ l
  | 0, _, h => h
  | n + 1, f, h => anc_sub hc n fun y hy => by
    rcases fold_mem.mp hy with hy | ⟨o, ho, hy⟩
    · exact h y hy
    · exact hc o (h o ho) y hy
theorem anc_nd (hB : ∀ o ∈ dom, (B o).Nodup) (hd : ∀ o ∈ dom, ∀ b ∈ B o, b ∈ dom) : ∀ (n : Nat) {f : Names}, (∀ y ∈ f, y ∈ dom) → f.Nodup → (ancN B n f).Nodup
  | 0, _, _, h => h
  | n + 1, f, h, hf => anc_nd hB hd n (fun y hy => by
      rcases fold_mem.mp hy with hy | ⟨o, ho, hy⟩
      · exact h y hy
      · exact hd o (h o ho) y hy) (fold_nd hB h hf)
theorem anc_keep : ∀ (n : Nat) {f : Names} {y : Str}, y ∈ f → y ∈ ancN B n f
  | 0, _, _, h => h
  | n + 1, f, y, h => anc_keep n (fold_mem.mpr (.inl h))
theorem anc_within : ∀ (n : Nat) {f : Names} {x y : Str}, x ∈ f → within B x n y → y ∈ ancN B n f
  | 0, f, x, y, hx, h => by
    rw [show y = x from h]
    exact hx
  | n + 1, f, x, y, hx, h => by
    rcases h with rfl | ⟨b, hb, h⟩
    · exact anc_keep n (fold_mem.mpr (.inl hx))
    · exact anc_within n (fold_mem.mpr (.inr ⟨x, hx, hb⟩)) h
theorem within_mono {x y : Str} : ∀ {n m : Nat} {x : Str}, n ≤ m → within B x n y → within B x m y
  | 0, 0, _, _, h => h
  | 0, m + 1, _, _, h => .inl h
  | n + 1, 0, _, h, _ => absurd h (Nat.not_succ_le_zero _)
  | n + 1, m + 1, x, h, hw => by
    rcases hw with hw | ⟨b, hb, hw⟩
    · exact .inl hw
    · exact .inr ⟨b, hb, within_mono (x := x) (Nat.le_of_succ_le_succ h) hw⟩
end
/-- the ancestors are what the order holds -/
theorem anc_perm {B : Str → Names} {ρ : Str → Nat} {dom : Names} (D : Dag B ρ dom) (hB : ∀ o ∈ dom, (B o).Nodup) {x : Str} {l : Names} {n : Nat} (hx : x ∈ dom) (hn : ρ x ≤ n) (h : linR B ρ x = .ok l) : l.Perm (ancN B n [x]) := by
  have h1 := linR_mem D (ρ x + 1) hx (Nat.lt_succ_self _) h
  have h2 := linR_closed D (ρ x + 1) hx (Nat.lt_succ_self _) h
  obtain ⟨_, q, _, _, rfl⟩ := linR_ok D hx h
  refine (List.perm_ext_iff_of_nodup h1.1 (anc_nd hB (fun o ho b hb => (D.sub o ho b hb).1) n (fun y hy => by rw [List.mem_singleton.mp hy]; exact hx) (by simp))).mpr fun y => ⟨fun hy => ?_, fun hy => ?_⟩
  · exact anc_within n (List.mem_singleton.mpr rfl) (linR_within D n hx hn h y hy)
  · exact anc_sub h2 n (fun y hy => by rw [List.mem_singleton.mp hy]; exact List.mem_cons_self) y hy

/-! ### taking away names with nothing in front of them -/
def freeN (rows : List Names) (ns : Names) : Names := ns.filter fun x => !barredBy rows x
def lessN (fr : Names) (ns : Names) : Names := ns.filter fun x => !decide (x ∈ fr)
def stuckN : Nat → Names → List Names → Names
  | 0, ns, _ => ns
  | n + 1, ns, rows => stuckN n (lessN (freeN rows ns) ns) (rows.map (lessN (freeN rows ns)))
theorem less_mem {fr ns : Names} {x : Str} : x ∈ lessN fr ns ↔ x ∈ ns ∧ x ∉ fr := by
  unfold lessN
  rw [List.mem_filter]
  constructor
  · rintro ⟨h, h2⟩
    refine ⟨h, fun z => ?_⟩
    rw [decide_eq_true z] at h2
    cases h2
  · rintro ⟨h, h2⟩
    exact ⟨h, by rw [decide_eq_false h2]; rfl⟩
theorem free_mem {rows : List Names} {ns : Names} {x : Str} : x ∈ freeN rows ns ↔ x ∈ ns ∧ barredBy rows x = false := by
  unfold freeN
  rw [List.mem_filter]
  cases barredBy rows x <;> simp
theorem barred_iff {rows : List Names} {x : Str} : barredBy rows x = true ↔ ∃ r ∈ rows, x ∈ r.drop 1 := by
  unfold barredBy
  rw [List.any_eq_true]
  constructor
  · rintro ⟨r, h, h2⟩
    exact ⟨r, h, of_decide_eq_true h2⟩
  · rintro ⟨r, h, h2⟩
    exact ⟨r, h, decide_eq_true h2⟩
/-- y stands ahead of x in r -/
def ahead (r : Names) (y x : Str) : Prop := ∃ p q, r = p ++ q ∧ y ∈ p ∧ x ∈ q
theorem ahead_drop {r : Names} {y x : Str} (h : ahead r y x) : x ∈ r.drop 1 := by
  obtain ⟨p, q, rfl, hy, hx⟩ := h
  cases p with
  | nil => cases hy
  | cons a p => exact List.mem_append_right _ hx
theorem drop_ahead {r : Names} {x : Str} (h : x ∈ r.drop 1) : ∃ y ∈ r, ahead r y x := by
  cases r with
  | nil => cases h
  | cons a r => exact ⟨a, List.mem_cons_self, [a], r, rfl, List.mem_cons_self, h⟩
theorem ahead_filter {r : Names} {y x : Str} {t : Str → Bool} (h : ahead r y x) (hy : t y = true) (hx : t x = true) : ahead (r.filter t) y x := by
  obtain ⟨p, q, rfl, h1, h2⟩ := h
  exact ⟨p.filter t, q.filter t, List.filter_append .., List.mem_filter.mpr ⟨h1, hy⟩, List.mem_filter.mpr ⟨h2, hx⟩⟩
theorem ahead_mem {r : Names} {y x : Str} (h : ahead r y x) : y ∈ r ∧ x ∈ r := by
  obtain ⟨p, q, rfl, h1, h2⟩ := h
  exact ⟨List.mem_append_left _ h1, List.mem_append_right _ h2⟩
/-- names of which each has one of them ahead of it stay -/
theorem stuck_stays (S : Str → Prop) : ∀ (n : Nat) {ns : Names} {rows : List Names}, (∀ x, S x → x ∈ ns) → (∀ x, S x → ∃ r ∈ rows, ∃ y, S y ∧ ahead r y x) → ∀ x, S x → x ∈ stuckN n ns rows
  | 0, _, _, h, _ => h
  | n + 1, ns, rows, h, ha => by
    have nf : ∀ x, S x → x ∉ freeN rows ns := fun x hx z => by
      obtain ⟨r, hr, y, hy, hyx⟩ := ha x hx
      have := (free_mem.mp z).2
      rw [barred_iff.mpr ⟨r, hr, ahead_drop hyx⟩] at this
      cases this
    refine stuck_stays S n (fun x hx => less_mem.mpr ⟨h x hx, nf x hx⟩) fun x hx => ?_
    obtain ⟨r, hr, y, hy, hyx⟩ := ha x hx
    exact ⟨_, List.mem_map.mpr ⟨r, hr, rfl⟩, y, hy, ahead_filter hyx (by rw [decide_eq_false (nf y hy)]; rfl) (by rw [decide_eq_false (nf x hx)]; rfl)⟩
/-- the rows that are left where a merge fails -/
theorem merge_left : ∀ {n : Nat} {rows : List Names} {e : Names}, tot rows < n → mergeN n rows = .error e → (∀ r ∈ rows, r ≠ []) → ∃ ls : List Names, ls ≠ [] ∧ (∀ r ∈ ls, r ≠ [] ∧ ∃ p, p ++ r ∈ rows) ∧ ffh ls ls = none ∧ e = dist (heads ls)
  | 0, _, _, h, _, _ => absurd h (Nat.not_lt_zero _)
  | n + 1, rows, e, ht, h, hne => by
    unfold mergeN at h
    split at h
    · cases h
    · rename_i hn
      split at h
      · rename_i hf
        cases h
        exact ⟨rows, hn, fun r hr => ⟨hne r hr, [], hr⟩, hf, rfl⟩
      · rename_i t hf
        obtain ⟨q, hq, hb⟩ := ffh_mem hf
        have hstep : tot (stepR rows t) < n := Nat.lt_of_lt_of_le (tot_step hq) (Nat.le_of_lt_succ ht)
        split at h
        · cases h
        · rename_i e2 h2
          cases h
          obtain ⟨ls, h3, h4, h5, h6⟩ := merge_left hstep h2 (full_ne _)
          refine ⟨ls, h3, fun r hr => ⟨(h4 r hr).1, ?_⟩, h5, h6⟩
          obtain ⟨p, hp⟩ := (h4 r hr).2
          obtain ⟨r0, hr0, e0⟩ := List.mem_map.mp (List.mem_filter.mp hp).1
          rcases take_or t r0 with z | z
          · exact ⟨p, by rw [← e0, ← z]; exact hr0⟩
          · exact ⟨t :: p, by rw [List.cons_append, ← e0, ← z]; exact hr0⟩
theorem ffh_none {all : List Names} : ∀ {rs : List Names}, ffh rs all = none → ∀ x r, (x :: r) ∈ rs → barredBy all x = true
  | [], _, _, _, h => by cases h
  | [] :: rs, h, x, r, hr => by
    rcases List.mem_cons.mp hr with z | hr
    · cases z
    · exact ffh_none (rs := rs) h x r hr
  | (y :: q) :: rs, h, x, r, hr => by
    unfold ffh at h
    split at h
    · rename_i hb
      rcases List.mem_cons.mp hr with z | hr
      · cases z
        exact hb
      · exact ffh_none h x r hr
    · cases h
theorem distF_mem {y : Str} : ∀ {xs acc : Names}, y ∈ distF acc xs ↔ y ∈ acc ∨ y ∈ xs
  | [], acc => by
    show y ∈ acc ↔ _
    simp
  | x :: xs, acc => by
    show y ∈ distF (if x ∈ acc then acc else acc ++ [x]) xs ↔ _
    rw [distF_mem]
    split
    · rename_i h
      constructor
      · rintro (h | h)
        · exact .inl h
        · exact .inr (List.mem_cons_of_mem _ h)
      · rintro (h | h)
        · exact .inl h
        · rcases List.mem_cons.mp h with rfl | h
          · exact .inl ‹_›
          · exact .inr h
    · rw [List.mem_append, List.mem_singleton, List.mem_cons, or_assoc]
/-- where a merge fails, its heads stay -/
theorem stuck_err {rows : List Names} {e : Names} (h : merge rows = .error e) {n : Nat} {ns : Names} (hns : ∀ x, (∃ r ∈ rows, x ∈ r) → x ∈ ns) : e ≠ [] ∧ ∀ x ∈ e, x ∈ stuckN n ns rows := by
  obtain ⟨ls, h1, h2, h3, rfl⟩ := merge_left (by rw [tot_full]; exact Nat.lt_succ_self _) h (full_ne _)
  have hS : ∀ x, (∃ r ∈ ls, x ∈ r) → x ∈ stuckN n ns rows := by
    refine stuck_stays (fun x => ∃ r ∈ ls, x ∈ r) n (fun x hx => ?_) fun x hx => ?_
    · obtain ⟨r, hr, hxr⟩ := hx
      obtain ⟨p, hp⟩ := (h2 r hr).2
      exact hns x ⟨p ++ r, (List.mem_filter.mp hp).1, List.mem_append_right _ hxr⟩
    · have key : ∃ r ∈ ls, x ∈ r.drop 1 := by
        obtain ⟨r, hr, hxr⟩ := hx
        cases r with
        | nil => cases hxr
        | cons a q =>
          rcases List.mem_cons.mp hxr with rfl | hxr
          · exact barred_iff.mp (ffh_none h3 x q hr)
          · exact ⟨a :: q, hr, hxr⟩
      obtain ⟨r, hr, hxr⟩ := key
      obtain ⟨y, hy, p, q, e, hyp, hxq⟩ := drop_ahead hxr
      obtain ⟨p0, hp0⟩ := (h2 r hr).2
      exact ⟨p0 ++ r, (List.mem_filter.mp hp0).1, y, ⟨r, hr, hy⟩, p0 ++ p, q, by rw [e, List.append_assoc], List.mem_append_right _ hyp, hxq⟩
  refine ⟨fun z => ?_, fun x hx => ?_⟩
  · cases ls with
    | nil => exact h1 rfl
    | cons r rs =>
      have hr := (h2 r List.mem_cons_self).1
      cases r with
      | nil => exact hr rfl
      | cons a q =>
        have : a ∈ dist (heads ((a :: q) :: rs)) := distF_mem.mpr (.inr (by unfold heads; rw [List.filterMap_cons]; exact List.mem_cons_self))
        rw [z] at this
        cases this
  · refine hS x ?_
    rcases distF_mem.mp hx with hx | hx
    · cases hx
    · unfold heads at hx
      obtain ⟨r, hr, hh⟩ := List.mem_filterMap.mp hx
      exact ⟨r, hr, List.mem_of_mem_head? hh⟩
/-- where rows lie within one list, all names go -/
theorem stuck_ok {l : Names} (hl : l.Nodup) : ∀ (n : Nat) {ns : Names} {rows : List Names}, ns.Nodup → ns.length ≤ n → (∀ x ∈ ns, x ∈ l) → (∀ r ∈ rows, r.Sublist l ∧ ∀ x ∈ r, x ∈ ns) → stuckN n ns rows = []
  | 0, ns, _, _, h, _, _ => List.eq_nil_of_length_eq_zero (Nat.le_zero.mp h)
  | n + 1, ns, rows, nd, hlen, hsub, hr => by
    show stuckN n (lessN (freeN rows ns) ns) (rows.map (lessN (freeN rows ns))) = []
    refine stuck_ok hl n (nd.filter _) ?_ (fun x hx => hsub x (less_mem.mp hx).1) fun r hr' => ?_
    · by_cases he : ns = []
      · rw [he]
        exact Nat.zero_le _
      · have hex : ∃ y, l.find? (fun y => decide (y ∈ ns)) = some y := by
          cases h : l.find? (fun y => decide (y ∈ ns)) with
          | some y => exact ⟨y, rfl⟩
          | none =>
            cases hns : ns with
            | nil => exact absurd hns he
            | cons a q =>
              have ha : a ∈ ns := by rw [hns]; exact List.mem_cons_self
              have := List.find?_eq_none.mp h a (hsub a ha)
              exact absurd (decide_eq_true ha) this
        obtain ⟨y, hy⟩ := hex
        have hyn : y ∈ ns := of_decide_eq_true (List.find?_some (p := fun y => decide (y ∈ ns)) hy)
        obtain ⟨p, q, e, hp⟩ := (List.find?_eq_some_iff_append.mp hy).2
        have hfree : y ∈ freeN rows ns := free_mem.mpr ⟨hyn, by
          cases hb : barredBy rows y with
          | false => rfl
          | true =>
            obtain ⟨r, hr1, hr2⟩ := barred_iff.mp hb
            obtain ⟨z, hz, a, b, e2, hza, hyb⟩ := drop_ahead hr2
            have hzn : z ∈ ns := (hr r hr1).2 z hz
            have hs : (a ++ b).Sublist l := e2 ▸ (hr r hr1).1
            have hs2 : [z, y].Sublist l := ((List.singleton_sublist.mpr hza).append (List.singleton_sublist.mpr hyb)).trans hs
            rw [e] at hs2 hl
            obtain ⟨u, v, e3, hu, hv⟩ := List.sublist_append_iff.mp hs2
            have hzp : z ∉ p := fun zz => by
              have := hp z zz
              simp [hzn] at this
            have hzy : z ≠ y := fun zz => by
              subst zz
              have : [z, z].Nodup := hl.sublist (e ▸ (((List.singleton_sublist.mpr hza).append (List.singleton_sublist.mpr hyb)).trans hs))
              simp at this
            cases u with
            | nil =>
              have e3 : v = [z, y] := e3.symm
              rw [e3] at hv
              have h1 : z ∈ q := by
                have : z ∈ y :: q := hv.subset List.mem_cons_self
                rcases List.mem_cons.mp this with h | h
                · exact absurd h hzy
                · exact h
              have h2 : [y].Sublist q := by
                cases hv with
                | cons _ h => exact (List.sublist_of_cons_sublist h)
                | cons_cons _ h => exact absurd rfl hzy
              have h3 : y ∈ q := h2.subset List.mem_cons_self
              have := (List.nodup_append.mp hl).2.1
              exact absurd h3 (List.nodup_cons.mp this).1
            | cons c u =>
              have hc : c = z := by
                have e3 : z :: [y] = c :: (u ++ v) := e3
                injection e3 with h
                exact h.symm
              rw [hc] at hu
              exact absurd (hu.subset List.mem_cons_self) hzp⟩
        have : (lessN (freeN rows ns) ns).length < ns.length := by
          unfold lessN
          refine List.length_filter_lt_length_iff_exists.mpr ⟨y, hyn, ?_⟩
          rw [decide_eq_true hfree]
          exact Bool.false_ne_true
        omega
    · obtain ⟨r0, hr0, rfl⟩ := List.mem_map.mp hr'
      exact ⟨List.filter_sublist.trans (hr r0 hr0).1, fun x hx => less_mem.mpr ⟨(hr r0 hr0).2 x (less_mem.mp hx).1, (less_mem.mp hx).2⟩⟩

theorem findIdx_str {x : Str} : ∀ {w : Names}, x ∈ w → ((w.map D.str).findIdx? fun z => eqV z.v (D.str x).v) = some (w.idxOf x)
  | [], h => by cases h
  | y :: w, h => by
    rw [List.map_cons, List.findIdx?_cons, List.idxOf_cons]
    show (if (y == x) = true then some 0 else _) = _
    by_cases e : (y == x) = true
    · rw [if_pos e, e]
      rfl
    · rw [if_neg e, Bool.eq_false_iff.mpr e]
      have hx : x ∈ w := by
        rcases List.mem_cons.mp h with rfl | h
        · exact absurd (beq_self_eq_true x) e
        · exact h
      rw [findIdx_str hx]
      rfl
theorem index_dN {w : Names} {x : Str} (h : x ∈ w) : fOp indexD (.f (dN w)) (.f (.str x)) = some (.f (.int (w.idxOf x : Nat))) := by
  show ((if flatD (.str x) = true ∧ (w.map D.str).all flatD = true then ((w.map D.str).findIdx? fun z => eqV z.v (D.str x).v).map fun j => D.int (j : Nat) else none)).map N.f = _
  rw [if_pos ⟨rfl, by rw [List.all_eq_true]; intro d hd; obtain ⟨b, _, rfl⟩ := List.mem_map.mp hd; rfl⟩, findIdx_str h]
  rfl
theorem toPs_int : ∀ l : List Int, toPs (l.map D.int) = some (l.map PyData.int)
  | [] => rfl
  | x :: l => by
    rw [List.map_cons]
    unfold toPs
    rw [toPs_int l]
    rfl
theorem eq_ints_refl (l : List Int) : eqD (.lst (l.map D.int)) (.lst (l.map D.int)) = some (.bl true) := by
  have t : toP (.lst (l.map D.int)) = some (.list (l.map PyData.int)) := by
    unfold toP
    rw [toPs_int]
    rfl
  unfold eqD
  rw [eqB_deep t t (shp_iL l).shaped (shp_iL l).shaped rfl, SeqAt.eqv_refl _ (shp_iL l).1]
  rfl
theorem sublist_idx : ∀ {w p : Names}, w.Nodup → p.Sublist w → (p.map fun x => (w.idxOf x : Int)).Pairwise (· ≤ ·)
  | [], p, _, h => by
    rw [List.sublist_nil.mp h]
    exact .nil
  | y :: w, p, nd, h => by
    have nd2 := (List.nodup_cons.mp nd).2
    have ny := (List.nodup_cons.mp nd).1
    have sh : ∀ {q : Names}, q.Sublist w → (q.map fun x => ((y :: w).idxOf x : Int)) = (q.map fun x => (w.idxOf x : Int)).map (· + 1) := fun {q} hq => by
      rw [List.map_map]
      refine List.map_congr_left fun x hx => ?_
      have hxw := hq.subset hx
      have : (y == x) = false := by
        cases e : y == x with
        | false => rfl
        | true =>
          rw [eq_of_beq e] at ny
          exact absurd hxw ny
      show ((y :: w).idxOf x : Int) = (w.idxOf x : Int) + 1
      rw [List.idxOf_cons, this]
      rfl
    have pw : ∀ {q : Names}, q.Sublist w → (q.map fun x => ((y :: w).idxOf x : Int)).Pairwise (· ≤ ·) := fun {q} hq => by
      rw [sh hq]
      refine List.pairwise_map.mpr ((sublist_idx nd2 hq).imp fun h => ?_)
      omega
    cases h with
    | cons _ h => exact pw h
    | cons_cons _ h =>
      rw [List.map_cons]
      refine List.pairwise_cons.mpr ⟨fun a ha => ?_, pw h⟩
      obtain ⟨x, _, rfl⟩ := List.mem_map.mp ha
      rw [List.idxOf_cons, beq_self_eq_true]
      exact Int.natCast_nonneg _
theorem sortI_sorted {l : List Int} (h : l.Pairwise (· ≤ ·)) : sortI l = l := List.mergeSort_of_pairwise (h.imp fun {a b} hab => decide_eq_true hab)
theorem V_kept_eq (p w : Names) (nd : w.Nodup) (hs : p.Sublist w) (hl : w.length ≤ 60) : V__law_kept [.fz (dN p), .fz (dN w)] = .done (.rt (.fz (.bl true)) [.fz (dN p), .fz (dN w)]) := by
  have hpl := hs.length_le
  rw [V__law_kept_s]
  unfold v__law_kept
  walk_at "v"
  rw [if_pos (Nat.le_of_lt (small1000 (by rw [List.length_map]; omega))), comps_mp (enc := D.str) (f := fun x => D.int (w.idxOf x : Nat)) (t := fun x => decide (x ∈ w)) ?hh]
  case hh =>
    intro x hx
    refine ⟨_, rfl, ?_, fun _ => ?_⟩
    · walk_at "v"
    · walk_at "v"
      rw [index_dN (hs.subset hx)]
  rw [List.filter_eq_self.mpr fun x hx => decide_eq_true (hs.subset hx), show (p.map fun x => D.int (w.idxOf x : Nat)) = (p.map fun x => (w.idxOf x : Int)).map D.int by rw [List.map_map]; rfl]
  walk_at "v"
  rw [List.length_map, List.length_map, decide_eq_true rfl]
  walk_at "v"
  rw [show gsortedI [ol 0 ((p.map fun x => (w.idxOf x : Int)).map D.int)] = some (.f (.lst ((p.map fun x => (w.idxOf x : Int)).map D.int))) by
    unfold gsortedI
    simp only [kids_ol, intsD_map, List.length_map]
    rw [if_pos (by omega), sortI_sorted (sublist_idx nd hs)]]
  walk_at "v"
  rw [show fOp eqD (ol 0 ((p.map fun x => (w.idxOf x : Int)).map D.int)) (.f (.lst ((p.map fun x => (w.idxOf x : Int)).map D.int))) = some (.f (.bl true)) by
    unfold fOp
    rw [ol_toD]
    show (eqD (.lst _) (.lst _)).map N.f = _
    rw [eq_ints_refl]
    rfl]
  walk_at "v"

def isN (r : Sl) (l : Names) : Prop := r = .fz (dN l) ∨ r = .ow (ol 0 (l.map D.str))
theorem gcat_nn {x y : N} {l m : Names} (hx : kidsL x = some (l.map D.str)) (hy : kidsL y = some (m.map D.str)) (h : l.length + m.length ≤ 1000) : gcat x y = some (.f (dN (l ++ m))) := by
  unfold gcat
  rw [hx, hy]
  show (if (l.map D.str).length + (m.map D.str).length ≤ sizeLine then _ else none) = _
  rw [if_pos (by show _ ≤ 2 ^ 24; rw [List.length_map, List.length_map]; omega), ← List.map_append]
  rfl
theorem nO_dN {l : Names} {e : Env} : nO (some (.f (dN l))) e = .done (.ok (.ow (ol 0 (l.map D.str))) e) := rfl
theorem ancN_last (B : Str → Names) : ∀ (n : Nat) (f : Names), ancN B (n + 1) f = ancRound B (ancN B n f)
  | 0, f => rfl
  | n + 1, f => ancN_last B n (ancRound B f)
section
variable {kvs : List (Key × D)} {B : Str → Names} {dom : Names}
theorem anc_in (hd : ∀ o ∈ dom, ∀ b ∈ B o, b ∈ dom) : ∀ (n : Nat) {f : Names}, (∀ y ∈ f, y ∈ dom) → ∀ y ∈ ancN B n f, y ∈ dom := fun n _ h => anc_sub hd n h
theorem rng_nth {lo : Int} {n i : Nat} {d : D} (h : (rng lo n)[i]? = some d) : i < n ∧ d = .int (lo + (i : Nat)) := by
  unfold rng at h
  rw [List.getElem?_map] at h
  by_cases hi : i < n
  · rw [List.getElem?_range hi] at h
    cases h
    exact ⟨hi, rfl⟩
  · rw [List.getElem?_eq_none (by rw [List.length_range]; omega)] at h
    cases h
theorem rng_length {lo : Int} {n : Nat} : (rng lo n).length = n := by
  unfold rng
  rw [List.length_map, List.length_range]
theorem anc_ok (tb : TabD kvs B dom) (hB : ∀ o ∈ dom, (B o).Nodup) (hd : ∀ o ∈ dom, ∀ b ∈ B o, b ∈ dom) (hk : kvs.length ≤ 100) {x : Str} (hx : x ∈ dom) : (V__law_ancestors [.fz (.dic kvs), .fz (.str x)]).All fun o => ∃ r, isN r (ancN B kvs.length [x]) ∧ o = .rt r [.fz (.dic kvs), .fz (.str x)] := by
  have sm := tb.sm
  rw [V__law_ancestors_s]
  unfold v__law_ancestors
  walk_at "v"
  rw [rngOf_i (by omega) (by omega)]
  walk_at "v"
  refine all_finF (all_thS (forL_all (fun i e => ∃ r, isN r (ancN B i [x]) ∧ e = [some (.fz (.dic kvs)), none, some r, none, none, none]) (k := 0) ⟨_, .inr rfl, rfl⟩ ?_ ?_))
  · rintro i d _ hdi ⟨r, hr, rfl⟩
    obtain ⟨hi, rfl⟩ := rng_nth hdi
    rw [Nat.zero_add] at hr
    have fin := anc_in hd i (f := [x]) fun y hy => by rw [List.mem_singleton.mp hy]; exact hx
    have fnd := anc_nd hB hd i (f := [x]) (fun y hy => by rw [List.mem_singleton.mp hy]; exact hx) (by simp)
    rw [Nat.zero_add]
    have hfz : Env.fz [some (.fz (.dic kvs)), none, some r, some (.fz (.int (0 + (i : Nat)))), none, none] 2 = [some (.fz (.dic kvs)), none, some (.fz (dN (ancN B i [x]))), some (.fz (.int (0 + (i : Nat)))), none, none] := by
      rcases hr with rfl | rfl
      · rfl
      · walk_at "v"
        rfl
    unfold vb__law_ancestors_0
    rw [show stN 3 (.int (0 + (i : Nat))) [some (.fz (.dic kvs)), none, some r, none, none, none] = some [some (.fz (.dic kvs)), none, some r, some (.fz (.int (0 + (i : Nat)))), none, none] from rfl, oT_some]
    rw [vFz_ap, hfz]
    walk_at "v"
    refine all_turnW (forL_all (fun j e => ∃ r, isN r (((ancN B i [x]).take j).foldl (ancStep B) (ancN B i [x])) ∧ e = [some (.fz (.dic kvs)), none, some r, some (.fz (.int (0 + (i : Nat)))), none, none]) (k := 0) ⟨_, .inl rfl, rfl⟩ ?_ ?_)
    · rintro j d _ hdj ⟨r2, hr2, rfl⟩
      rw [Nat.zero_add] at hr2
      rw [List.getElem?_map] at hdj
      cases hy : (ancN B i [x])[j]? with
      | none =>
        rw [hy] at hdj
        cases hdj
      | some y =>
        rw [hy] at hdj
        cases hdj
        have hyd := fin y (List.mem_of_getElem? hy)
        have hBy := tb.ex y hyd
        have few := tb.few y hyd
        generalize hf : ((ancN B i [x]).take j).foldl (ancStep B) (ancN B i [x]) = f at hr2
        have fd : ∀ z ∈ f, z ∈ dom := fun z hz => by
          rw [← hf] at hz
          rcases fold_mem.mp hz with hz | ⟨o, ho, hz⟩
          · exact fin z hz
          · exact hd o (fin o (List.mem_of_mem_take ho)) z hz
        have fn : f.Nodup := by
          rw [← hf]
          exact fold_nd hB (fun o ho => fin o (List.mem_of_mem_take ho)) fnd
        have flen := nodup_le fn fd
        obtain ⟨m2, hnode, hnin, hkid⟩ : ∃ m2, nodeO (some (some r2)) = some m2 ∧ (∀ b, fOp ninD (.f (.str b)) m2 = some (.f (.bl (!decide (b ∈ f))))) ∧ kidsL m2 = some (f.map D.str) := by
          rcases hr2 with rfl | rfl
          · exact ⟨_, rfl, fun _ => nin_dN, rfl⟩
          · exact ⟨_, rfl, fun _ => nin_olN, kids_ol _ _⟩
        unfold vb__law_ancestors_1
        walk_at "v"
        rw [hnode, dget_f hBy]
        walk_at "v"
        rw [if_pos (Nat.le_of_lt (small1000 (by rw [List.length_map]; omega))), comps_fil (enc := D.str) (t := fun b => !decide (b ∈ f)) ?hh]
        case hh =>
          intro b hb
          refine ⟨_, rfl, ?_, ?_⟩
          · walk_at "v"
            rw [hnode]
            walk_at "v"
            rw [hnin]
            walk_at "v"
          · walk_at "v"
        walk_at "v"
        rw [gcat_nn hkid rfl (by have := List.length_filter_le (fun b => !decide (b ∈ f)) (B y); omega), nO_dN]
        walk_at "v"
        refine ⟨_, .inr rfl, ?_⟩
        rw [show ((ancN B i [x]).take (j + 1)).foldl (ancStep B) (ancN B i [x]) = f ++ (B y).filter fun b => !decide (b ∈ f) by rw [take_snoc hy, List.foldl_append, hf]; rfl]
    · rintro _ ⟨r2, hr2, rfl⟩
      rw [Nat.zero_add, List.length_map, List.take_length] at hr2
      walk_at "v"
      refine ⟨r2, ?_, rfl⟩
      rw [ancN_last]
      exact hr2
  · rintro _ ⟨r, hr, rfl⟩
    rw [Nat.zero_add, rng_length] at hr
    walk_at "v"
    rcases hr with rfl | rfl
    · walk_at "v"
      exact ⟨_, .inl rfl, rfl⟩
    · walk_at "v"
      exact ⟨_, .inr rfl, rfl⟩
end

/-- rows that are data -/
def SkR (rows : List Names) : Prop := ∀ r ∈ rows, ∀ x ∈ r, PyData.strOk x = true
theorem ne_nilN {l : Names} (h : ∀ x ∈ l, PyData.strOk x = true) : fOp neD (.f (dN l)) (.f (.lst [])) = some (.f (.bl (!l.isEmpty))) := by
  show (neD (dN l) (.lst [])).map N.f = _
  rw [neD_nil h]
  rfl
theorem distF_app : ∀ (xs ys acc : Names), distF acc (xs ++ ys) = distF (distF acc xs) ys
  | [], _, _ => rfl
  | x :: xs, ys, acc => distF_app xs ys _
/-- all names of the rows, once -/
def namesR (rows : List Names) : Names := distF [] rows.flatten
theorem mem_namesR {rows : List Names} {x : Str} : x ∈ namesR rows ↔ ∃ r ∈ rows, x ∈ r := by
  unfold namesR
  rw [distF_mem]
  simp
theorem namesR_nd (rows : List Names) : (namesR rows).Nodup := distF_nd (by simp)
def isR (r : Sl) (rs : List Names) : Prop := r = .fz (dR rs) ∨ r = .ow (ol 0 (rs.map dN))
theorem isR.node {r : Sl} {rs : List Names} (h : isR r rs) : ∃ m, nodeO (some (some r)) = some m ∧ kidsL m = some (rs.map dN) := by
  rcases h with rfl | rfl
  · exact ⟨_, rfl, rfl⟩
  · exact ⟨_, rfl, kids_ol _ _⟩
theorem isN.node {r : Sl} {l : Names} (h : isN r l) : ∃ m, nodeO (some (some r)) = some m ∧ kidsL m = some (l.map D.str) := by
  rcases h with rfl | rfl
  · exact ⟨_, rfl, rfl⟩
  · exact ⟨_, rfl, kids_ol _ _⟩
theorem stuck_ok' (rows : List Names) (hs : SkR rows) (hl : rows.length ≤ 100) (hr : ∀ r ∈ rows, r.length ≤ 100) (hn : (namesR (full rows)).length ≤ 100) : (V__law_stuck [.fz (dR rows)]).All fun o => ∃ r, isN r (stuckN (namesR (full rows)).length (namesR (full rows)) (full rows)) ∧ o = .rt r [.fz (dR rows)] := by
  have hs2 : SkR (full rows) := fun r hr => hs r (List.mem_filter.mp hr).1
  have hr2 : ∀ r ∈ full rows, r.length ≤ 100 := fun r h => hr r (List.mem_filter.mp h).1
  have hl2 : (full rows).length ≤ 100 := Nat.le_trans (full_len rows) hl
  rw [V__law_stuck_s]
  unfold v__law_stuck
  walk_at "v"
  rw [if_pos (Nat.le_of_lt (small1000 (by rw [List.length_map]; omega))), comps_fil (enc := dN) (t := fun r : Names => !r.isEmpty) ?hh]
  case hh =>
    intro r hr
    refine ⟨_, rfl, ?_, ?_⟩
    · walk_at "v"
      rw [ne_nilN (hs r hr)]
      walk_at "v"
    · walk_at "v"
  rw [show (rows.filter fun r : Names => !r.isEmpty) = full rows from rfl]
  walk_at "v"
  generalize hF : full rows = F at *
  refine all_finF (all_thS (forL_all (fun i e => e = [some (.fz (dR F)), some (.ow (ol 0 ((namesR (F.take i)).map D.str))), none, none, none, none]) (k := 0) rfl ?_ ?_))
  · rintro i d _ hdi rfl
    rw [Nat.zero_add, List.getElem?_map] at *
    cases hy : F[i]? with
    | none =>
      rw [hy] at hdi
      cases hdi
    | some r =>
      rw [hy] at hdi
      cases hdi
      have hrl := hr2 r (List.mem_of_getElem? hy)
      unfold vb__law_stuck_0
      walk_at "v"
      have ht : namesR (F.take (i + 1)) = distF (namesR (F.take i)) r := by
        unfold namesR
        rw [take_snoc hy, List.flatten_append, distF_app]
        show distF _ (r ++ []) = _
        rw [List.append_nil]
      have hsub : ∀ j, distF (namesR (F.take i)) (r.take j) ⊆ namesR F := fun j x hx => by
        refine mem_namesR.mpr ?_
        rcases distF_mem.mp hx with hx | hx
        · obtain ⟨q, hq, hxq⟩ := mem_namesR.mp hx
          exact ⟨q, List.mem_of_mem_take hq, hxq⟩
        · exact ⟨r, List.mem_of_getElem? hy, List.mem_of_mem_take hx⟩
      refine all_turnW (forL_all (fun j e => e = [some (.fz (dR F)), some (.ow (ol 0 ((distF (namesR (F.take i)) (r.take j)).map D.str))), some (.fz (dN r)), none, none, none]) (k := 0) rfl ?_ ?_)
      · rintro j d _ hdj rfl
        rw [Nat.zero_add, List.getElem?_map] at *
        cases hx : r[j]? with
        | none =>
          rw [hx] at hdj
          cases hdj
        | some x =>
          rw [hx] at hdj
          cases hdj
          have hlen := nodup_le (distF_nd (namesR_nd _)) (hsub j)
          have hnext : distF (namesR (F.take i)) (r.take (j + 1)) = if x ∈ distF (namesR (F.take i)) (r.take j) then distF (namesR (F.take i)) (r.take j) else distF (namesR (F.take i)) (r.take j) ++ [x] := by
            rw [take_snoc hx, distF_app]
            rfl
          unfold vb__law_stuck_1
          walk_at "v"
          generalize distF (namesR (F.take i)) (r.take j) = f at *
          by_cases hm : x ∈ f
          · simp only [hm, decide_true]
            walk_at "v"
            rw [hnext, if_pos hm]
          · simp only [hm, decide_false]
            walk_at "v"
            rw [if_pos (small1000 (by rw [List.length_map]; omega))]
            walk_at "v"
            rw [hnext, if_neg hm, List.map_append]
            rfl
      · rintro _ rfl
        rw [Nat.zero_add, List.length_map, List.take_length]
        walk_at "v"
        rw [ht]
  · rintro _ rfl
    rw [Nat.zero_add, List.length_map, List.take_length]
    walk_at "v"
    rw [List.length_map, rngOf_i (by omega) (by omega)]
    walk_at "v"
    generalize hN : namesR F = ns at *
    have hnd : ns.Nodup := hN ▸ namesR_nd F
    refine all_thS (forL_all (fun i e => ∃ o0 o ns' rs', isR o0 rs' ∧ isN o ns' ∧ e = [some o0, some o, none, none, none, none] ∧ rs'.length ≤ 100 ∧ ns'.length ≤ 100 ∧ (∀ r ∈ rs', r.length ≤ 100) ∧ stuckN (ns.length - i) ns' rs' = stuckN ns.length ns F) (k := 0) ⟨_, _, ns, F, .inl rfl, .inr rfl, rfl, hl2, hn, hr2, rfl⟩ ?_ ?_)
    · rintro i d _ hdi ⟨o0, o, ns', rs', ho0, ho, rfl, h1, h2, h3, h4⟩
      obtain ⟨hi, rfl⟩ := rng_nth hdi
      rw [Nat.zero_add] at h4 ⊢
      obtain ⟨m0, hm0, hk0⟩ := ho0.node
      obtain ⟨m1, hm1, hk1⟩ := ho.node
      unfold vb__law_stuck_2
      walk_at "v"
      rw [hm1]
      walk_at "v"
      rw [hk1]
      walk_at "v"
      rw [if_pos (Nat.le_of_lt (small1000 (by rw [List.length_map]; omega))), comps_fil (enc := D.str) (t := fun x => !barredBy rs' x) ?hh]
      case hh =>
        intro x hx
        refine ⟨_, rfl, ?_, ?_⟩
        · walk_at "v"
          rw [hm0]
          walk_at "v"
          rw [hk0]
          walk_at "v"
          rw [if_pos (Nat.le_of_lt (small1000 (by rw [List.length_map]; omega))), comps_all (enc := dN) (f := fun r : Names => D.bl (decide (x ∈ r.drop 1))) ?hh2]
          case hh2 =>
            intro r hr
            refine ⟨_, rfl, ?_⟩
            walk_at "v"
          rw [show (rs'.map fun o : Names => D.bl (decide (x ∈ o.drop 1))) = (rs'.map fun o : Names => decide (x ∈ o.drop 1)).map D.bl by rw [List.map_map]; rfl]
          walk_at "v"
          rw [show decide (true ∈ rs'.map fun o : Names => decide (x ∈ o.drop 1)) = barredBy rs' x by
            cases hb : barredBy rs' x with
            | true =>
              obtain ⟨r, hr, hxr⟩ := barred_iff.mp hb
              exact decide_eq_true (List.mem_map.mpr ⟨r, hr, decide_eq_true hxr⟩)
            | false =>
              refine decide_eq_false fun z => ?_
              obtain ⟨r, hr, hxr⟩ := List.mem_map.mp z
              rw [barred_iff.mpr ⟨r, hr, of_decide_eq_true hxr⟩] at hb
              cases hb]
        · walk_at "v"
      rw [show (ns'.filter fun x => !barredBy rs' x) = freeN rs' ns' from rfl]
      walk_at "v"
      rw [hm1]
      walk_at "v"
      rw [hk1]
      walk_at "v"
      rw [if_pos (Nat.le_of_lt (small1000 (by rw [List.length_map]; omega))), comps_fil (enc := D.str) (t := fun x => !decide (x ∈ freeN rs' ns')) ?hh]
      case hh =>
        intro x hx
        refine ⟨_, rfl, ?_, ?_⟩
        · walk_at "v"
        · walk_at "v"
      rw [show (ns'.filter fun x => !decide (x ∈ freeN rs' ns')) = lessN (freeN rs' ns') ns' from rfl]
      walk_at "v"
      rw [hm0]
      walk_at "v"
      rw [hk0]
      walk_at "v"
      rw [if_pos (Nat.le_of_lt (small1000 (by rw [List.length_map]; omega))), comps_all (enc := dN) (f := fun r : Names => dN (lessN (freeN rs' ns') r)) ?hh]
      case hh =>
        intro r hr
        refine ⟨_, rfl, ?_⟩
        walk_at "v"
        rw [if_pos (Nat.le_of_lt (small1000 (by rw [List.length_map]; exact Nat.le_trans (h3 r hr) (by decide)))), comps_fil (enc := D.str) (t := fun x => !decide (x ∈ freeN rs' ns')) ?hh2]
        case hh2 =>
          intro x hx
          refine ⟨_, rfl, ?_, ?_⟩
          · walk_at "v"
          · walk_at "v"
        rfl
      walk_at "v"
      refine ⟨_, _, lessN (freeN rs' ns') ns', rs'.map (lessN (freeN rs' ns')), .inr (by rw [List.map_map]; rfl), .inr rfl, rfl, ?_, ?_, ?_, ?_⟩
      · rw [List.length_map]
        exact h1
      · exact Nat.le_trans (List.length_filter_le _ _) h2
      · intro r hr
        obtain ⟨r0, hr0, rfl⟩ := List.mem_map.mp hr
        exact Nat.le_trans (List.length_filter_le _ _) (h3 r0 hr0)
      · rw [← h4, show ns.length - i = (ns.length - (i + 1)) + 1 by omega]
        rfl
    · rintro _ ⟨o0, o, ns', rs', ho0, ho, rfl, h1, h2, h3, h4⟩
      rw [rng_length, Nat.zero_add, Nat.sub_self] at h4
      have h4 : ns' = _ := h4
      rw [← h4]
      rcases ho with rfl | rfl <;> (walk_at "v"; first | exact ⟨_, .inl rfl, rfl⟩ | exact ⟨_, .inr rfl, rfl⟩)

theorem eq_nilN {m : N} {l : Names} (hk : kidsL m = some (l.map D.str)) (h : ∀ x ∈ l, PyData.strOk x = true) : fOp eqD m (.f (.lst [])) = some (.f (.bl l.isEmpty)) := by
  have hd : m.toD = dN l := by
    unfold kidsL at hk
    split at hk
    · cases hk
      rfl
    · rw [fds_inv hk]
      exact ol_toD 0 _
    · cases hk
  unfold fOp
  rw [hd]
  show (eqD (dN l) (dN [])).map N.f = _
  rw [eqD_names h fun _ z => (by cases z)]
  cases l <;> rfl
theorem ne_names {l m : Names} (h : ∀ x ∈ l, PyData.strOk x = true) (h2 : ∀ x ∈ m, PyData.strOk x = true) : fOp neD (.f (dN l)) (.f (dN m)) = some (.f (.bl (!decide (l = m)))) := by
  show (neD (dN l) (dN m)).map N.f = _
  rw [neD_names h h2]
  rfl
theorem in_node {m : N} {l : Names} {x : Str} (hk : kidsL m = some (l.map D.str)) : fOp inD (.f (.str x)) m = some (.f (.bl (decide (x ∈ l)))) := by
  unfold kidsL at hk
  split at hk
  · cases hk
    exact in_dN
  · rw [fds_inv hk]
    exact in_olN (ad := 0)
  · cases hk
theorem nin_node {m : N} {l : Names} {x : Str} (hk : kidsL m = some (l.map D.str)) : fOp ninD (.f (.str x)) m = some (.f (.bl (!decide (x ∈ l)))) := by
  unfold kidsL at hk
  split at hk
  · cases hk
    exact nin_dN
  · rw [fds_inv hk]
    exact nin_olN (ad := 0)
  · cases hk
theorem sorted_dN {l : Names} (h : l.length < 64) : gsortedS [.f (dN l)] = some (.f (dN (sortS l))) := by
  show (match strsD (l.map D.str) with | some l => if l.length < 64 then some (N.f (dN (sortS l))) else none | none => none) = _
  rw [strsD_map]
  exact if_pos h
theorem full_full (R : List Names) : full (full R) = full R := by
  unfold full
  rw [List.filter_filter]
  simp
theorem merge_full (R : List Names) : merge (full R) = merge R := by
  unfold merge
  rw [full_full, tot_full]
theorem stuckN_sub : ∀ (n : Nat) {ns : Names} {rs : List Names} {y : Str}, y ∈ stuckN n ns rs → y ∈ ns
  | 0, _, _, _, h => h
  | n + 1, _, _, _, h => (List.mem_filter.mp (stuckN_sub n h)).1
theorem res_err (e : Names) : resV (.error e) = (false, e) := rfl
theorem res_ok (e : Names) : resV (.ok e) = (true, e) := rfl
section
variable {kvs od' : List (Key × D)} {B : Str → Names} {ρ : Str → Nat} {dom : Names}
def nextO (B : Str → Names) (ρ : Str → Nat) (x : Str) (orders : List (Key × D)) : List (Key × D) := match linR B ρ x with
  | .ok l => putD orders (.inr x) (dN l)
  | .error _ => orders
theorem right_ok (tb : TabD kvs B dom) (dag : Dag B ρ dom) (hB : ∀ o ∈ dom, (B o).Nodup) (hsk : ∀ y ∈ dom, PyData.strOk y = true) (hk : kvs.length ≤ 100) (hkd : ∀ y ∈ dom, ρ y ≤ kvs.length) {x : Str} (hx : x ∈ dom) (hr : ρ x < 20) {orders : List (Key × D)} (hdn : DoneD orders B ρ dom) (hall : ∀ b ∈ B x, ∀ l, linR B ρ b = .ok l → dfind orders (.inr b) = some (dN l)) :
    (V__law_right [.fz (.dic kvs), .fz (.str x), .ow (od 0 orders)]).All fun o => o = .rt (.fz (.bl true)) [.fz (.dic kvs), .fz (.str x), .ow (od 0 (nextO B ρ x orders))] := by
  have hBx := tb.ex x hx
  have few := tb.few x hx
  have sm := tb.sm
  have hol := hdn.len
  rw [V__law_right_s]
  unfold v__law_right
  walk_at "v"
  refine all_finF (all_thS (all_bS (all_noEx (all_callG (T.all_mono (fun o ho => ?_) (asked_ok tb dag hx hr))))))
  subst ho
  unfold dRes
  walk_at "v"
  rw [dget_f hBx]
  walk_at "v"
  rw [if_pos (Nat.le_of_lt (small1000 (by rw [List.length_map]; omega))), comps_all (enc := D.str) (f := fun b => D.bl (!(dfind orders (.inr b)).isSome)) ?hh]
  case hh =>
    intro b hb
    refine ⟨_, rfl, ?_⟩
    walk_at "v"
    rw [dnin_od]
  rw [show ((B x).map fun b => D.bl (!(dfind orders (.inr b)).isSome)) = ((B x).map fun b => !(dfind orders (.inr b)).isSome).map D.bl by rw [List.map_map]; rfl]
  walk_at "v"
  by_cases hm : true ∈ (B x).map fun b => !(dfind orders (.inr b)).isSome
  · rw [decide_eq_true hm]
    walk_at "v"
    obtain ⟨b, hb, hbn⟩ := List.mem_map.mp hm
    have hbn : dfind orders (.inr b) = none := by
      cases h : dfind orders (.inr b) with
      | none => rfl
      | some v =>
        rw [h] at hbn
        cases hbn
    have hlin : ∃ e, linR B ρ x = .error e := by
      cases h : linR B ρ x with
      | error e => exact ⟨e, rfl⟩
      | ok l =>
        obtain ⟨ls, q, h1, _, _⟩ := linR_ok dag hx h
        obtain ⟨l2, _, h2⟩ := linAll_mem h1 b hb
        rw [hall b hb l2 h2] at hbn
        cases hbn
    obtain ⟨e, he⟩ := hlin
    unfold nextO
    rw [he]
    rfl
  · rw [decide_eq_false hm]
    walk_at "v"
    have hhave : ∀ b ∈ B x, ∃ l, linR B ρ b = .ok l ∧ dfind orders (.inr b) = some (dN l) := fun b hb => by
      cases h : dfind orders (.inr b) with
      | none => exact absurd (List.mem_map.mpr ⟨b, hb, by rw [h]; rfl⟩) hm
      | some v =>
        obtain ⟨_, l, rfl, hl⟩ := hdn.val b v h
        exact ⟨l, hl, rfl⟩
    obtain ⟨g, hgok⟩ : ∃ g : Str → Names, ∀ y ∈ B x, linR B ρ y = .ok (g y) := by
      refine ⟨fun y => match linR B ρ y with
        | .ok l => l
        | .error _ => [], fun y hy => ?_⟩
      obtain ⟨l, hl, _⟩ := hhave y hy
      simp only [hl]
    have hgv : ∀ y ∈ B x, dfind orders (.inr y) = some (dN (g y)) := fun y hy => by
      obtain ⟨l, hl, h2⟩ := hhave y hy
      rw [hgok y hy] at hl
      cases hl
      exact h2
    have hla := linAll_ok hgok
    have heq := linR_eq dag hx
    rw [hla] at heq
    dsimp only at heq
    have glen : ∀ y ∈ B x, (g y).length ≤ 30 := fun y hy => Nat.le_trans (linR_len dag (dag.sub x hx y hy).1 (hgok y hy)) tb.sm
    rw [dget_f hBx]
    walk_at "v"
    rw [if_pos (Nat.le_of_lt (small1000 (by rw [List.length_map]; omega))), comps_all (enc := D.str) (f := fun y => dN (g y)) ?hh]
    case hh =>
      intro y hy
      refine ⟨_, rfl, ?_⟩
      walk_at "v"
      rw [dget_od (hgv y hy)]
    walk_at "v"
    have hrows : gcat (.f (.lst ((B x).map fun y => dN (g y)))) (.f (.lst [dN (B x)])) = some (.f (dR ((B x).map g ++ [B x]))) := by
      show (if ((B x).map fun y => dN (g y)).length + 1 ≤ sizeLine then some (N.f (.lst (((B x).map fun y => dN (g y)) ++ [dN (B x)]))) else none) = _
      rw [if_pos (by show _ ≤ 2 ^ 24; rw [List.length_map]; omega)]
      congr 3
      rw [List.map_append, List.map_map]
      rfl
    rw [hrows]
    walk_at "v"
    generalize hR : (B x).map g ++ [B x] = R at *
    have hRk : ∀ r ∈ R, (∀ y ∈ r, y ∈ dom) ∧ r.length ≤ 30 := fun r hr => by
      rw [← hR] at hr
      rcases List.mem_append.mp hr with hr | hr
      · obtain ⟨y, hy, rfl⟩ := List.mem_map.mp hr
        exact ⟨fun z hz => ((linR_mem dag (ρ y + 1) (dag.sub x hx y hy).1 (Nat.lt_succ_self _) (hgok y hy)).2 z hz).1, glen y hy⟩
      · rw [List.mem_singleton.mp hr]
        exact ⟨fun b hb => (dag.sub x hx b hb).1, by omega⟩
    have hRl : R.length ≤ 100 := by
      rw [← hR, List.length_append, List.length_map]
      show _ + 1 ≤ _
      omega
    have hRs : SkR R := fun r hr y hy => hsk y ((hRk r hr).1 y hy)
    have hnm : ∀ y ∈ namesR (full R), y ∈ dom := fun y hy => by
      obtain ⟨r, hr, hy⟩ := mem_namesR.mp hy
      exact (hRk r (List.mem_filter.mp hr).1).1 y hy
    have hnl := nodup_le (namesR_nd (full R)) hnm
    refine all_thS (all_bS (all_noEx (all_callG (T.all_mono (fun o ho => ?_) (stuck_ok' R hRs hRl (fun r hr => Nat.le_trans (hRk r hr).2 (by decide)) (by omega))))))
    obtain ⟨rS, hrS, rfl⟩ := ho
    obtain ⟨mS, hmS, hkS⟩ := hrS.node
    have hns : ∀ z, (∃ r ∈ full R, z ∈ r) → z ∈ namesR (full R) := fun z h => mem_namesR.mpr h
    generalize hS : stuckN (namesR (full R)).length (namesR (full R)) (full R) = S at *
    have hSd : ∀ y ∈ S, y ∈ dom := fun y hy => hnm y (stuckN_sub _ (by rw [hS]; exact hy))
    have hlk : dfind orders (.inr x) = dfind orders (.inr x) := rfl
    cases hmg : merge R with
    | error e =>
      rw [hmg] at heq
      dsimp only at heq
      unfold nextO
      rw [heq]
      obtain ⟨hne, hin⟩ := stuck_err (merge_full R ▸ hmg) (n := (namesR (full R)).length) hns
      rw [hS] at hin
      have hSn : S.isEmpty = false := by
        cases e with
        | nil => exact absurd rfl hne
        | cons a e =>
          cases S with
          | nil => cases hin a List.mem_cons_self
          | cons _ _ => rfl
      rw [res_err]
      walk_at "v"
      rw [hmS]
      walk_at "v"
      rw [eq_nilN hkS (fun y hy => hsk y (hSd y hy)), hSn]
      walk_at "v"
      have hed : ∀ y ∈ e, y ∈ dom := fun y hy => hSd y (hin y hy)
      have hel : e.length ≤ dom.length := (told_len dag hx).2 e heq
      rw [ne_nilN (fun y hy => hsk y (hed y hy)), show e.isEmpty = false by cases e with
        | nil => exact absurd rfl hne
        | cons _ _ => rfl]
      walk_at "v"
      rw [if_pos (Nat.le_of_lt (small1000 (by rw [List.length_map]; omega))), comps_all (enc := D.str) (f := fun y => D.bl (decide (y ∈ S))) ?hh]
      case hh =>
        intro y hy
        refine ⟨_, rfl, ?_⟩
        walk_at "v"
        rw [hmS]
        walk_at "v"
        rw [in_node hkS]
      rw [show (e.map fun b => D.bl (decide (b ∈ S))) = (e.map fun b => decide (b ∈ S)).map D.bl by rw [List.map_map]; rfl]
      walk_at "v"
      rw [decide_eq_false (p := false ∈ List.map (fun b => decide (b ∈ S)) e) fun z => ?_]
      · rfl
      · obtain ⟨y, hy, z⟩ := List.mem_map.mp z
        rw [decide_eq_true (hin y hy)] at z
        cases z
    | ok q =>
      rw [hmg] at heq
      dsimp only at heq
      unfold nextO
      rw [heq]
      have hSe : S = [] := by
        rw [← hS]
        refine stuck_ok (merge_mem hmg).1 _ (namesR_nd _) (Nat.le_refl _) (fun z hz => ?_) fun r hr => ⟨merge_sub hmg r (List.mem_filter.mp hr).1, fun z hz => hns z ⟨r, hr, hz⟩⟩
        obtain ⟨r, hr, hz⟩ := mem_namesR.mp hz
        exact (merge_sub hmg r (List.mem_filter.mp hr).1).subset hz
      rw [res_ok]
      walk_at "v"
      rw [hmS]
      walk_at "v"
      rw [eq_nilN hkS (fun y hy => hsk y (hSd y hy)), hSe, show List.isEmpty ([] : Names) = true from rfl]
      walk_at "v"
      obtain ⟨hqn, hqd⟩ := linR_mem dag (ρ x + 1) hx (Nat.lt_succ_self _) heq
      have hql := linR_len dag hx heq
      have hs1 : ∀ y ∈ [x], PyData.strOk y = true := fun y hy => by
        rw [List.mem_singleton.mp hy]
        exact hsk x hx
      rw [show List.take 1 (x :: q) = [x] from rfl, show (D.lst [D.str x]) = dN [x] from rfl, ne_names hs1 hs1, decide_eq_true (rfl : [x] = [x])]
      walk_at "v"
      rw [sorted_dN (by omega), nO_dN]
      walk_at "v"
      have hperm := sortS_perm (anc_perm dag hB hx (hkd x hx) heq)
      have hal : (ancN B kvs.length [x]).length < 64 := by
        rw [← (anc_perm dag hB hx (hkd x hx) heq).length_eq]
        omega
      refine all_thS (all_bS (all_vD (all_vD (all_bO (all_vD (all_noEx (all_callG (T.all_mono (fun o ho => ?_) (anc_ok tb hB (fun o ho b hb => (dag.sub o ho b hb).1) hk hx)))))))))
      obtain ⟨r, hr2, rfl⟩ := ho
      have hwk : ∀ {P : Prop}, P → P := id
      have hsrt : ∀ z, kidsL z = some ((ancN B kvs.length [x]).map D.str) → gsortedS [z] = some (.f (dN (sortS (x :: q)))) := fun z hz => by
        rw [lf_sorted hz hal, hperm]
      have hsrd : ∀ y ∈ sortS (x :: q), PyData.strOk y = true := fun y hy => hsk y (hqd y (sortS_mem.mp hy)).1
      rcases hr2 with rfl | rfl
      all_goals
        walk_at "v"
        rw [hsrt _ rfl]
        walk_at "v"
        rw [show D.lst (List.map D.str (sortS (x :: q))) = dN (sortS (x :: q)) from rfl, ne_names hsrd hsrd, decide_eq_true (rfl : sortS (x :: q) = sortS (x :: q))]
        walk_at "v"
        rw [if_pos (Nat.le_of_lt (small1000 (by rw [List.length_map]; omega))), lcL_all (enc := dN) (f := fun _ => D.bl true) ?hh]
        case hh =>
          intro r hr
          refine ⟨_, .fz (.bl true), [none, some (.fz (.str x)), some (.ow (od 0 orders)), some (.fz (.tup [.bl true, dN (x :: q)])), some (.fz (dR R)), none, none, none, some (.fz (dN r))], rfl, ?_, rfl, rfl⟩
          walk_at "v"
          rw [callG_rt (V_kept_eq r (x :: q) hqn ((merge_sub hmg r hr).cons x) (by omega))]
          walk_at "v"
        rw [show (R.map fun _ => D.bl true) = (R.map fun _ => true).map D.bl by rw [List.map_map]; rfl]
        walk_at "v"
        rw [decide_eq_false (p := false ∈ R.map fun _ => true) fun z => by
          obtain ⟨_, _, z⟩ := List.mem_map.mp z
          cases z]
        walk_at "v"
        rw [show glist [N.f (dN (x :: q))] = some (.f (dN (x :: q))) from rfl, nO_dN]
        walk_at "v"
        rw [if_pos (small1000 (by omega))]
        walk_at "v"
        rfl
end

theorem glistK_od (ad : Addr) {rs : List RW} : glistK [od ad (rs.map kvR)] = some (.f (dN (namesOf rs))) := by
  show (match (od ad (rs.map kvR)).toD with | .dic kvs => some (N.f (.lst (kvs.map fun kv : Key × D => keyOf kv.1))) | _ => none) = _
  rw [od_toD]
  show some (N.f (.lst ((rs.map kvR).map fun kv => keyOf kv.1))) = _
  unfold dN namesOf
  rw [List.map_map, List.map_map]
  rfl
theorem glistK_f {rs : List RW} : glistK [.f (.dic (rs.map kvR))] = some (.f (dN (namesOf rs))) := by
  show some (N.f (.lst ((rs.map kvR).map fun kv => keyOf kv.1))) = _
  unfold dN namesOf
  rw [List.map_map, List.map_map]
  rfl
/-- the rows made so far -/
structure RowsK (rs : List RW) (i : Nat) : Prop where
  ok : RowsOk rs
  nd : ∀ r ∈ rs, r.2.Nodup
  ln : rs.length = i
  nm : ∀ r ∈ rs, ∃ c j, c.length = 1 ∧ j < i ∧ r.1 = numS c j
theorem rngOf_n {k : Nat} (h : k < 1000) : rngOf (.int (k : Nat)) = some (rng 0 k) := rngOf_i (by omega) (by omega)
theorem RowsK.nil : RowsK [] 0 := ⟨.nil, fun _ z => (by cases z), rfl, fun _ z => (by cases z)⟩
theorem ne_olN {ad : Addr} {l : Names} (h : ∀ x ∈ l, PyData.strOk x = true) : fOp neD (ol ad (l.map D.str)) (.f (.lst [])) = some (.f (.bl (!l.isEmpty))) := by
  unfold fOp
  rw [ol_toD]
  show (neD (dN l) (.lst [])).map N.f = _
  rw [neD_nil h]
  rfl
theorem dfind_rows : ∀ {rs : List RW}, (namesOf rs).Nodup → ∀ r ∈ rs, dfind (rs.map kvR) (.inr r.1) = some (dN r.2)
  | q :: rs, nd, r, hr => by
    have h0 : dfind ((q :: rs).map kvR) (.inr r.1) = if (Sum.inr q.1 : Key) = .inr r.1 then some (dN q.2) else dfind (rs.map kvR) (.inr r.1) := by
      show ((kvR q :: rs.map kvR).find? fun kv => decide (kv.1 = .inr r.1)).map Prod.snd = _
      rw [List.find?_cons]
      by_cases e : (Sum.inr q.1 : Key) = .inr r.1
      · rw [if_pos e, show decide ((kvR q).1 = .inr r.1) = true from decide_eq_true e]
        rfl
      · rw [if_neg e, show decide ((kvR q).1 = .inr r.1) = false from decide_eq_false e]
        rfl
    rw [h0]
    rcases List.mem_cons.mp hr with rfl | hr
    · rw [if_pos rfl]
    · rw [if_neg fun e => ?_]
      · exact dfind_rows (List.nodup_cons.mp nd).2 r hr
      · exact (List.nodup_cons.mp nd).1 (List.mem_map.mpr ⟨r, hr, (Sum.inr.inj e).symm⟩)
theorem RowsK.tab {rs : List RW} {i : Nat} (h : RowsK rs i) : TabD (rs.map kvR) (basesOf rs) (namesOf rs) := by
  refine ⟨fun x hx => ?_, ?_, fun x hx => ?_⟩
  · obtain ⟨r, hr, rfl⟩ := List.mem_map.mp hx
    rw [h.ok.bases hr]
    exact dfind_rows h.ok.nd r hr
  · unfold namesOf
    rw [List.length_map]
    have := h.ok.ln
    omega
  · obtain ⟨r, hr, rfl⟩ := List.mem_map.mp hx
    obtain ⟨i, hi⟩ := List.getElem?_of_mem hr
    rw [h.ok.bases hr]
    have := (h.ok.ch i r hi).1
    omega
theorem natOf_n {k : Nat} : natOf (.int (k : Nat)) = some k := by
  show (if (0 : Int) ≤ (k : Int) then some (k : Int).toNat else none) = _
  rw [if_pos (Int.natCast_nonneg k)]
  rfl
theorem law_pure : (v_law (none :: some srcT :: List.replicate 7 none)).All TrueT := by
  show (v_law [none, some srcT, none, none, none, none, none, none, none]).All TrueT
  unfold v_law
  walk_at "v"
  rw [all_draw]
  refine ⟨by decide, by decide, fun n hn0 hn1 => ?_⟩
  obtain ⟨N, hN⟩ := Int.eq_ofNat_of_zero_le (show 0 ≤ 1 + n by omega)
  rw [hN, rngOf_n (by omega)]
  walk_at "v"
  refine all_thS (forL_all (fun i e => ∃ rs, RowsK rs i ∧ e = [none, some srcT, some (.ow (od 0 (rs.map kvR))), none, none, none, none, none, none]) (k := 0) ⟨[], .nil, rfl⟩ ?_ ?_)
  · rintro i d _ hdi ⟨rs, hrs, rfl⟩
    obtain ⟨hi, rfl⟩ := rng_nth hdi
    rw [Nat.zero_add] at hrs ⊢
    have hln := hrs.ln
    have hnn : (namesOf rs).length = i := by
      unfold namesOf
      rw [List.length_map, hln]
    unfold vb_law_0
    walk_at "v"
    rw [glistK_od, nO_dN]
    walk_at "v"
    rw [all_draw]
    refine ⟨by decide, by decide, fun m hm0 hm1 => ?_⟩
    obtain ⟨M, rfl⟩ := Int.eq_ofNat_of_zero_le hm0
    rw [rngOf_n (by omega)]
    walk_at "v"
    refine all_turnW (all_thS (forL_all (fun j e => ∃ rest ch : Names, (rest ++ ch).Perm (namesOf rs) ∧ ch.length ≤ j ∧ e = [none, some srcT, some (.ow (od 0 (rs.map kvR))), some (.fz (.int (0 + (i : Nat)))), some (.ow (ol 0 (rest.map D.str))), some (.ow (ol 0 (ch.map D.str))), none, none, none]) (k := 0) ⟨namesOf rs, [], by rw [List.append_nil], Nat.le_refl _, rfl⟩ ?_ ?_))
    · rintro j d _ hdj ⟨rest, ch, hp, hcl, rfl⟩
      obtain ⟨hj, rfl⟩ := rng_nth hdj
      rw [Nat.zero_add] at hcl ⊢
      have hrest : ∀ y ∈ rest, y ∈ namesOf rs := fun y hy => hp.subset (List.mem_append_left _ hy)
      have hlen := hp.length_eq
      rw [List.length_append, hnn] at hlen
      unfold vb_law_1
      walk_at "v"
      rw [ne_olN (fun y hy => (hrs.ok.sk y (hrest y hy)).1)]
      walk_at "v"
      cases he : List.isEmpty rest with
      | true =>
        walk_at "v"
        exact ⟨rest, ch, hp, Nat.le_succ_of_le hcl, rfl⟩
      | false =>
        have hne : 0 < rest.length := by
          cases rest with
          | nil => cases he
          | cons _ _ => exact Nat.succ_pos _
        walk_at "v"
        rw [all_draw, List.length_map]
        refine ⟨by omega, by omega, fun r hr0 hr1 => ?_⟩
        obtain ⟨k, rfl⟩ := Int.eq_ofNat_of_zero_le hr0
        have hk : k < rest.length := by omega
        rw [natOf_n]
        walk_at "v"
        rw [if_pos (by omega), List.getElem?_map, List.getElem?_eq_getElem hk]
        walk_at "v"
        rw [if_pos (small1000 (by rw [List.length_map]; omega))]
        walk_at "v"
        refine ⟨rest.eraseIdx k, ch ++ [rest[k]], ?_, by rw [List.length_append]; exact Nat.succ_le_succ hcl, by rw [List.map_append, erase_map]; rfl⟩
        refine List.Perm.trans ?_ hp
        have h1 : (rest.eraseIdx k ++ (ch ++ [rest[k]])).Perm ((rest[k] :: rest.eraseIdx k) ++ ch) := by
          rw [← List.append_assoc]
          exact (List.perm_append_singleton _ _).trans (.refl _)
        exact h1.trans ((erase_perm hk).append_right ch)
    · rintro _ ⟨rest, ch, hp, hcl, rfl⟩
      rw [rng_length, Nat.zero_add] at hcl
      walk_at "v"
      rw [all_draw]
      refine ⟨by decide, by decide, fun b hb0 hb1 => ?_⟩
      obtain ⟨cp, hc, hcm⟩ := atI_lt (xs := (Str.ofString "abcdefgh").cps.toList) hb0 (by rw [show (Str.ofString "abcdefgh").cps.toList.length = 8 by decide +kernel]; exact hb1)
      have cl : (⟨#[cp]⟩ : Str).length = 1 := rfl
      have n2 : (Str.ofString (toString (i : Int))).length ≤ 2 := num_len ⟨i, by omega⟩
      have hcp : PyData.strOk (⟨#[cp]⟩ : Str) = true := ok1 (of_decide_eq_true (all_lit (p := fun c => decide (c < 0x110000)) (by decide +kernel) hcm))
      rw [ixS_some (by decide +kernel) hc]
      walk_at "v"
      rw [strI_some (i := i) (by omega)]
      walk_at "v"
      rw [lf_cat (by omega)]
      walk_at "v"
      rw [List.length_map, if_pos (small1000 (by omega))]
      walk_at "v"
      have hnew : numS ⟨#[cp]⟩ i ∉ namesOf rs := fun z => by
        obtain ⟨r, hr, e⟩ := List.mem_map.mp z
        obtain ⟨c, j, hc1, hj, e2⟩ := hrs.nm r hr
        have := numS_inj (hc1.trans cl.symm) (by omega) (by omega) (e2.symm.trans e)
        omega
      have hpn : (rest ++ ch).Nodup := hp.nodup_iff.mpr hrs.ok.nd
      refine ⟨rs ++ [(numS ⟨#[cp]⟩ i, ch)], ⟨hrs.ok.snoc hnew (numS_ok hcp (by omega)) ?_ (by omega) (by omega) fun y hy => hp.subset (List.mem_append_right _ hy), fun r hr => ?_, by rw [List.length_append, hln]; rfl, fun r hr => ?_⟩, ?_⟩
      · have := numS_len (c := ⟨#[cp]⟩) (i := i) (by omega)
        omega
      · rcases List.mem_append.mp hr with hr | hr
        · exact hrs.nd r hr
        · rw [List.mem_singleton.mp hr]
          exact (List.nodup_append.mp hpn).2.1
      · rcases List.mem_append.mp hr with hr | hr
        · obtain ⟨c, j, h1, h2, h3⟩ := hrs.nm r hr
          exact ⟨c, j, h1, Nat.lt_succ_of_lt h2, h3⟩
        · rw [List.mem_singleton.mp hr]
          exact ⟨_, i, cl, Nat.lt_succ_self _, rfl⟩
      · rw [putD_new fun kv hkv e => ?_, List.map_append]
        · rfl
        · obtain ⟨r, hr, rfl⟩ := List.mem_map.mp hkv
          exact hnew (List.mem_map.mpr ⟨r, hr, Sum.inr.inj e⟩)
  · rintro _ ⟨rs, hrs, rfl⟩
    rw [Nat.zero_add, rng_length] at hrs
    walk_at "v"
    rw [glistK_f, nO_dN]
    walk_at "v"
    have tb := hrs.tab
    have dag := hrs.ok.dag
    have hl16 := hrs.ok.ln
    refine all_thS (forL_all (fun i e => ∃ os, DoneD os (basesOf rs) (rankOf rs) (namesOf rs) ∧ (∀ y ∈ (namesOf rs).take i, ∀ l, linR (basesOf rs) (rankOf rs) y = .ok l → dfind os (.inr y) = some (dN l)) ∧ e = [none, none, some (.fz (.dic (rs.map kvR))), none, none, none, none, some (.ow (od 0 os)), none]) (k := 0) ⟨[], .nil, fun _ z => (by cases z), rfl⟩ ?_ ?_)
    · rintro i d _ hdi ⟨os, hos, hall, rfl⟩
      rw [Nat.zero_add] at hall ⊢
      rw [List.getElem?_map] at hdi
      cases hx : (namesOf rs)[i]? with
      | none =>
        rw [hx] at hdi
        cases hdi
      | some x =>
        rw [hx] at hdi
        cases hdi
        have hxm := List.mem_of_getElem? hx
        unfold vb_law_2
        walk_at "v"
        have hbs : ∀ b ∈ basesOf rs x, b ∈ (namesOf rs).take i := fun b hb => by
          unfold namesOf at hx
          rw [List.getElem?_map] at hx
          cases hr : rs[i]? with
          | none =>
            rw [hr] at hx
            cases hx
          | some r =>
            rw [hr] at hx
            cases hx
            rw [hrs.ok.bases (List.mem_of_getElem? hr)] at hb
            unfold namesOf
            rw [← List.map_take]
            exact (hrs.ok.ch i r hr).2 b hb
        refine all_turnW (all_bS (all_bO (all_vD (all_noEx (all_callG (T.all_mono (fun o ho => ?_) (right_ok tb dag (fun o ho => ?_) (fun y hy => (hrs.ok.sk y hy).1) (by rw [List.length_map]; omega) (fun y hy => ?_) hxm (hrs.ok.small hxm) hos fun b hb => hall b (hbs b hb))))))))
        · subst ho
          walk_at "v"
          refine ⟨_, ?_, ?_, rfl⟩
          · unfold nextO
            split
            · rename_i l hl
              exact hos.put hxm hl
            · exact hos
          · intro y hy l hl
            rw [take_snoc hx] at hy
            unfold nextO
            rcases List.mem_append.mp hy with hy | hy
            · split
              · rename_i l2 hl2
                exact grows_put hos hl2 _ _ (hall y hy l hl)
              · exact hall y hy l hl
            · cases List.mem_singleton.mp hy
              rw [hl]
              show dfind (putD os _ (dN l)) _ = _
              rw [dfind_put, if_pos rfl]
        · obtain ⟨r, hr, rfl⟩ := List.mem_map.mp ho
          rw [hrs.ok.bases hr]
          exact hrs.nd r hr
        · obtain ⟨r, hr, rfl⟩ := List.mem_map.mp hy
          obtain ⟨j, hj⟩ := List.getElem?_of_mem hr
          rw [hrs.ok.rank hj, List.length_map]
          exact Nat.le_of_lt (List.getElem?_eq_some_iff.mp hj).1
    · rintro _ ⟨os, hos, hall, rfl⟩
      walk_at "v"
      trivial

theorem ok__law_draw_P (T : Tx K mg) (hP : PF P) : Ok1 P w K mg base "_law_draw" 1 (spP K 2 (CV0 [] V_draw)) := Ok1.imp (ok__law_draw T hP) fun _ _ _ _ h => draw_sp (spP_imp cv0_draw h)
theorem ok__law_source_P (T : Tx K mg) (hP : PF P) : Ok1 P w K mg base "_law_source" 1 (spP K 1 (CSource K)) := Ok1.imp (ok__law_source T hP) fun _ _ _ _ h => source_sp h
theorem ok_distinct (T : Tx K mg) (hP : PF P) : Ok1 P w K mg base "distinct" 1 (spP K 1 (CV0 [] V_distinct)) := by
  obtain ⟨fd, F⟩ := T.F_distinct

  refine ok1_of F T.g_distinct sc_distinct (fun vs H Q E h => spP_len h) (fun _ _ _ _ _ _ us hl => match us, hl with | [_], _ => rfl) (fun cdv A outer s H vs Q E hr h => ?_)
  exact ⟨_, (by exact (pps_cons (pp_set (i := 1) sc_distinct.nd rfl (.inl rfl) (px_n (pn_lst pas_nil)))
      (pps_cons (pp_forW [2] PassesOwn.never rfl (pix_l (px_p (pd_var (pv 0)))) (ptg_n (pg_name (i := 2) sc_distinct.nd rfl (.inl rfl)))
      (pps_one (pp_if (pxt_p (pb_nin (pd_var (pv 2)) (pd_var (pv 1)))) (pps_one (pp_drop (px_app (pe_bm PySem.F.plainAttrs_list PySem.F.slot_list_append PySem.F.type_list_append mt_append (pv 1) (pa_cons ((px_p (pd_var (pv 2))) rfl) pa_nil))))) pps_nil)))
      (pps_wp [2] (pps_one (pp_ret (px_rd (pv 1))))))) : PPs _ K WF _ f_distinct) rfl, body_of (N := n_distinct) (fun _ _ _ _ z => z) (spP_nox (fun _ _ _ h => h) h) fun ss q w hn hC => sim_distinct.run0 ss q w (V_distinct_s ▸ hC)⟩

theorem ok_first_free_head (T : Tx K mg) (hP : PF P) : Ok1 P w K mg base "first_free_head" 1 (spP K 1 (CV0 [] V_first_free_head)) := by
  obtain ⟨fd, F⟩ := T.F_first_free_head

  refine ok1_of F T.g_first_free_head sc_first_free_head (fun vs H Q E h => spP_len h) (fun _ _ _ _ _ _ us hl => match us, hl with | [_], _ => rfl) (fun cdv A outer s H vs Q E hr h => ?_)
  exact ⟨_, (by exact (pps_cons (pp_forW [1, 2] PassesOwn.never rfl (pix_l (px_p (pd_var (pv 0)))) (ptg_n (pg_name (i := 1) sc_first_free_head.nd rfl (.inr rfl)))
      (pps_one (pp_if (pxt_p (pb_not (pb_val (pd_any rfl T.z_any (pas_cons (pn_pd (pn_lc (own := [("other", 2)]) (by rfl) sc_first_free_head.nd (pit_l (pd_var (pv 0))) (blkOk_by (own := [("other", 2)]) (N := n_first_free_head) (sc := defScope s_first_free_head) (by decide +kernel)) (by decide) (fun _ _ _ _ _ => (ptg_n (pg_name (i := 2) sc_first_free_head.nd rfl (.inl rfl)))) (fun _ _ _ _ _ => by exact pbs_nil) (fun _ _ _ _ _ => by exact (pd_in (pd_idx (pd_var (pv 1)) pd_int (fun _ _ => rfl)) (pn_pd (pn_sl (pd_var (pv 2)) (po_s pd_int) po_n)))))) pas_nil))))) (pps_one (pp_ret (px_p (pd_idx (pd_var (pv 1)) pd_int (fun _ _ => rfl))))) pps_nil)))
      (pps_wp [0, 1, 2] (pps_one (pp_ret (px_p pd_non))))) : PPs _ K WF _ f_first_free_head) rfl, body_of (N := n_first_free_head) (fun _ _ _ _ z => z) (spP_nox (fun _ _ _ h => h) h) fun ss q w hn hC => sim_first_free_head.run0 ss q w (V_first_free_head_s ▸ hC)⟩

theorem ok_merged (T : Tx K mg) (hP : PF P) : Ok1x P w K mg base "merged" 3 (spP K 1 (CV [0] V_merged)) := by
  obtain ⟨fd, F⟩ := T.F_merged
  have G_first_free_head := ok_first_free_head (P := P) (w := w) (base := base) T hP
  have G_distinct := ok_distinct (P := P) (w := w) (base := base) T hP
  have GE_Barred := ok_Barred___init__ (P := P) (w := w) (base := base) T hP
  refine ok1x_of F T.g_merged sc_merged (fun vs H Q E h => spP_len h) (fun _ _ _ _ _ _ us hl => match us, hl with | [_], _ => rfl) (fun cdv A outer s H vs Q E hr h tkE hpo => ?_)
  exact ⟨_, (by exact (pps_cons (pp_set (i := 1) sc_merged.nd rfl (.inl rfl) (px_n (pn_lst pas_nil)))
      (pps_cons (pp_setLcN (i := 0) (own := [("row", 3)]) (by rfl) sc_merged.nd rfl rfl (sw_true rfl rfl rfl (by decide +kernel)) (pit_l (pd_var (pv 0))) (blkOk_by (own := [("row", 3)]) (N := n_merged) (sc := defScope s_merged) (by decide +kernel)) (by decide) (fun _ _ _ _ _ => (ptg_n (pg_name (i := 3) sc_merged.nd rfl (.inl rfl)))) (fun _ _ _ _ _ => by exact (pbs_one (pb_gt (pd_len T.z_len (pas_cons (pd_var (pv 3)) pas_nil)) pd_int))) (fun _ _ _ _ _ => by exact (pd_var (pv 3))))
      (pps_wp [3] (pps_cons (pp_whileW 1000 [2, 3] hpo (pxt_p (pb_gt (pd_len T.z_len (pas_cons (pd_var (pv 0)) pas_nil)) pd_int))
      (pps_fz 0 (pps_cons (pp_set (i := 2) sc_merged.nd rfl (.inr rfl) (px_call0 G_first_free_head (hr.mono (by decide)) (by rfl) (pax_v (px_p (pd_var (pv 0))) pax_nil)))
      (pps_cons (pp_if (pxt_p (pb_isN (pd_var (pv 2)) pd_non)) (pps_one (pp_raise (kRaise rfl tkE (pmk_sup T.S_Barred.oex T.S_Barred.ini T.S_Barred.tI GE_Barred (hr.mono (by decide)) (by rfl) T.g_Barred ((pax_v (px_call0 G_distinct (hr.mono (by decide)) (by rfl) (pax_v (px_n (pn_lc (own := [("row", 3)]) (by rfl) sc_merged.nd (pit_l (pd_var (pv 0))) (blkOk_by (own := [("row", 3)]) (N := n_merged) (sc := defScope s_merged) (by decide +kernel)) (by decide) (fun _ _ _ _ _ => (ptg_n (pg_name (i := 3) sc_merged.nd rfl (.inl rfl)))) (fun _ _ _ _ _ => by exact pbs_nil) (fun _ _ _ _ _ => by exact (pd_idx (pd_var (pv 3)) pd_int (fun _ _ => rfl))))) pax_nil)) pax_nil) rfl))) (fun o r k1 k2 => hm_list o r k1 k2))) pps_nil)
      (pps_wp [3] (pps_cons (pp_drop (px_app (pe_bm PySem.F.plainAttrs_list PySem.F.slot_list_append PySem.F.type_list_append mt_append (pv 1) (pa_cons ((px_p (pd_var (pv 2))) rfl) pa_nil))))
      (pps_cons (pp_setLcN (i := 0) (own := [("row", 3)]) (by rfl) sc_merged.nd rfl rfl (sw_true rfl rfl rfl (by decide +kernel)) (pit_l (pd_var (pv 0))) (blkOk_by (own := [("row", 3)]) (N := n_merged) (sc := defScope s_merged) (by decide +kernel)) (by decide) (fun _ _ _ _ _ => (ptg_n (pg_name (i := 3) sc_merged.nd rfl (.inl rfl)))) (fun _ _ _ _ _ => by exact pbs_nil) (fun _ _ _ _ _ => by exact (pd_if (pb_eq hr.units (pd_idx (pd_var (pv 3)) pd_int (fun _ _ => rfl)) (pd_var (pv 2))) (pn_pd (pn_sl (pd_var (pv 3)) (po_s pd_int) po_n)) (pd_var (pv 3)))))
      (pps_wp [2, 3] (pps_one (pp_setLcN (i := 0) (own := [("row", 3)]) (by rfl) sc_merged.nd rfl rfl (sw_true rfl rfl rfl (by decide +kernel)) (pit_l (pd_var (pv 0))) (blkOk_by (own := [("row", 3)]) (N := n_merged) (sc := defScope s_merged) (by decide +kernel)) (by decide) (fun _ _ _ _ _ => (ptg_n (pg_name (i := 3) sc_merged.nd rfl (.inl rfl)))) (fun _ _ _ _ _ => by exact (pbs_one (pb_gt (pd_len T.z_len (pas_cons (pd_var (pv 3)) pas_nil)) pd_int))) (fun _ _ _ _ _ => by exact (pd_var (pv 3)))))))))))))
      (pps_wp [0, 2, 3] (pps_one (pp_ret (px_rd (pv 1))))))))) : PPs _ K (WofE E) _ f_merged) rfl, body_of (N := n_merged) (fun _ _ _ _ z => z) h fun ss q w hn hC => sim_merged.run ss q w (V_merged_s ▸ hC)⟩

theorem step_order_into (T : Tx K mg) (hP : PF P) {n : Nat} (G_order_into : Ok1x P w K mg base "order_into" (4 + n) (spP K 3 (CV [2] (V_order_into n)))) : Ok1x P w K mg base "order_into" (4 + n + 1) (spP K 3 (CV [2] (V_order_into (n + 1)))) := by
  obtain ⟨fd, F⟩ := T.F_order_into
  have G_merged := ok_merged (P := P) (w := w) (base := base) T hP
  refine ok1x_of F T.g_order_into sc_order_into (fun vs H Q E h => spP_len h) (fun _ _ _ _ _ _ us hl => match us, hl with | [_, _, _], _ => rfl) (fun cdv A outer s H vs Q E hr h tkE hpo => ?_)
  exact ⟨_, (by exact (pps_cons (pp_if (pxt_p (pb_din (hu_of hr) (pd_var (pv 1)) (pd_var (pv 2)))) (pps_one pp_retN) pps_nil)
      (pps_cons (pp_forW [3] hpo rfl (pix_l (px_p (pd_dget (hu_of hr) (pd_var (pv 0)) (pd_var (pv 1)) (fun _ _ => rfl)))) (ptg_n (pg_name (i := 3) sc_order_into.nd rfl (.inl rfl)))
      (pps_one (pp_drop (px_call G_order_into (hr.mono (by omega)) (by rfl) tkE (pax_v (px_p (pd_var (pv 0))) (pax_v (px_p (pd_var (pv 3))) (pax_b (pv 2) pax_nil)))))))
      (pps_wp [3] (pps_cons (pp_setLcN (i := 4) (own := [("base", 3)]) (by rfl) sc_order_into.nd rfl rfl (sw_true rfl rfl rfl (by decide +kernel)) (pit_l (pd_dget (hu_of hr) (pd_var (pv 0)) (pd_var (pv 1)) (fun _ _ => rfl))) (blkOk_by (own := [("base", 3)]) (N := n_order_into) (sc := defScope s_order_into) (by decide +kernel)) (by decide) (fun _ _ _ _ _ => (ptg_n (pg_name (i := 3) sc_order_into.nd rfl (.inl rfl)))) (fun _ _ _ _ _ => by exact pbs_nil) (fun _ _ _ _ _ => by exact (pn_pd (pn_list T.z_list (pas_cons (pd_dget (hu_of hr) (pd_var (pv 2)) (pd_var (pv 3)) (fun _ _ => rfl)) pas_nil)))))
      (pps_wp [3] (pps_cons (pp_drop (px_app (pe_bm PySem.F.plainAttrs_list PySem.F.slot_list_append PySem.F.type_list_append mt_append (pv 4) (pa_cons ((px_n (pn_list T.z_list (pas_cons (pd_dget (hu_of hr) (pd_var (pv 0)) (pd_var (pv 1)) (fun _ _ => rfl)) pas_nil))) rfl) pa_nil))))
      (pps_wp [0] (pps_fz 4 (pps_one (pp_dput (ps_dput (hu_of hr) (pv 2) ((px_p (pd_var (pv 1))) rfl) ((px_cat (px_n (pn_lst (pas_cons (pd_var (pv 1)) pas_nil))) (px_call G_merged (hr.mono (by omega)) (by rfl) tkE (pax_v (px_p (pd_var (pv 4))) pax_nil))) rfl) rfl))))))))))) : PPs _ K (WofE E) _ (f_order_into n)) rfl, body_of (N := n_order_into) (fun _ _ _ _ z => z) h fun ss q w hn hC => (sim_order_into n).run ss q w (V_order_into_s n ▸ hC)⟩
theorem ok_order_into_n (T : Tx K mg) (hP : PF P) : ∀ n, Ok1x P w K mg base "order_into" (4 + n) (spP K 3 (CV [2] (V_order_into n)))
  | 0 => by
    obtain ⟨fd, F⟩ := T.F_order_into
    exact ⟨_, T.g_order_into, F.kp, fun A outer s H us vs Q E hr e0 r h => absurd h (spP_no fun ss q w z => cv_bad (V_order_into_z ▸ z))⟩
  | n + 1 => step_order_into T hP (ok_order_into_n T hP n)
theorem ok_order_into (T : Tx K mg) (hP : PF P) : Ok1x P w K mg base "order_into" 24 (spP K 3 (CV [2] (V_order_into 20))) := ok_order_into_n T hP 20

theorem ok_linearize (T : Tx K mg) (hP : PF P) : Ok1x P w K mg base "linearize" 25 (spP K 2 (CV [] V_linearize)) := by
  obtain ⟨fd, F⟩ := T.F_linearize
  have G_order_into := ok_order_into (P := P) (w := w) (base := base) T hP
  refine ok1x_of F T.g_linearize sc_linearize (fun vs H Q E h => spP_len h) (fun _ _ _ _ _ _ us hl => match us, hl with | [_, _], _ => rfl) (fun cdv A outer s H vs Q E hr h tkE hpo => ?_)
  exact ⟨_, (by exact (pps_cons (pp_set (i := 2) sc_linearize.nd rfl (.inl rfl) (px_dnew pe_dnewK))
      (pps_cons (pp_drop (px_call G_order_into (hr.mono (by decide)) (by rfl) tkE (pax_v (px_p (pd_var (pv 0))) (pax_v (px_p (pd_var (pv 1))) (pax_b (pv 2) pax_nil)))))
      (pps_wp [0] (pps_one (pp_ret (px_n (pn_list T.z_list (pas_cons (pd_dget (hu_of hr) (pd_var (pv 2)) (pd_var (pv 1)) (fun _ _ => rfl)) pas_nil)))))))) : PPs _ K (WofE E) _ f_linearize) rfl, body_of (N := n_linearize) (fun _ _ _ _ z => z) h fun ss q w hn hC => sim_linearize.run ss q w (V_linearize_s ▸ hC)⟩

theorem ok__law_kept (T : Tx K mg) (hP : PF P) : Ok1 P w K mg base "_law_kept" 1 (spP K 2 (CV0 [] V__law_kept)) := by
  obtain ⟨fd, F⟩ := T.F__law_kept

  refine ok1_of F T.g__law_kept sc__law_kept (fun vs H Q E h => spP_len h) (fun _ _ _ _ _ _ us hl => match us, hl with | [_, _], _ => rfl) (fun cdv A outer s H vs Q E hr h => ?_)
  exact ⟨_, (by exact (pps_cons (pp_setLcN (i := 2) (own := [("_law_name", 3)]) (by rfl) sc__law_kept.nd rfl rfl (sw_true rfl rfl rfl (by decide +kernel)) (pit_l (pd_var (pv 0))) (blkOk_by (own := [("_law_name", 3)]) (N := n__law_kept) (sc := defScope s__law_kept) (by decide +kernel)) (by decide) (fun _ _ _ _ _ => (ptg_n (pg_name (i := 3) sc__law_kept.nd rfl (.inl rfl)))) (fun _ _ _ _ _ => by exact (pbs_one (pb_in (pd_var (pv 3)) (pd_var (pv 1))))) (fun _ _ _ _ _ => by exact (pd_index (pe_bm PySem.F.plainAttrs_list PySem.F.slot_list_index PySem.F.type_list_index (kIdx K) ((pd_var (pv 1)) rfl) (pa_cons ((pd_var (pv 3)) rfl) pa_nil)))))
      (pps_wp [1, 3] (pps_one (pp_ret (px_p (pd_andV (pd_eq hr.units (pd_len T.z_len (pas_cons (pd_var (pv 2)) pas_nil)) (pd_len T.z_len (pas_cons (pd_var (pv 0)) pas_nil))) (pd_one (pd_eq hr.units (pd_var (pv 2)) (pn_pd (pn_sortedI T.z_sorted (pas_cons (pd_var (pv 2)) pas_nil))))))))))) : PPs _ K WF _ f__law_kept) rfl, body_of (N := n__law_kept) (fun _ _ _ _ z => z) (spP_nox (fun _ _ _ h => h) h) fun ss q w hn hC => sim__law_kept.run0 ss q w (V__law_kept_s ▸ hC)⟩

theorem ok__law_ancestors (T : Tx K mg) (hP : PF P) : Ok1 P w K mg base "_law_ancestors" 1 (spP K 2 (CV0 [] V__law_ancestors)) := by
  obtain ⟨fd, F⟩ := T.F__law_ancestors

  refine ok1_of F T.g__law_ancestors sc__law_ancestors (fun vs H Q E h => spP_len h) (fun _ _ _ _ _ _ us hl => match us, hl with | [_, _], _ => rfl) (fun cdv A outer s H vs Q E hr h => ?_)
  exact ⟨_, (by exact (pps_cons (pp_set (i := 2) sc__law_ancestors.nd rfl (.inr rfl) (px_n (pn_lst (pas_cons (pd_var (pv 1)) pas_nil))))
      (pps_wp [1] (pps_cons (pp_forW [3, 4, 5] PassesOwn.never rfl (pix_r1 T.z_range (px_p (pd_len T.z_len (pas_cons (pd_var (pv 0)) pas_nil)))) (ptg_n (pg_name (i := 3) sc__law_ancestors.nd rfl (.inl rfl)))
      (pps_fz 2 (pps_one (pp_forW [4, 5] PassesOwn.never rfl (pix_l (px_p (pd_var (pv 2)))) (ptg_n (pg_name (i := 4) sc__law_ancestors.nd rfl (.inl rfl)))
      (pps_one (pp_set (i := 2) sc__law_ancestors.nd rfl (.inr rfl) (px_n (pn_cat (pd_var (pv 2)) (pn_pd (pn_lc (own := [("_law_base", 5)]) (by rfl) sc__law_ancestors.nd (pit_l (pd_dget (hu_of hr) (pd_var (pv 0)) (pd_var (pv 4)) (fun _ _ => rfl))) (blkOk_by (own := [("_law_base", 5)]) (N := n__law_ancestors) (sc := defScope s__law_ancestors) (by decide +kernel)) (by decide) (fun _ _ _ _ _ => (ptg_n (pg_name (i := 5) sc__law_ancestors.nd rfl (.inl rfl)))) (fun _ _ _ _ _ => by exact (pbs_one (pb_nin (pd_var (pv 5)) (pd_var (pv 2))))) (fun _ _ _ _ _ => by exact (pd_var (pv 5)))))))))))))
      (pps_wp [0, 3, 4, 5] (pps_one (pp_ret (px_rd (pv 2)))))))) : PPs _ K WF _ f__law_ancestors) rfl, body_of (N := n__law_ancestors) (fun _ _ _ _ z => z) (spP_nox (fun _ _ _ h => h) h) fun ss q w hn hC => sim__law_ancestors.run0 ss q w (V__law_ancestors_s ▸ hC)⟩

theorem ok__law_stuck (T : Tx K mg) (hP : PF P) : Ok1 P w K mg base "_law_stuck" 1 (spP K 1 (CV0 [0] V__law_stuck)) := by
  obtain ⟨fd, F⟩ := T.F__law_stuck

  refine ok1_of F T.g__law_stuck sc__law_stuck (fun vs H Q E h => spP_len h) (fun _ _ _ _ _ _ us hl => match us, hl with | [_], _ => rfl) (fun cdv A outer s H vs Q E hr h => ?_)
  exact ⟨_, (by exact (pps_cons (pp_set (i := 0) sc__law_stuck.nd rfl (.inr rfl) (px_n (pn_lc (own := [("_law_row", 2)]) (by rfl) sc__law_stuck.nd (pit_l (pd_var (pv 0))) (blkOk_by (own := [("_law_row", 2)]) (N := n__law_stuck) (sc := defScope s__law_stuck) (by decide +kernel)) (by decide) (fun _ _ _ _ _ => (ptg_n (pg_name (i := 2) sc__law_stuck.nd rfl (.inl rfl)))) (fun _ _ _ _ _ => by exact (pbs_one (pb_ne hr.units (pd_var (pv 2)) (pn_pd (pn_lst pas_nil))))) (fun _ _ _ _ _ => by exact (pd_var (pv 2))))))
      (pps_wp [2] (pps_cons (pp_set (i := 1) sc__law_stuck.nd rfl (.inl rfl) (px_n (pn_lst pas_nil)))
      (pps_fz 0 (pps_cons (pp_forW [2, 3] PassesOwn.never rfl (pix_l (px_p (pd_var (pv 0)))) (ptg_n (pg_name (i := 2) sc__law_stuck.nd rfl (.inl rfl)))
      (pps_fz 2 (pps_one (pp_forW [3] PassesOwn.never rfl (pix_l (px_p (pd_var (pv 2)))) (ptg_n (pg_name (i := 3) sc__law_stuck.nd rfl (.inl rfl)))
      (pps_one (pp_if (pxt_p (pb_nin (pd_var (pv 3)) (pd_var (pv 1)))) (pps_one (pp_drop (px_app (pe_bm PySem.F.plainAttrs_list PySem.F.slot_list_append PySem.F.type_list_append mt_append (pv 1) (pa_cons ((px_p (pd_var (pv 3))) rfl) pa_nil))))) pps_nil))))))
      (pps_wp [2, 3] (pps_cons (pp_forW [2, 3, 4, 5] PassesOwn.never rfl (pix_r1 T.z_range (px_p (pd_len T.z_len (pas_cons (pd_var (pv 1)) pas_nil)))) (ptg_n (pg_name (i := 4) sc__law_stuck.nd rfl (.inl rfl)))
      (pps_cons (pp_set (i := 5) sc__law_stuck.nd rfl (.inr rfl) (px_n (pn_lc (own := [("_law_name", 3)]) (by rfl) sc__law_stuck.nd (pit_l (pd_var (pv 1))) (blkOk_by (own := [("_law_name", 3)]) (N := n__law_stuck) (sc := defScope s__law_stuck) (by decide +kernel)) (by decide) (fun _ _ _ _ _ => (ptg_n (pg_name (i := 3) sc__law_stuck.nd rfl (.inr rfl)))) (fun _ _ _ _ _ => by exact (pbs_one (pb_nin pd_bl (pn_pd (pn_lc (own := [("_law_row", 2)]) (by rfl) sc__law_stuck.nd (pit_l (pd_var (pv 0))) (blkOk_by (own := [("_law_row", 2)]) (by rfl)) (by decide) (fun _ _ _ _ _ => (ptg_n (pg_name (i := 2) sc__law_stuck.nd rfl (.inl rfl)))) (fun _ _ _ _ _ => by exact pbs_nil) (fun _ _ _ _ _ => by exact (pd_in (pd_var (pv 3)) (pn_pd (pn_sl (pd_var (pv 2)) (po_s pd_int) po_n))))))))) (fun _ _ _ _ _ => by exact (pd_var (pv 3))))))
      (pps_wp [2, 3] (pps_cons (pp_setLcN (i := 1) (own := [("_law_name", 3)]) (by rfl) sc__law_stuck.nd rfl rfl (sw_true rfl rfl rfl (by decide +kernel)) (pit_l (pd_var (pv 1))) (blkOk_by (own := [("_law_name", 3)]) (N := n__law_stuck) (sc := defScope s__law_stuck) (by decide +kernel)) (by decide) (fun _ _ _ _ _ => (ptg_n (pg_name (i := 3) sc__law_stuck.nd rfl (.inl rfl)))) (fun _ _ _ _ _ => by exact (pbs_one (pb_nin (pd_var (pv 3)) (pd_var (pv 5))))) (fun _ _ _ _ _ => by exact (pd_var (pv 3))))
      (pps_wp [3] (pps_one (pp_set (i := 0) sc__law_stuck.nd rfl (.inr rfl) (px_n (pn_lc (own := [("_law_row", 2)]) (by rfl) sc__law_stuck.nd (pit_l (pd_var (pv 0))) (blkOk_by (own := [("_law_row", 2)]) (N := n__law_stuck) (sc := defScope s__law_stuck) (by decide +kernel)) (by decide) (fun _ _ _ _ _ => (ptg_n (pg_name (i := 2) sc__law_stuck.nd rfl (.inl rfl)))) (fun _ _ _ _ _ => by exact pbs_nil) (fun _ _ _ _ _ => by exact (pn_pd (pn_lc (own := [("_law_name", 3)]) (by rfl) sc__law_stuck.nd (pit_l (pd_var (pv 2))) (blkOk_by (own := [("_law_name", 3)]) (by rfl)) (by decide) (fun _ _ _ _ _ => (ptg_n (pg_name (i := 3) sc__law_stuck.nd rfl (.inl rfl)))) (fun _ _ _ _ _ => by exact (pbs_one (pb_nin (pd_var (pv 3)) (pd_var (pv 5))))) (fun _ _ _ _ _ => by exact (pd_var (pv 3)))))))))))))))
      (pps_wp [0, 2, 3, 4, 5] (pps_one (pp_ret (px_rd (pv 1)))))))))))) : PPs _ K WF _ f__law_stuck) rfl, body_of (N := n__law_stuck) (fun _ _ _ _ z => z) (spP_nox (fun _ _ _ h => h) h) fun ss q w hn hC => sim__law_stuck.run0 ss q w (V__law_stuck_s ▸ hC)⟩

theorem ok__law_asked (T : Tx K mg) (hP : PF P) : Ok1 P w K mg base "_law_asked" 26 (spP K 2 (CV0 [] V__law_asked)) := by
  obtain ⟨fd, F⟩ := T.F__law_asked
  have G_linearize := ok_linearize (P := P) (w := w) (base := base) T hP
  refine ok1_of F T.g__law_asked sc__law_asked (fun vs H Q E h => spP_len h) (fun _ _ _ _ _ _ us hl => match us, hl with | [_, _], _ => rfl) (fun cdv A outer s H vs Q E hr h => ?_)
  exact ⟨_, (by exact (pps_cons (pp_try (kTryAs K (i := 3) rfl rfl sc__law_asked.nd rfl rfl ⟨by rfl, by decide, .inl T.g_Barred⟩ takes0
      (fun W pn xe tk po => (pps_one (pp_set (i := 2) sc__law_asked.nd rfl (.inl rfl) (px_call G_linearize (hr.mono (by decide)) (by rfl) tk (pax_v (px_p (pd_var (pv 0))) (pax_v (px_p (pd_var (pv 1))) pax_nil))))) rfl)
      (fun a oe cls d pn hz hf => (pps_one (pp_ret (px_p (pd_tup (pas_cons pd_bl (pas_cons (pd_xf T.xf_Barred T.na_Barred_heads hz hf (pv 3)) pas_nil)))))) rfl)) (exmT_ok (exm_cons T.ex_Barred_Barred exm_nil)))
      (pps_wp [0, 1, 3] (pps_fz 2 (pps_one (pp_ret (px_p (pd_tup (pas_cons pd_bl (pas_cons (pd_var (pv 2)) pas_nil))))))))) : PPs _ K WF _ f__law_asked) rfl, body_of (N := n__law_asked) (fun _ _ _ _ z => z) (spP_nox (fun _ _ _ h => h) h) fun ss q w hn hC => sim__law_asked.run0 ss q w (V__law_asked_s ▸ hC)⟩

theorem ok__law_right (T : Tx K mg) (hP : PF P) : Ok1 P w K mg base "_law_right" 27 (spP K 3 (CV0 [2] V__law_right)) := by
  obtain ⟨fd, F⟩ := T.F__law_right
  have G__law_asked := ok__law_asked (P := P) (w := w) (base := base) T hP
  have G__law_stuck := ok__law_stuck (P := P) (w := w) (base := base) T hP
  have G__law_kept := ok__law_kept (P := P) (w := w) (base := base) T hP
  have G__law_ancestors := ok__law_ancestors (P := P) (w := w) (base := base) T hP
  refine ok1_of F T.g__law_right sc__law_right (fun vs H Q E h => spP_len h) (fun _ _ _ _ _ _ us hl => match us, hl with | [_, _, _], _ => rfl) (fun cdv A outer s H vs Q E hr h => ?_)
  exact ⟨_, (by exact (pps_cons (pp_set (i := 3) sc__law_right.nd rfl (.inr rfl) (px_call0 G__law_asked (hr.mono (by decide)) (by rfl) (pax_v (px_p (pd_var (pv 0))) (pax_v (px_p (pd_var (pv 1))) pax_nil))))
      (pps_cons (pp_if (pxt_p (pb_in pd_bl (pn_pd (pn_lc (own := [("_law_base", 6)]) (by rfl) sc__law_right.nd (pit_l (pd_dget (hu_of hr) (pd_var (pv 0)) (pd_var (pv 1)) (fun _ _ => rfl))) (blkOk_by (own := [("_law_base", 6)]) (N := n__law_right) (sc := defScope s__law_right) (by decide +kernel)) (by decide) (fun _ _ _ _ _ => (ptg_n (pg_name (i := 6) sc__law_right.nd rfl (.inl rfl)))) (fun _ _ _ _ _ => by exact pbs_nil) (fun _ _ _ _ _ => by exact (pd_dnin (hu_of hr) (pd_var (pv 6)) (pd_var (pv 2)))))))) (pps_one (pp_ret (px_p (pd_notV (pd_idx (pd_var (pv 3)) pd_int (fun _ _ => rfl)))))) pps_nil)
      (pps_wp [6] (pps_cons (pp_set (i := 4) sc__law_right.nd rfl (.inl rfl) (px_n (pn_cat (pn_pd (pn_lc (own := [("_law_base", 6)]) (by rfl) sc__law_right.nd (pit_l (pd_dget (hu_of hr) (pd_var (pv 0)) (pd_var (pv 1)) (fun _ _ => rfl))) (blkOk_by (own := [("_law_base", 6)]) (N := n__law_right) (sc := defScope s__law_right) (by decide +kernel)) (by decide) (fun _ _ _ _ _ => (ptg_n (pg_name (i := 6) sc__law_right.nd rfl (.inl rfl)))) (fun _ _ _ _ _ => by exact pbs_nil) (fun _ _ _ _ _ => by exact (pd_dget (hu_of hr) (pd_var (pv 2)) (pd_var (pv 6)) (fun _ _ => rfl))))) (pn_pd (pn_lst (pas_cons (pd_dget (hu_of hr) (pd_var (pv 0)) (pd_var (pv 1)) (fun _ _ => rfl)) pas_nil))))))
      (pps_wp [6] (pps_fz 4 (pps_cons (pp_set (i := 5) sc__law_right.nd rfl (.inr rfl) (px_call0 G__law_stuck (hr.mono (by decide)) (by rfl) (pax_v (px_p (pd_var (pv 4))) pax_nil)))
      (pps_cons (pp_if (pxt_p (pb_ne hr.units (pd_idx (pd_var (pv 3)) pd_int (fun _ _ => rfl)) (pd_eq hr.units (pd_var (pv 5)) (pn_pd (pn_lst pas_nil))))) (pps_one (pp_ret (px_p pd_bl))) pps_nil)
      (pps_cons (pp_if (pxt_p (pb_not (pb_val (pd_idx (pd_var (pv 3)) pd_int (fun _ _ => rfl))))) (pps_one (pp_ret (px_p (pd_andV (pd_ne hr.units (pd_idx (pd_var (pv 3)) pd_int (fun _ _ => rfl)) (pn_pd (pn_lst pas_nil))) (pd_one (pd_nin pd_bl (pn_pd (pn_lc (own := [("_law_head", 7)]) (by rfl) sc__law_right.nd (pit_l (pd_idx (pd_var (pv 3)) pd_int (fun _ _ => rfl))) (blkOk_by (own := [("_law_head", 7)]) (N := n__law_right) (sc := defScope s__law_right) (by decide +kernel)) (by decide) (fun _ _ _ _ _ => (ptg_n (pg_name (i := 7) sc__law_right.nd rfl (.inl rfl)))) (fun _ _ _ _ _ => by exact pbs_nil) (fun _ _ _ _ _ => by exact (pd_in (pd_var (pv 7)) (pd_var (pv 5)))))))))))) pps_nil)
      (pps_wp [5, 7] (pps_cons (pp_if (pxt_w (pxw_or (pxt_p (pb_ne hr.units (pn_pd (pn_sl (pd_idx (pd_var (pv 3)) pd_int (fun _ _ => rfl)) po_n (po_s pd_int))) (pn_pd (pn_lst (pas_cons (pd_var (pv 1)) pas_nil))))) (pxw_or1 (pxt_ne hr.units (px_n (pn_sortedS T.z_sorted (pas_cons (pd_idx (pd_var (pv 3)) pd_int (fun _ _ => rfl)) pas_nil))) (px_sortedS T.z_sorted (pax_v (px_call0 G__law_ancestors (hr.mono (by decide)) (by rfl) (pax_v (px_p (pd_var (pv 0))) (pax_v (px_p (pd_var (pv 1))) pax_nil))) pax_nil)))))) (pps_one (pp_ret (px_p pd_bl))) pps_nil)
      (pps_wp [0] (pps_fz 4 (pps_cons (pp_if (pxt_in (px_p pd_bl) (px_lc (own := [("_law_row", 8)]) (by rfl) sc__law_right.nd (pix_l (px_p (pd_var (pv 4)))) (blkOk_by (own := [("_law_row", 8)]) (N := n__law_right) (sc := defScope s__law_right) (by decide +kernel)) (by decide) (fun _ _ _ _ _ => (ptg_n (pg_name (i := 8) sc__law_right.nd rfl (.inl rfl)))) (fun _ _ _ _ _ => by exact pxts_nil) (fun _ _ _ _ _ => by exact (px_call0 G__law_kept (hr.mono (by decide)) (by rfl) (pax_v (px_p (pd_var (pv 8))) (pax_v (px_p (pd_idx (pd_var (pv 3)) pd_int (fun _ _ => rfl))) pax_nil)))))) (pps_one (pp_ret (px_p pd_bl))) pps_nil)
      (pps_wp [4, 8] (pps_cons (pp_dput (ps_dput (hu_of hr) (pv 2) ((px_p (pd_var (pv 1))) rfl) ((px_n (pn_list T.z_list (pas_cons (pd_idx (pd_var (pv 3)) pd_int (fun _ _ => rfl)) pas_nil))) rfl) rfl))
      (pps_wp [1, 3] (pps_one (pp_ret (px_p pd_bl)))))))))))))))))))) : PPs _ K WF _ f__law_right) rfl, body_of (N := n__law_right) (fun _ _ _ _ z => z) (spP_nox (fun _ _ _ h => h) h) fun ss q w hn hC => sim__law_right.run0 ss q w (V__law_right_s ▸ hC)⟩

theorem ok_law_fn (T : Tx K mg) (hP : PF P) {f : Addr} {fd : FuncData} (F : FunD K d_law.name d_law.qual d_law.params d_law.body d_law.scope (d_law.dvs K) (d_law.kws K) f fd) : FnOk P w K mg base CX0 28 f fd ["_law_script"] (spLawP K) := by
  have G__law_source := ok__law_source_P (P := P) (w := w) (base := base) T hP
  have G__law_draw := ok__law_draw_P (P := P) (w := w) (base := base) T hP
  have G__law_right := ok__law_right (P := P) (w := w) (base := base) T hP
  refine F.ok sc_law (fun vs H Q E h => spP_len h) (fun cdv A outer s H vs Q E hr h => ?_)
  exact ⟨_, PSs.nox ((by exact (pps_cons (pp_set (i := 1) sc_law.nd rfl (.inl rfl) (px_call0 G__law_source (hr.mono (by decide)) (by rfl) (pax_b (pv 0) pax_nil)))
      (pps_cons (pp_set (i := 2) sc_law.nd rfl (.inl rfl) (px_dnew pe_dnewK))
      (pps_cons (pp_forW [3, 4, 5, 6] PassesOwn.never rfl (pix_r1 T.z_range (px_add (px_p pd_int) (px_call0 G__law_draw (hr.mono (by decide)) (by rfl) (pax_b (pv 1) (pax_v (px_p pd_int) pax_nil))))) (ptg_n (pg_name (i := 3) sc_law.nd rfl (.inl rfl)))
      (pps_cons (pp_set (i := 4) sc_law.nd rfl (.inl rfl) (px_n (pn_listK rfl T.z_list (pas_cons (pd_var (pv 2)) pas_nil))))
      (pps_cons (pp_set (i := 5) sc_law.nd rfl (.inl rfl) (px_n (pn_lst pas_nil)))
      (pps_cons (pp_forW [6] PassesOwn.never rfl (pix_r1 T.z_range (px_call0 G__law_draw (hr.mono (by decide)) (by rfl) (pax_b (pv 1) (pax_v (px_p pd_int) pax_nil)))) (ptg_n (pg_name (i := 6) sc_law.nd rfl (.inl rfl)))
      (pps_one (pp_if (pxt_p (pb_ne hr.units (pd_var (pv 4)) (pn_pd (pn_lst pas_nil)))) (pps_one (pp_drop (px_app (pe_bm PySem.F.plainAttrs_list PySem.F.slot_list_append PySem.F.type_list_append mt_append (pv 5) (pa_cons ((px_popA (pe_bm PySem.F.plainAttrs_list PySem.F.slot_list_pop PySem.F.type_list_pop mt_popAt (pv 4) (pa_cons ((px_call0 G__law_draw (hr.mono (by decide)) (by rfl) (pax_b (pv 1) (pax_v (px_p (pd_len T.z_len (pas_cons (pd_var (pv 4)) pas_nil))) pax_nil))) rfl) pa_nil))) rfl) pa_nil))))) pps_nil)))
      (pps_wp [4, 6] (pps_fz 5 (pps_one (pp_dput (ps_dput (hu_of hr) (pv 2) ((px_add (px_idx (px_p pd_str) (px_call0 G__law_draw (hr.mono (by decide)) (by rfl) (pax_b (pv 1) (pax_v (px_p pd_int) pax_nil))) (fun _ _ => rfl)) (px_p (pd_strI T.z_str (pas_cons (pd_var (pv 3)) pas_nil)))) rfl) ((px_p (pd_var (pv 5))) rfl) rfl)))))))))
      (pps_wp [1, 3, 4, 5, 6] (pps_cons (pp_set (i := 7) sc_law.nd rfl (.inl rfl) (px_dnew pe_dnewK))
      (pps_fz 2 (pps_cons (pp_forW [8] PassesOwn.never rfl (pix_l (px_n (pn_listK rfl T.z_list (pas_cons (pd_var (pv 2)) pas_nil)))) (ptg_n (pg_name (i := 8) sc_law.nd rfl (.inl rfl)))
      (pps_fz 2 (pps_one (pp_if (pxt_not (pxt_x (px_call0 G__law_right (hr.mono (by decide)) (by rfl) (pax_v (px_p (pd_var (pv 2))) (pax_v (px_p (pd_var (pv 8))) (pax_b (pv 7) pax_nil)))))) (pps_one (pp_ret (px_p pd_bl))) pps_nil))))
      (pps_wp [2, 7, 8] (pps_one (pp_ret (px_p pd_bl))))))))))) : PPs _ K WF _ (sSeq (sSet 1 (xCall0 1 (CSource K) (aB 0 aNil))) f_law)) rfl), body_of (N := n_law) (fun _ _ _ _ z => z) (spP_nox (fun _ _ _ h => h) h) fun ss q w hn hC => law_of (pm := []) (n := 7) sim_law law_pure ss q w hC⟩


end
end Pu
namespace Ed
open PySem PySem.Spec PyProof.Rows L2
theorem facts {P : Program} {w : World} {K : PySem.W.Frag} {h : Heap} {mg : Str → Option Value} {f : Addr} (X : K.In h) (G : h.Ns mainGlobals mg) (hfa : mg ("law" : Str) = some (.ref f)) (c : SaysY fa fn su exB w K) (hP : PF P) :
    ∃ fd : FuncData, (∀ (s : Shared) (v : Value), BindsTo s fd ⟨[v], []⟩ [("_law_script", v)]) ∧ ∀ base : Heap, K.In base → base.Ns mainGlobals mg → FnOk P w K mg base CX0 28 f fd ["_law_script"] (Pu.spLawP K) := by
  have T : Tx K mg := tx_of X G c.t.d c c.more
  obtain ⟨fd, F⟩ := T.F_law
  have e := hfa.symm.trans T.g_law
  cases e
  have b := FunD.bindsA (ps := ["_law_script"]) F fun _ _ _ _ _ _ us hl => match us, hl with | [_], _ => rfl
  exact ⟨fd, fun s v => b s [v] rfl, fun base _ _ => Pu.ok_law_fn T hP F⟩
end Ed
open PySem PySem.W PySem.Calls PyProof.Rows
set_option maxHeartbeats 0 in
theorem PySem.Challenge.cw_everydoor_k11_whole_orders_keep_orders_holds : PySem.Challenge.rw_everydoor_k11_whole_orders_keep_orders.Holds := by
  w_on; o_law
  refine HandSHeadRun.head_any (r := OpenLaw.row PySem.Challenge.rw_everydoor_k11_whole_orders_keep_orders) (q := view (OpenLaw.row PySem.Challenge.rw_everydoor_k11_whole_orders_keep_orders).prog [17]) (H := Ed.hk) (ob := Ed.ob) (M := 3000) (loose := Ed.loose) (d := HandSHeadRun.topDef (OpenLaw.row PySem.Challenge.rw_everydoor_k11_whole_orders_keep_orders).prog 17) (kwd := []) Ed.ob_eq
    (by kernel_rfl) (fun s => by kernel_rfl) Ed.run (by kernel_rfl) (by kernel_rfl) (by kernel_rfl) (by rfl) (by first | assumption | decide +kernel) (by decide +kernel) ⟨rfl, rfl, rfl, rfl, rfl, by decide +kernel⟩ ?hw ?hc
  case hw => w_witness2
  case hc =>
    refine L2.walk_ofE (l := PySem.Challenge.rw_everydoor_k11_whole_orders_keep_orders) (n := 63) (k := 28) (x := "_law_script") (CX := L2.CX0) rfl (by decide) (by kernel_rfl) ⟨rfl, by decide, by decide⟩ ?F (fun _ _ _ _ z => z)
    intro w mg fa h Y G hmg0
    obtain ⟨K, KX, c⟩ := Y
    have hmg : mg ("law" : PySem.Str) = some (.ref fa) := by
      have e : (HandSHeadRun.topDef (OpenLaw.row PySem.Challenge.rw_everydoor_k11_whole_orders_keep_orders).prog 17).name = ("law" : PySem.Str) := by kernel_rfl
      rw [← e]
      exact hmg0
    obtain ⟨fd, hb, hF⟩ := Ed.facts (P := (PySem.Challenge.rw_everydoor_k11_whole_orders_keep_orders).prog) (w := w) KX G hmg c ⟨by kernel_rfl, by kernel_rfl⟩
    exact ⟨K, fd, Pu.spLawP K, KX, hb, fun H a ns hl _ hS => Pu.law_pre H a ns hl hS, hF⟩
