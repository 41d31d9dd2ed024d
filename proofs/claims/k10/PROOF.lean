import PyProof.Rows.All
import Wide.All
import OpenK.AllK
import Wide.FinOn
import KE.KStateDown
import HandS.ForMost
import HandS.Exc
import HandS.More
import HandS.Defaults
import HandS.Star
import HandS.Wide
import HandS.IsInst
import HandS.Walk
import HandS.Head0
import HandS.Head1
import HandS.Head2
import HandS.HeadEnd
import HandS.HeadHook1
import HandS.HeadHook2
import HandS.HeadHook3
import HandS.HeadHook4
import KE.KCallOwn
import HandS.FStr
import HandS.NoneIn
import HandS.MakeKw
import HandS.Style
import KE.KSuper
import KE.KExcSuper
import HandS.ExcInit
import HandS.ExcField
import HandS.MakeKwOnly
import PySem.Challenge.RW_everydoor_k10_orders_of_classes
set_option Elab.async false
set_option linter.all false
set_option maxRecDepth 100000
set_option maxHeartbeats 4000000
/-! ## Ed: what is owned. F: what stays as it is; M: cells that may change; H: the heap at hand (F, M and perhaps more). -/
namespace Ed
open PySem PySem.Spec PyProof.Rows L2
abbrev Cells := List (Addr × HO)
structure Own (F : Hp) (M : Cells) (H : Hp) : Prop where
  fr : Same F H
  mu : ∀ p ∈ M, H p.1 = some p.2
  ap : ∀ p ∈ M, F p.1 = none
  nd : (M.map Prod.fst).Nodup
section
variable {F F0 F1 H H' : Hp} {M A B : Cells} {p q : Addr} {x y : HO} {i : Nat}
theorem same_upd (h : F p = none) : Same F (upd F p x) := fun b o e => by
  rw [upd_ne (ne_of_none e h)]
  exact e
theorem Own.start (H : Hp) : Own H [] H := ⟨Same.refl H, fun _ h => (nomatch h), fun _ h => (nomatch h), List.nodup_nil⟩
theorem Own.free (o : Own F M H) (hp : H p = none) : F p = none := o.fr.free hp
theorem Own.notIn (o : Own F M H) (hp : H p = none) : p ∉ M.map Prod.fst := fun h => by
  obtain ⟨c, hc, e⟩ := List.mem_map.mp h
  have z := o.mu c hc
  rw [e, hp] at z
  cases z
theorem Own.newM (o : Own F M H) (hp : H p = none) : Own F ((p, x) :: M) (upd H p x) where
  fr := fun b u e => by
    rw [upd_ne (ne_of_none (o.fr b u e) hp)]
    exact o.fr b u e
  mu := fun c hc => by
    rcases List.mem_cons.mp hc with rfl | hc
    · exact upd_same
    · rw [upd_ne (ne_of_none (o.mu c hc) hp)]
      exact o.mu c hc
  ap := fun c hc => by
    rcases List.mem_cons.mp hc with rfl | hc
    · exact o.free hp
    · exact o.ap c hc
  nd := List.nodup_cons.mpr ⟨o.notIn hp, o.nd⟩
theorem Own.newF (o : Own F M H) (hp : H p = none) : Own (upd F p x) M (upd H p x) where
  fr := fun b u e => by
    by_cases hb : b = p
    · subst hb
      rw [upd_same] at e ⊢
      exact e
    · rw [upd_ne hb] at e ⊢
      exact o.fr b u e
  mu := fun c hc => by
    rw [upd_ne (ne_of_none (o.mu c hc) hp)]
    exact o.mu c hc
  ap := fun c hc => by
    rw [upd_ne (ne_of_none (o.mu c hc) hp)]
    exact o.ap c hc
  nd := o.nd
theorem Own.newM' (o : Own F M H) (e : upd H p x = H') (hp : H p = none) : Own F ((p, x) :: M) H' := e ▸ o.newM hp
theorem Own.newF' (o : Own F M H) (e : upd H p x = H') (hp : H p = none) : Own (upd F p x) M H' := e ▸ o.newF hp
/-- made and forgotten -/
theorem Own.lose (o : Own F M H) (hp : H p = none) : Own F M (upd H p x) := ⟨(o.newM (x := x) hp).fr, fun c hc => (o.newM (x := x) hp).mu c (List.mem_cons_of_mem _ hc), o.ap, o.nd⟩
theorem Own.lose' (o : Own F M H) (e : upd H p x = H') (hp : H p = none) : Own F M H' := e ▸ o.lose hp
theorem Own.get (o : Own F M H) (i : Nat) (h : M[i]? = some (p, x) := by rfl) : H p = some x := o.mu (p, x) (List.mem_of_getElem? h)
theorem Own.apart (o : Own F M H) (i : Nat) (h : M[i]? = some (p, x) := by rfl) : F p = none := o.ap (p, x) (List.mem_of_getElem? h)
theorem mem_set {c d : Addr × HO} : ∀ {M : Cells} {i : Nat}, d ∈ M.set i c → d = c ∨ d ∈ M
  | [], _, h => by cases h
  | a :: r, 0, h => by
    rcases List.mem_cons.mp h with h | h
    · exact .inl h
    · exact .inr (List.mem_cons_of_mem _ h)
  | a :: r, i + 1, h => by
    rcases List.mem_cons.mp h with h | h
    · exact .inr (h ▸ List.mem_cons_self)
    · rcases mem_set (M := r) (i := i) h with h | h
      · exact .inl h
      · exact .inr (List.mem_cons_of_mem _ h)
theorem set_fst : ∀ {M : Cells} {i : Nat} {p : Addr} {x y : HO}, M[i]? = some (p, x) → (M.set i (p, y)).map Prod.fst = M.map Prod.fst
  | [], _, _, _, _, h => by cases h
  | a :: r, 0, p, x, y, h => by
    have e : a = (p, x) := Option.some.inj h
    subst e
    rfl
  | a :: r, i + 1, p, x, y, h => by
    show a.1 :: (r.set i (p, y)).map Prod.fst = a.1 :: r.map Prod.fst
    rw [set_fst (M := r) (i := i) (x := x) h]
theorem Own.set (o : Own F M H) (i : Nat) (h : M[i]? = some (p, x) := by rfl) : Own F (M.set i (p, y)) (upd H p y) where
  fr := fun b u e => by
    rw [upd_ne (ne_of_none e (o.apart i h))]
    exact o.fr b u e
  mu := fun c hc => by
    by_cases hp : c.1 = p
    · obtain ⟨a, b⟩ := c
      have hp : a = p := hp
      subst hp
      have nd := o.nd
      rw [← set_fst (y := y) h] at nd
      have h1 : (M.set i (a, y))[i]? = some (a, y) := by
        rw [List.getElem?_set_self (List.getElem?_eq_some_iff.mp h).1]
      obtain ⟨j, hj⟩ := List.getElem?_of_mem hc
      have n1 : ((M.set i (a, y)).map Prod.fst)[i]? = some a := by rw [List.getElem?_map, h1]; rfl
      have n2 : ((M.set i (a, y)).map Prod.fst)[j]? = some a := by rw [List.getElem?_map, hj]; rfl
      have e := nd_ix nd n1 n2
      subst e
      rw [h1] at hj
      cases hj
      exact upd_same
    · rw [upd_ne hp]
      rcases mem_set hc with e | hm
      · rw [e] at hp
        exact absurd rfl hp
      · exact o.mu c hm
  ap := fun c hc => by
    rcases mem_set hc with e | hm
    · rw [e]
      exact o.apart i h
    · exact o.ap c hm
  nd := by
    rw [set_fst h]
    exact o.nd
theorem Own.set' (o : Own F M H) (i : Nat) (e : upd H p y = H') (h : M[i]? = some (p, x) := by rfl) : Own F (M.set i (p, y)) H' := e ▸ o.set i h
/-- a cell is kept as it is from now on -/
theorem Own.fz (o : Own F M H) (i : Nat) (h : M[i]? = some (p, x) := by rfl) : Own (upd F p x) (M.eraseIdx i) H where
  fr := fun b u e => by
    by_cases hb : b = p
    · subst hb
      rw [upd_same] at e
      cases e
      exact o.get i h
    · rw [upd_ne hb] at e
      exact o.fr b u e
  mu := fun c hc => o.mu c (List.mem_of_mem_eraseIdx hc)
  ap := fun c hc => by
    have hm := List.mem_of_mem_eraseIdx hc
    have ne : c.1 ≠ p := fun e => by
      have h1 : (M.map Prod.fst)[i]? = some p := by rw [List.getElem?_map, h]; rfl
      obtain ⟨j, hj, hn⟩ : ∃ j, M[j]? = some c ∧ j ≠ i := by
        obtain ⟨j, hj⟩ := List.getElem?_of_mem hc
        rw [List.getElem?_eraseIdx] at hj
        split at hj
        · exact ⟨j, hj, by omega⟩
        · exact ⟨j + 1, hj, by omega⟩
      have h2 : (M.map Prod.fst)[j]? = some p := by rw [List.getElem?_map, hj, ← e]; rfl
      exact hn (nd_ix o.nd h2 h1)
    rw [upd_ne ne]
    exact o.ap c hm
  nd := o.nd.sublist ((List.eraseIdx_sublist M i).map _)
theorem Own.tail {c : Addr × HO} (o : Own F (c :: M) H) : Own F M H := ⟨o.fr, fun c hc => o.mu c (List.mem_cons_of_mem _ hc), fun c hc => o.ap c (List.mem_cons_of_mem _ hc), (List.nodup_cons.mp o.nd).2⟩
theorem Own.sub (o : Own F M H) (s : A.Sublist M) : Own F A H := ⟨o.fr, fun c hc => o.mu c (s.subset hc), fun c hc => o.ap c (s.subset hc), o.nd.sublist (s.map _)⟩
theorem Own.perm (o : Own F M H) (s : M.Perm A) : Own F A H := ⟨o.fr, fun c hc => o.mu c (s.symm.subset hc), fun c hc => o.ap c (s.symm.subset hc), (s.map _).nodup_iff.mp o.nd⟩
theorem Own.less (o : Own F M H) (s : Same F0 F) : Own F0 M H := ⟨s.trans o.fr, o.mu, fun c hc => s.free (o.ap c hc), o.nd⟩
end
/-! ### a def by its module name, its promise by positional values -/
def Ok1 (P : Program) (w : World) (K : PySem.W.Frag) (mg : Str → Option Value) (base : Heap) (x : Str) (k : Nat) (sp : Sp) : Prop :=
  ∃ f, mg x = some (.ref f) ∧ PySem.W.keepIn K (.ref f) = true ∧ FnR P w K mg base CX0 k f sp
def tOwn (sp : Sp) (t : TA) : TE := fun σ H Q => t σ H fun vs H1 => sp vs H1 Q E0
theorem pe_own {X : Cx} {k : Nat} {sp : Sp} {x : Str} {p pos : Pos} {e : Expr} {es : List Expr} {t : TA} (G : Ok1 X.prog X.w X.K X.mg X.base x k sp) (hr : Room k X.A) (hg : Gl X x)
    (ha : PA X (e :: es) t) (hdb : (x == ("__debug__" : Str)) = false := by decide) (he : starEach (e :: es) X.env = (false, eval e X.env) :: starEach es X.env := by rfl) (hpl : (backTo pos (starEach es X.env)).any (·.1) = false := by rfl) :
    PE X (.Call (.Name x p) (e :: es) [] pos) (tOwn sp t) := by
  obtain ⟨f, hm, hk, F⟩ := G
  refine ⟨fun pins s σ H Q I h => ?_⟩
  refine wpAny_Call_Name_kw (ld_glob I hg hm ?_ hdb)
  refine PySem.W.callWith_K (h₀ := X.base) I.ok.mod.kin hk (thn (ha.run pos pins s σ H _ I h) fun us s1 ⟨vs, H1, I1, r, q⟩ => ⟨I1.kIn, ?_⟩) he hpl
  exact wpAny_call (run_fnR F hr pass0 I1 r q)
theorem pe_own0 {X : Cx} {k : Nat} {sp : Sp} {x : Str} {p pos : Pos} (G : Ok1 X.prog X.w X.K X.mg X.base x k sp) (hr : Room k X.A) (hg : Gl X x) (hdb : (x == ("__debug__" : Str)) = false := by decide) :
    PE X (.Call (.Name x p) [] [] pos) (tOwn sp tNil) := by
  obtain ⟨f, hm, hk, F⟩ := G
  refine ⟨fun pins s σ H Q I h => ?_⟩
  refine wpAny_Call_Name_kw (ld_glob I hg hm ?_ hdb)
  exact PySem.W.callWith_K0 I.kIn hk (wpAny_call (run_fnR (us := []) F hr pass0 I .nil h))
/-- a def without defaults, by its body -/
theorem ok1_of {P : Program} {w : World} {K : PySem.W.Frag} {mg : Str → Option Value} {base : Heap} {x qual : Str} {params : Arguments} {body : List Stmt} {scope : Scope} {kws : List (Str × V)} {f : Addr} {fd : FuncData} {N ps : List Str} {k : Nat} {sp : Sp}
    (F : FunD K x qual params body scope [] kws f fd) (hm : mg x = some (.ref f)) (S : FnScope N ps scope) (len : ∀ vs H Q E, sp vs H Q E → vs.length = ps.length)
    (hb : ∀ (kV doc pm : Value) (an : Option Addr) (cdv ct : Value) (us : List Value), us.length = ps.length → bindArgs (PySem.W.fnOf x qual params body scope .none kV doc pm an cdv ct) ⟨us, []⟩ = pure (ps.zip us))
    (hbody : ∀ (cdv : Value) (A : Around) (outer : List Env) (s : Shared) (H : Hp) (vs : List V) (Q : VK) (E : XK), Room k (A.deeper (envOfC qual scope s.heap.objs.size f cdv)) → sp vs H Q E →
      ∃ t, PSs (cxOf CX0 P w K mg base N qual scope f cdv A outer s H E).nox body t ∧ t { nx := fun _ H' => Q .non H', rt := Q } (start N vs) H) : Ok1 P w K mg base x (k + 1) sp := by
  refine ⟨f, hm, F.kp, ?_⟩
  have G := F.ok (P := P) (w := w) (mg := mg) (base := base) (CX := CX0) S len fun cdv A outer s H vs Q E hr hsp => by
    obtain ⟨t, h, q⟩ := hbody cdv A outer s H vs Q E hr hsp
    exact ⟨t, h.nox, q⟩
  exact (G.raw (F.bindsN hb) .nil).imp fun vs H Q E h => by
    rw [List.append_nil]
    exact h
/-! ### promises by the number of their arguments -/
def sp0 (C : Hp → VK → Prop) : Sp := fun vs H Q _ => vs = [] ∧ C H Q
def sp1 (C : V → Hp → VK → Prop) : Sp := fun vs H Q _ => ∃ a, vs = [a] ∧ C a H Q
def sp2 (C : V → V → Hp → VK → Prop) : Sp := fun vs H Q _ => ∃ a b, vs = [a, b] ∧ C a b H Q
def sp3 (C : V → V → V → Hp → VK → Prop) : Sp := fun vs H Q _ => ∃ a b c, vs = [a, b, c] ∧ C a b c H Q
def sp4 (C : V → V → V → V → Hp → VK → Prop) : Sp := fun vs H Q _ => ∃ a b c d, vs = [a, b, c, d] ∧ C a b c d H Q
def sp5 (C : V → V → V → V → V → Hp → VK → Prop) : Sp := fun vs H Q _ => ∃ a b c d e, vs = [a, b, c, d, e] ∧ C a b c d e H Q
def sp6 (C : V → V → V → V → V → V → Hp → VK → Prop) : Sp := fun vs H Q _ => ∃ a b c d e f, vs = [a, b, c, d, e, f] ∧ C a b c d e f H Q
section
variable {vs : List V} {H : Hp} {Q : VK} {E : XK}
theorem sp0_len {C} (h : sp0 C vs H Q E) : vs.length = 0 := by
  obtain ⟨rfl, _⟩ := h
  rfl
theorem sp1_len {C} (h : sp1 C vs H Q E) : vs.length = 1 := by
  obtain ⟨_, rfl, _⟩ := h
  rfl
theorem sp2_len {C} (h : sp2 C vs H Q E) : vs.length = 2 := by
  obtain ⟨_, _, rfl, _⟩ := h
  rfl
theorem sp3_len {C} (h : sp3 C vs H Q E) : vs.length = 3 := by
  obtain ⟨_, _, _, rfl, _⟩ := h
  rfl
theorem sp4_len {C} (h : sp4 C vs H Q E) : vs.length = 4 := by
  obtain ⟨_, _, _, _, rfl, _⟩ := h
  rfl
theorem sp5_len {C} (h : sp5 C vs H Q E) : vs.length = 5 := by
  obtain ⟨_, _, _, _, _, rfl, _⟩ := h
  rfl
theorem sp6_len {C} (h : sp6 C vs H Q E) : vs.length = 6 := by
  obtain ⟨_, _, _, _, _, _, rfl, _⟩ := h
  rfl
end
/-! ### the source of draws -/
def iL (l : List Int) : List V := l.map V.int
/-- the cells of a source at a -/
def Src (a : Addr) (S : Cells) : Prop := ∃ (ag al : Addr) (g l : List Int) (c t : Int), S = [(a, .lst [.ref ag, .ref al, .int c, .int t]), (ag, .lst (iL g)), (al, .lst (iL l))]
def spSource (K : PySem.W.Frag) : Sp := sp1 fun v H Q => ∃ (a : Addr) (ns : List Int) (F : Hp) (M : Cells), v = .ref a ∧ SqL K F a (iL ns) ∧ ns.length ≤ 63 ∧ Own F M H ∧
  ∀ b S H', Src b S → Own F (S ++ M) H' → Q (.ref b) H'
/-- some number below the limit -/
def spDraw : Sp := sp2 fun v n H Q => ∃ (a : Addr) (m : Int) (F : Hp) (S M : Cells), v = .ref a ∧ n = .int m ∧ 0 < m ∧ m < 2 ^ 120 ∧ Src a S ∧ Own F (S ++ M) H ∧
  ∀ (r : Int) S' H', 0 ≤ r → r < m → Src a S' → Own F (S' ++ M) H' → Q (.int r) H'
/-! ### data -/
theorem Same.tup {K : PySem.W.Frag} {H H' : Hp} {a : Addr} {xs : List V} (e : Same H H') (h : SqT K H a xs) : SqT K H' a xs := by
  rcases h with (h | ⟨o, h⟩) | h
  · exact .inl (.inl (e _ _ h))
  · exact .inl (.inr ⟨o, e _ _ h⟩)
  · exact .inr h
mutual
theorem dp_mono {K : PySem.W.Frag} {H H' : Hp} (s : Same H H') : ∀ {v : V} {d : PyData}, Dp K H v d → Dp K H' v d
  | _, _, .non => .non
  | _, _, .bl b => .bl b
  | _, _, .int i => .int i
  | _, _, .str x => .str x
  | _, _, .lst h a => .lst (s.seq h) (dpAll_mono s a)
  | _, _, .tup h a => .tup (Same.tup s h) (dpAll_mono s a)
theorem dpAll_mono {K : PySem.W.Frag} {H H' : Hp} (s : Same H H') : ∀ {v : List V} {d : List PyData}, DpAll K H v d → DpAll K H' v d
  | _, _, .nil => .nil
  | _, _, .cons h t => .cons (dp_mono s h) (dpAll_mono s t)
end
theorem dpAll_iL {K : PySem.W.Frag} {H : Hp} : ∀ (l : List Int), DpAll K H (l.map V.int) (l.map PyData.int)
  | [] => .nil
  | n :: r => .cons (.int n) (dpAll_iL r)
theorem dpAll_strs {K : PySem.W.Frag} {H : Hp} : ∀ (l : List Str), DpAll K H (l.map V.str) (l.map PyData.str)
  | [] => .nil
  | n :: r => .cons (.str n) (dpAll_strs r)
end Ed

/-! ## Ed: readings, step by step -/
namespace Ed
open PySem PySem.Spec PyProof.Rows L2
/-! ### a statement, then the rest, with a word between them -/
def tCut (t u : TS) : TS := fun D σ H => ∃ Mid : L2.St → Hp → Prop, t { D with nx := Mid } σ H ∧ ∀ σ' H', Mid σ' H' → u D σ' H'
theorem pss_cut {X : Cx} {st : Stmt} {rest : List Stmt} {t u : TS} (h1 : PS X st t) (h2 : PSs X rest u) : PSs X (st :: rest) (tCut t u) := by
  refine ⟨fun pins s σ H D I h => ?_⟩
  obtain ⟨Mid, hm, hu⟩ := h
  refine wpAny_execs_cons (thn (h1.run pins s σ H { D with nx := Mid } I hm) fun f s1 q => ?_)
  cases f with
  | next =>
    obtain ⟨σ', H', I', q⟩ := q
    exact h2.run pins s1 σ' H' D I' (hu σ' H' q)
  | ret v => exact q
  | brk => exact q
  | cont => exact q
theorem r_cut {t u : TS} {D : Ends} {σ : L2.St} {H : Hp} (Mid : L2.St → Hp → Prop) (h : t { D with nx := Mid } σ H) (k : ∀ σ' H', Mid σ' H' → u D σ' H') : tCut t u D σ H := ⟨Mid, h, k⟩
/-! ### named readings of built-ins -/
def rInt1 : List V → Hp → VK → Prop := fun xs H Q => (∃ i, xs = [.int i] ∧ Q (.int i) H) ∨ ∃ k, xs = [.bl k] ∧ Q (.int (if k then 1 else 0)) H
def rLenQ (K : PySem.W.Frag) : List V → Hp → VK → Prop := fun xs H Q => ∃ p ys, xs = [.ref p] ∧ (SqL K H p ys ∨ SqT K H p ys) ∧ Q (.int ys.length) H
def rLenS : List V → Hp → VK → Prop := fun xs H Q => ∃ a : Str, xs = [.str a] ∧ a.length ≤ sizeLine ∧ Q (.int a.length) H
def rListOf (K : PySem.W.Frag) : List V → Hp → VK → Prop := fun xs H Q => ∃ p ys, xs = [.ref p] ∧ (SqL K H p ys ∨ SqT K H p ys) ∧ ∀ l, H l = none → Q (.ref l) (upd H l (.lst ys))
def rTupleOf (K : PySem.W.Frag) : List V → Hp → VK → Prop := fun xs H Q => ∃ p ys, xs = [.ref p] ∧ ((SqL K H p ys ∧ ∀ l, H l = none → Q (.ref l) (upd H l (.tup ys))) ∨ (SqT K H p ys ∧ Q (.ref p) H))
def rMin2 : List V → Hp → VK → Prop := fun xs H Q => ∃ i j, xs = [.int i, .int j] ∧ Q (.int (if j < i then j else i)) H
def rMax2 : List V → Hp → VK → Prop := fun xs H Q => ∃ i j, xs = [.int i, .int j] ∧ Q (.int (if j > i then j else i)) H
section
variable {X : Cx}
theorem c_int1 : CallR X (.type "int") rInt1 := call_int1
theorem c_len : CallR X (.builtin "len") (rLenQ X.K) := call_len_seq
theorem c_listOf : CallR X (.type "list") (rListOf X.K) := call_list_of
theorem c_tupleOf : CallR X (.type "tuple") (rTupleOf X.K) := call_tuple_of
theorem c_min2 (hc : X.calm = true) : CallR X (.builtin "min") rMin2 := call_min2 hc
theorem c_max2 (hc : X.calm = true) : CallR X (.builtin "max") rMax2 := call_max2 hc
end
theorem sz0 {xs : List V} (h : xs.length.ble 1000 = true := by rfl) : xs.length ≤ sizeLine := Nat.le_of_lt (small1000 (Nat.le_of_ble_eq_true h))
theorem sz1 {n : Nat} (h : n ≤ 1000) : n ≤ sizeLine := Nat.le_of_lt (small1000 h)
/-! ### rules that name the written part K -/
def tTruth (K : PySem.W.Frag) (ta : TE) : TT := fun σ H Q => ta σ H fun x H' => ∃ k, TruV K x H' k ∧ Q k H'
section
variable {X : Cx} {e a tg l : Expr} {ta tl : TE} {f : Str} {pos : Pos}
theorem kFld (K : PySem.W.Frag) (he : PE X e ta) (hb : attributeBase e f X.env (eval e X.env) = eval e X.env := by rfl) (hK : X.K = K := by rfl) : PE X (.Attribute e f pos) (tFld K ta f) := by
  subst hK
  exact pe_fld he hb
theorem kIxL (K : PySem.W.Frag) (hK : X.K = K := by rfl) : IxR X (rIxL K) := by
  subst hK
  exact ix_list
theorem kIxT (K : PySem.W.Frag) (hK : X.K = K := by rfl) : IxR X (rIxT K) := by
  subst hK
  exact ix_tup
theorem kSlL (K : PySem.W.Frag) (hK : X.K = K := by rfl) : SlR X (rSlL K) := by
  subst hK
  exact sl_list
theorem kSlT (K : PySem.W.Frag) (hK : X.K = K := by rfl) : SlR X (rSlT K) := by
  subst hK
  exact sl_tup
theorem kIn (K : PySem.W.Frag) (hK : X.K = K := by rfl) : OpR X (compareOp .In) (rIn K false) := by
  subst hK
  exact op_in_seq
theorem kNotIn (K : PySem.W.Frag) (hK : X.K = K := by rfl) : OpR X (compareOp .NotIn) (rIn K true) := by
  subst hK
  exact op_notIn_seq
theorem kEqD (K : PySem.W.Frag) (hu : X.A.units + 64 < cLine) (hK : X.K = K := by rfl) : OpR X (compareOp .Eq) (rEqD K) := by
  subst hK
  exact op_eqD hu
theorem kNeD (K : PySem.W.Frag) (hu : X.A.units + 64 < cLine) (hK : X.K = K := by rfl) : OpR X (compareOp .NotEq) (rNeD K) := by
  subst hK
  exact op_neD hu
theorem kPiL (K : PySem.W.Frag) (hl : PE X l tl) (hK : X.K = K := by rfl) : PI X tg l (iList K tl) := by
  subst hK
  exact pi_list hl
theorem kPiT (K : PySem.W.Frag) (hl : PE X l tl) (hK : X.K = K := by rfl) : PI X tg l (iTup K tl) := by
  subst hK
  exact pi_tup hl
theorem kLen (K : PySem.W.Frag) (hK : X.K = K := by rfl) : CallR X (.builtin "len") (rLenQ K) := by
  subst hK
  exact c_len
theorem kListOf (K : PySem.W.Frag) (hK : X.K = K := by rfl) : CallR X (.type "list") (rListOf K) := by
  subst hK
  exact c_listOf
theorem kTupleOf (K : PySem.W.Frag) (hK : X.K = K := by rfl) : CallR X (.type "tuple") (rTupleOf K) := by
  subst hK
  exact c_tupleOf
theorem kIsi (K : PySem.W.Frag) (hK : X.K = K := by rfl) : CallR X (.builtin "isinstance") (rIsi K) := by
  subst hK
  exact call_isi
theorem kIdx (K : PySem.W.Frag) (hK : X.K = K := by rfl) : MtR X "list.index" (rIndex K) := by
  subst hK
  exact mt_index
theorem kTruth (K : PySem.W.Frag) (ha : PE X a ta) (he : ∀ whole, isTrue a X.env whole = (do let v ← whole; standAt a.pos; holding [v] (truthy v)) := by intro _; rfl) (hK : X.K = K := by rfl) : PT X a (tTruth K ta) := by
  subst hK
  exact pt_truth ha he
end
/-- a new tuple, a new list of xs -/
def NewT (xs : List V) (H : Hp) (Q : VK) : Prop := xs.length ≤ sizeLine ∧ ∀ p, H p = none → Q (.ref p) (upd H p (.tup xs))
def NewL (xs : List V) (H : Hp) (Q : VK) : Prop := xs.length ≤ sizeLine ∧ ∀ p, H p = none → Q (.ref p) (upd H p (.lst xs))
section
variable {K : PySem.W.Frag} {σ : L2.St} {H : Hp} {Q : VK} {D : Ends} {t u : TS} {te ta tb tc : TE} {tt tu : TT} {tr : TA} {g : TG} {i : Nat} {v x y : V} {r r' : R2} {F : Hp} {M : Cells} {p q l : Addr} {xs ys vs : List V} {n m : Int} {b : Bool}
  {QA : List V → Hp → Prop} {QB : Bool → Hp → Prop} {QS : L2.St → Hp → Prop}
theorem r_seq (h : t { D with nx := u D } σ H) : tSeq t u D σ H := h
theorem r_next (h : D.nx σ H) : tNext D σ H := h
theorem r_asg (h : te σ H fun x H1 => g x σ H1 D.nx) : tAsg te g D σ H := h
theorem r_drop (h : te σ H fun _ H1 => D.nx σ H1) : tDrop te D σ H := h
theorem r_ret (h : te σ H D.rt) : tRet te D σ H := h
theorem r_retN (h : D.rt .non H) : tRetN D σ H := h
theorem r_brk (h : D.bk σ H) : tBreak D σ H := h
theorem r_cont (h : D.ct σ H) : tCont D σ H := h
theorem r_if (h : tt σ H fun b H1 => if b = true then t D σ H1 else u D σ H1) : tIfS tt t u D σ H := h
theorem r_ifE (h : tt σ H fun b H1 => if b = true then ta σ H1 Q else tb σ H1 Q) : tIf tt ta tb σ H Q := h
theorem r_name (h : QS (σ.set i (some v)) H) : gName i v σ H QS := h
theorem r_sub {to ti : TE} {s : TSet} (h : to σ H fun o H1 => ti σ H1 fun i H2 => s o i v H2 fun H3 => QS σ H3) : gSub to ti s v σ H QS := h
theorem r_gtup {gs : TGs} {k : Nat} (h : SqT K H p xs) (hl : xs.length = k) (hq : gs xs σ H QS) : gTup K k gs (.ref p) σ H QS := ⟨p, xs, rfl, h, hl, hq⟩
theorem r_gcons {gs : TGs} (h : g v σ H fun σ' H' => gs xs σ' H' QS) : gCons g gs (v :: xs) σ H QS := ⟨v, xs, rfl, h⟩
theorem r_gnil (h : QS σ H) : gNil [] σ H QS := ⟨rfl, h⟩
theorem r_var (h : σ[i]? = some (some v)) (q : Q v H) : tVar i σ H Q := ⟨v, h, q⟩
theorem r_c (q : Q v H) : tC v σ H Q := q
theorem r_op (h : ta σ H fun x H1 => tb σ H1 fun y H2 => r x y H2 Q) : tOp r ta tb σ H Q := h
theorem r_un {r : V → Hp → VK → Prop} (h : ta σ H fun x H1 => r x H1 Q) : tUn r ta σ H Q := h
theorem r_I0 {g : Int → Int → V} (q : Q (g n m) H) : rI0 g (.int n) (.int m) H Q := ⟨n, m, rfl, rfl, q⟩
theorem r_I {C : Int → Int → Prop} {g : Int → Int → V} (c : C n m) (q : Q (g n m) H) : rI C g (.int n) (.int m) H Q := ⟨n, m, rfl, rfl, c, q⟩
theorem r_U {g : Int → V} (q : Q (g n) H) : rU g (.int n) H Q := ⟨n, rfl, q⟩
theorem r_eq (h : scal x y = true) (q : Q (.bl (decide (x = y))) H) : rEq x y H Q := ⟨h, q⟩
theorem r_ne (h : scal x y = true) (q : Q (.bl (!decide (x = y))) H) : rNe x y H Q := ⟨h, q⟩
theorem r_test (h : te σ H fun x H' => ∃ k, x = .bl k ∧ QB k H') : tTest te σ H QB := h
theorem r_B (h : te σ H fun x H' => ∃ k, x = .bl k ∧ QB k H') : tB te σ H QB := h
theorem r_isbl (q : QB b H) : ∃ k, V.bl b = .bl k ∧ QB k H := ⟨b, rfl, q⟩
theorem r_and (h : tt σ H fun c H1 => if c = true then tu σ H1 QB else QB false H1) : tAnd tt tu σ H QB := h
theorem r_or (h : tt σ H fun c H1 => if c = true then QB true H1 else tu σ H1 QB) : tOr tt tu σ H QB := h
theorem r_yes (q : QB true H) : tYes σ H QB := q
theorem r_not (h : tt σ H fun c H1 => QB (!c) H1) : tNot tt σ H QB := h
theorem r_andV (h : ta σ H fun x H1 => ∃ c, x = .bl c ∧ if c = true then tb σ H1 Q else Q (.bl false) H1) : tAndV ta tb σ H Q := h
theorem r_orV (h : ta σ H fun x H1 => ∃ c, x = .bl c ∧ if c = true then Q (.bl true) H1 else tb σ H1 Q) : tOrV ta tb σ H Q := h
theorem r_notV (h : ta σ H fun x H1 => ∃ c, x = .bl c ∧ Q (.bl (!c)) H1) : tNotV ta σ H Q := h
theorem r_chain (h : ta σ H fun x H1 => tb σ H1 fun y H2 => r x y H2 fun z H3 => ∃ k, z = .bl k ∧ (if k = true then tc σ H3 fun w' H4 => r' y w' H4 Q else Q (.bl false) H3)) : tChain r r' ta tb tc σ H Q := h
theorem r_nil (q : QA [] H) : tNil σ H QA := q
theorem r_cons (h : ta σ H fun x H1 => tr σ H1 fun xs H2 => QA (x :: xs) H2) : tCons ta tr σ H QA := h
theorem r_cb {r : List V → Hp → VK → Prop} (h : tr σ H fun vs H1 => r vs H1 Q) : tCB r tr σ H Q := h
theorem r_own {sp : Sp} (h : tr σ H fun vs H1 => sp vs H1 Q E0) : tOwn sp tr σ H Q := h
theorem r_int (q : Q (.int n) H) : rInt1 [.int n] H Q := .inl ⟨n, rfl, q⟩
theorem r_intB (q : Q (.int (if b then 1 else 0)) H) : rInt1 [.bl b] H Q := .inr ⟨b, rfl, q⟩
theorem r_len (h : SqL K H p xs) (q : Q (.int xs.length) H) : rLenQ K [.ref p] H Q := ⟨p, xs, rfl, .inl h, q⟩
theorem r_lenT (h : SqT K H p xs) (q : Q (.int xs.length) H) : rLenQ K [.ref p] H Q := ⟨p, xs, rfl, .inr h, q⟩
theorem r_min2 (q : Q (.int (if m < n then m else n)) H) : rMin2 [.int n, .int m] H Q := ⟨n, m, rfl, q⟩
theorem r_ixL (h : SqL K H p xs) (ha : atI xs n = some v) (q : Q v H) : rIxL K (.ref p) (.int n) H Q := ⟨p, xs, n, v, rfl, rfl, h, ha, q⟩
theorem r_ixT (h : SqT K H p xs) (ha : atI xs n = some v) (q : Q v H) : rIxT K (.ref p) (.int n) H Q := ⟨p, xs, n, v, rfl, rfl, h, ha, q⟩
theorem r_fld {C dx : Addr} {f : Str} {fs : List (Str × V)} (h : H p = some (.ins C dx fs)) (hc : Cls K C) (hn : NoAttr K C f) (hl : fs.lookup f = some v) (q : Q v H) : (fun x H1 => ∃ a C dx fs v, x = .ref a ∧ H1 a = some (.ins C dx fs) ∧ Cls K C ∧ NoAttr K C f ∧ fs.lookup f = some v ∧ Q v H1) (V.ref p) H := ⟨p, C, dx, fs, v, rfl, h, hc, hn, hl, q⟩
theorem r_tfld {f : Str} (h : ta σ H fun x H1 => (fun x H1 => ∃ a C dx fs v, x = .ref a ∧ H1 a = some (.ins C dx fs) ∧ Cls K C ∧ NoAttr K C f ∧ fs.lookup f = some v ∧ Q v H1) x H1) : tFld K ta f σ H Q := h
/-! allocations -/
theorem r_tup (h : tr σ H fun xs H1 => NewT xs H1 Q) : tTup tr σ H Q := h
theorem r_lst (h : tr σ H fun xs H1 => NewL xs H1 Q) : tLst tr σ H Q := h
theorem newT (o : Own F M H) (k : ∀ p H', F p = none → Own (upd F p (.tup xs)) M H' → Q (.ref p) H') (hl : xs.length ≤ sizeLine := by exact sz0) : NewT xs H Q := ⟨hl, fun p hp => k p _ (o.free hp) (o.newF hp)⟩
theorem newL (o : Own F M H) (k : ∀ p H', F p = none → Own F ((p, .lst xs) :: M) H' → Q (.ref p) H') (hl : xs.length ≤ sizeLine := by exact sz0) : NewL xs H Q := ⟨hl, fun p hp => k p _ (o.free hp) (o.newM hp)⟩
/-- a list that is kept as it is -/
theorem newLF (o : Own F M H) (k : ∀ p H', F p = none → Own (upd F p (.lst xs)) M H' → Q (.ref p) H') (hl : xs.length ≤ sizeLine := by exact sz0) : NewL xs H Q := ⟨hl, fun p hp => k p _ (o.free hp) (o.newF hp)⟩
theorem r_listOf (o : Own F M H) (h : SqL K H p xs ∨ SqT K H p xs) (k : ∀ l H', F l = none → Own F ((l, .lst xs) :: M) H' → Q (.ref l) H') : rListOf K [.ref p] H Q := ⟨p, xs, rfl, h, fun l hl => k l _ (o.free hl) (o.newM hl)⟩
theorem r_tupleOf (o : Own F M H) (h : SqL K H p xs) (k : ∀ l H', F l = none → Own (upd F l (.tup xs)) M H' → Q (.ref l) H') : rTupleOf K [.ref p] H Q := ⟨p, xs, rfl, .inl ⟨h, fun l hl => k l _ (o.free hl) (o.newF hl)⟩⟩
theorem r_slL {lo hi : Option Int} (o : Own F M H) (h : SqL K H p xs) (k : ∀ l H', F l = none → Own F ((l, .lst (cutV xs lo hi)) :: M) H' → Q (.ref l) H') : rSlL K (.ref p) lo hi H Q := ⟨p, xs, rfl, h, fun l hl => k l _ (o.free hl) (o.newM hl)⟩
theorem r_sl {r : V → Option Int → Option Int → Hp → VK → Prop} {tl th : TO} (h : te σ H fun x H1 => tl σ H1 fun l H2 => th σ H2 fun u H3 => r x l u H3 Q) : tSl r te tl th σ H Q := h
theorem r_nopart {Qo : Option Int → Hp → Prop} (q : Qo none H) : tNoPart σ H Qo := q
theorem r_part {Qo : Option Int → Hp → Prop} (h : te σ H fun x H1 => ∃ i, x = .int i ∧ Qo (some i) H1) : tPart te σ H Qo := h
theorem r_isint {Qo : Option Int → Hp → Prop} (q : Qo (some n) H) : ∃ i, V.int n = .int i ∧ Qo (some i) H := ⟨n, rfl, q⟩
theorem r_cat (o : Own F M H) (h1 : H p = some (.lst xs)) (h2 : H q = some (.lst ys)) (hl : xs.length + ys.length ≤ sizeLine) (k : ∀ l H', F l = none → Own F ((l, .lst (xs ++ ys)) :: M) H' → Q (.ref l) H') : rCat (.ref p) (.ref q) H Q :=
  ⟨p, q, xs, ys, rfl, rfl, h1, h2, hl, fun l hl => k l _ (o.free hl) (o.newM hl)⟩
/-! stores -/
theorem r_bm {T : String} {r : V → List V → Hp → VK → Prop} (h : ta σ H fun x H1 => tyV K T x H1 ∧ tr σ H1 fun xs H2 => r x xs H2 Q) : tBM K T r ta tr σ H Q := h
theorem r_bm0 {T : String} {r : V → List V → Hp → VK → Prop} (h : ta σ H fun x H1 => tyV K T x H1 ∧ r x [] H1 Q) : tBM0 K T r ta σ H Q := h
theorem r_tyL {R : Prop} (h : SqL K H p xs) (k : R) : tyV K "list" (.ref p) H ∧ R := ⟨.inl ⟨rfl, xs, h⟩, k⟩
theorem r_append (o : Own F M H) (i : Nat) (h : M[i]? = some (l, .lst xs)) (hl : xs.length < sizeLine) (k : ∀ H', Own F (M.set i (l, .lst (xs ++ [y]))) H' → Q .non H') : rAppend (.ref l) [y] H Q := ⟨l, xs, y, rfl, rfl, o.get i h, hl, k _ (o.set i h)⟩
theorem r_popAt (o : Own F M H) (i : Nat) (h : M[i]? = some (l, .lst xs)) {j : Nat} (h1 : -(2 ^ 63) ≤ n) (h2 : n < 2 ^ 63) (hj : seqIndex? n xs.length = some j) (hy : xs[j]? = some y) (k : ∀ H', Own F (M.set i (l, .lst (xs.eraseIdx j))) H' → Q y H') : rPopAt (.ref l) [.int n] H Q :=
  ⟨l, xs, n, j, y, rfl, rfl, o.get i h, h1, h2, hj, hy, k _ (o.set i h)⟩
theorem r_setL (o : Own F M H) (i : Nat) (h : M[i]? = some (l, .lst xs)) {j : Nat} (hj : ixN xs.length n = some j) {R : Hp → Prop} (k : ∀ H', Own F (M.set i (l, .lst (xs.set j v))) H' → R H') : rSetL (.ref l) (.int n) v H R :=
  ⟨l, xs, n, j, rfl, rfl, o.get i h, hj, k _ (o.set i h)⟩
theorem r_neD {d e : PyData} (h1 : Dp K H x d) (h2 : Dp K H y e) (s1 : SeqAt.shaped d = true) (s2 : SeqAt.shaped e = true) (q : Q (.bl (!PyData.eqv d e)) H) : rNeD K x y H Q := ⟨d, e, h1, h2, s1, s2, q⟩
theorem r_eqD {d e : PyData} (h1 : Dp K H x d) (h2 : Dp K H y e) (s1 : SeqAt.shaped d = true) (s2 : SeqAt.shaped e = true) (q : Q (.bl (PyData.eqv d e)) H) : rEqD K x y H Q := ⟨d, e, h1, h2, s1, s2, q⟩
end
/-! ### loops -/
def ForB (J : It) (g : TG) (tb : TS) (D : Ends) (σ : L2.St) (H1 : Hp) : Prop := ∃ W : Nat → Nat → L2.St → Hp → Prop, (∃ m, W 0 m σ H1) ∧ ∀ i m σ H, W i m σ H →
  (J.stop i H ∧ D.nx σ H) ∨ (J.go i H ∧ ∃ N : L2.St → Hp → Prop, (∀ σ' H', N σ' H' → ∃ m', m' < m ∧ W (i + 1) m' σ' H') ∧ ∀ x H', J.yld i H x H' → g x σ H' fun σ2 H2 => tb { D with nx := N, ct := N, bk := D.nx } σ2 H2)
def LcB (J : It) (g : TG) (tt : TT) (te : TE) (vs : List Nat) (σ : L2.St) (Q : VK) (H1 : Hp) : Prop := ∀ D, H1 D = none → ∃ W : Nat → Nat → Hp → Prop, (∃ m, W 0 m (upd H1 D (.lst []))) ∧ ∀ i m H, W i m H →
  (J.stop i H ∧ Q (.ref D) H) ∨ (J.go i H ∧ ∃ Nx : Hp → Prop, (∀ H', Nx H' → ∃ m', m' < m ∧ W (i + 1) m' H') ∧ ∀ x H', J.yld i H x H' → g x (wipe σ vs) H' fun σ2 H2 => wipe σ2 vs = wipe σ vs ∧ tt σ2 H2 fun b H3 =>
    if b = true then te σ2 H3 fun y H4 => ∃ acc, H4 D = some (.lst acc) ∧ acc.length < sizeLine ∧ Nx (upd H4 D (.lst (acc ++ [y]))) else Nx H3)
section
variable {K : PySem.W.Frag} {σ : L2.St} {H : Hp} {Q : VK} {D : Ends} {tb : TS} {te ta : TE} {tt : TT} {tr : TA} {g : TG} {wi : TI} {vs : List Nat} {F : Hp} {M : Cells} {J : It} {n : Nat} {G : Hp → Prop} {Y : Nat → Hp → V → Hp → Prop}
theorem r_for (h : wi σ H fun J H1 => ForB J g tb D σ H1) : tFor wi g tb D σ H := h
theorem r_lc (h : wi σ H fun J H1 => LcB J g tt te vs σ Q H1) : tLc wi g tt te vs σ H Q := h
theorem r_iList {R : It → Hp → Prop} (h : te σ H fun x H1 => ∃ a, x = .ref a ∧ (∃ xs, SqL K H1 a xs) ∧ R (Itl K a) H1) : iList K te σ H R := h
theorem r_iTup {R : It → Hp → Prop} (h : te σ H fun x H1 => ∃ a, x = .ref a ∧ (∃ xs, SqT K H1 a xs) ∧ R (Itt K a) H1) : iTup K te σ H R := h
theorem r_iRng1 {R : It → Hp → Prop} (h : tr σ H fun vs H1 => ∃ j : Int, vs = [.int j] ∧ -(2 ^ 62) ≤ j ∧ j < 2 ^ 62 ∧ R (Itr 0 j.toNat) H1) : iRng1 tr σ H R := h
theorem r_iRng2 {R : It → Hp → Prop} (h : tr σ H fun vs H1 => ∃ i j : Int, vs = [.int i, .int j] ∧ (-(2 ^ 62) ≤ i ∧ i < 2 ^ 62 ∧ -(2 ^ 62) ≤ j ∧ j < 2 ^ 62) ∧ R (Itr i (j - i).toNat) H1) : iRng2 tr σ H R := h
theorem r_exL {R : Prop} {p : Addr} {xs : List V} (h : SqL K H p xs) (k : R) : (∃ xs, SqL K H p xs) ∧ R := ⟨⟨xs, h⟩, k⟩
theorem r_exT {R : Prop} {p : Addr} {xs : List V} (h : SqT K H p xs) (k : R) : (∃ xs, SqT K H p xs) ∧ R := ⟨⟨xs, h⟩, k⟩
theorem r_wipe {R : Prop} {σ2 : L2.St} (h : wipe σ2 vs = wipe σ vs) (k : R) : wipe σ2 vs = wipe σ vs ∧ R := ⟨h, k⟩
theorem r_bnd {R : Prop} {j : Int} (h1 : -(2 ^ 62) ≤ j) (h2 : j < 2 ^ 62) (k : R) : -(2 ^ 62) ≤ j ∧ j < 2 ^ 62 ∧ R := ⟨h1, h2, k⟩
theorem forb (w : Walk J n G Y) (Pv : Nat → L2.St → Hp → Prop) (h0 : Pv 0 σ H) (hG : ∀ i σ H, i ≤ n → Pv i σ H → G H)
    (hs : ∀ i x σ H H', i < n → Pv i σ H → Y i H x H' → g x σ H' fun σ2 H2 => tb { D with nx := Pv (i + 1), ct := Pv (i + 1), bk := D.nx } σ2 H2) (hd : ∀ σ H, Pv n σ H → D.nx σ H) : ForB J g tb D σ H := for_it w Pv h0 hG hs hd
theorem forb_range {lo : Int} (Pv : Nat → L2.St → Hp → Prop) (h0 : Pv 0 σ H)
    (hs : ∀ i σ H, i < n → Pv i σ H → g (.int (lo + i)) σ H fun σ2 H2 => tb { D with nx := Pv (i + 1), ct := Pv (i + 1), bk := D.nx } σ2 H2) (hd : ∀ σ H, Pv n σ H → D.nx σ H) : ForB (Itr lo n) g tb D σ H := for_range Pv h0 hs hd
theorem forb_list {a : Addr} {xs : List V} (Pv : Nat → L2.St → Hp → Prop) (h0 : Pv 0 σ H) (hl : ∀ i σ H, i ≤ xs.length → Pv i σ H → SqL K H a xs)
    (hs : ∀ i x σ H, xs[i]? = some x → Pv i σ H → g x σ H fun σ2 H2 => tb { D with nx := Pv (i + 1), ct := Pv (i + 1), bk := D.nx } σ2 H2) (hd : ∀ σ H, Pv xs.length σ H → D.nx σ H) : ForB (Itl K a) g tb D σ H := for_list Pv h0 hl hs hd
theorem forb_tup {a : Addr} {xs : List V} (Pv : Nat → L2.St → Hp → Prop) (h0 : Pv 0 σ H) (hl : ∀ i σ H, i ≤ xs.length → Pv i σ H → SqT K H a xs)
    (hs : ∀ i x σ H, xs[i]? = some x → Pv i σ H → g x σ H fun σ2 H2 => tb { D with nx := Pv (i + 1), ct := Pv (i + 1), bk := D.nx } σ2 H2) (hd : ∀ σ H, Pv xs.length σ H → D.nx σ H) : ForB (Itt K a) g tb D σ H := for_tup Pv h0 hl hs hd
/-- a comprehension's list grows at D; I: what holds of the items gone through, the list so far, what is kept and what is owned beside -/
abbrev LcI := Nat → List V → Hp → Cells → Prop
def LcN (I : LcI) (D : Addr) (i : Nat) (y : V) (H : Hp) : Prop := ∃ acc F M, acc.length < sizeLine ∧ I (i + 1) (acc ++ [y]) F M ∧ Own F ((D, .lst acc) :: M) H
def LcS (I : LcI) (D : Addr) (i : Nat) (H : Hp) : Prop := ∃ acc F M, I (i + 1) acc F M ∧ Own F ((D, .lst acc) :: M) H
theorem lcb (w : Walk J n G Y) (o : Own F M H) (I : LcI) (h0 : I 0 [] F M) (hG : ∀ D i acc F' M' H', i ≤ n → I i acc F' M' → Own F' ((D, .lst acc) :: M') H' → G H')
    (hs : ∀ D i x acc F' M' H H', i < n → I i acc F' M' → Own F' ((D, .lst acc) :: M') H → Y i H x H' → g x (wipe σ vs) H' fun σ2 H2 => wipe σ2 vs = wipe σ vs ∧ tt σ2 H2 fun b H3 => if b = true then te σ2 H3 fun y H4 => ∃ acc, H4 D = some (.lst acc) ∧ acc.length < sizeLine ∧ LcS I D i (upd H4 D (.lst (acc ++ [y]))) else LcS I D i H3)
    (hd : ∀ D acc F' M' H', F D = none → I n acc F' M' → Own F' ((D, .lst acc) :: M') H' → Q (.ref D) H') : LcB J g tt te vs σ Q H := fun D hD =>
  lc_it w (fun i H' => ∃ acc F' M', I i acc F' M' ∧ Own F' ((D, .lst acc) :: M') H') ⟨[], F, M, h0, o.newM hD⟩ (fun i H' hi ⟨acc, F', M', h, o'⟩ => hG D i acc F' M' H' hi h o')
    (fun i x H' H'' hi ⟨acc, F', M', h, o'⟩ hy => hs D i x acc F' M' H' H'' hi h o' hy) (fun H' ⟨acc, F', M', h, o'⟩ => hd D acc F' M' H' (o.free hD) h o')
/-- the element is y: it goes to the list -/
theorem lcN {I : LcI} {D0 : Addr} {i : Nat} {y : V} (h : LcN I D0 i y H) : ∃ acc, H D0 = some (.lst acc) ∧ acc.length < sizeLine ∧ LcS I D0 i (upd H D0 (.lst (acc ++ [y]))) := by
  obtain ⟨acc, F, M, hl, hi, o⟩ := h
  exact ⟨acc, o.get 0, hl, _, F, M, hi, o.set 0⟩
end
theorem cdivW_of {i j : Int} (h0 : 0 < j) (h1 : j < 2 ^ 120) : CDivW i j := wide_div (b := 120) h0 (by omega) (by decide) (by decide)
theorem six {k : Int} {n j : Nat} (e : k = (j : Int)) (h : j < n) : seqIndex? k n = some j := by
  subst e
  rw [seqIndex_of (Int.natCast_nonneg j) (by omega), Int.toNat_natCast]
theorem iix {k : Int} {n j : Nat} (e : k = (j : Int)) (h : j < n) : ixN n k = some j := by
  subst e
  unfold ixN
  rw [if_pos (Int.natCast_nonneg j), if_pos (by omega), Int.toNat_natCast]
theorem get_iL {l : List Int} {j : Nat} (h : j < l.length) : (iL l)[j]? = some (.int l[j]) := by
  unfold iL
  rw [List.getElem?_map, List.getElem?_eq_getElem h]
  rfl
theorem len_iL (l : List Int) : (iL l).length = l.length := List.length_map _
def cutL {α : Type} (xs : List α) (lo hi : Option Int) : List α := (xs.drop (HT.sIx xs.length 0 lo)).take (HT.sIx xs.length xs.length hi - HT.sIx xs.length 0 lo)
theorem cutV_eq (xs : List V) (lo hi : Option Int) : cutV xs lo hi = cutL xs lo hi := rfl
theorem cutL_map {α β : Type} (f : α → β) (xs : List α) (lo hi : Option Int) : cutL (xs.map f) lo hi = (cutL xs lo hi).map f := by
  unfold cutL
  rw [List.length_map, List.map_take, List.map_drop]
theorem cutL_len {α : Type} (xs : List α) (lo hi : Option Int) : (cutL xs lo hi).length ≤ xs.length := by
  unfold cutL
  rw [List.length_take, List.length_drop]
  omega
theorem cut_iL (l : List Int) (lo hi : Option Int) : cutV (iL l) lo hi = iL (cutL l lo hi) := cutL_map _ _ _ _
theorem iL_get {l : List Int} {i : Nat} {x : V} (h : (iL l)[i]? = some x) : ∃ n, l[i]? = some n ∧ x = .int n := by
  unfold iL at h
  rw [List.getElem?_map] at h
  cases e : l[i]? with
  | none =>
    rw [e] at h
    cases h
  | some n =>
    rw [e] at h
    exact ⟨n, rfl, (Option.some.inj h).symm⟩
theorem iL_app (l : List Int) (n : Int) : iL l ++ [.int n] = iL (l ++ [n]) := by
  unfold iL
  rw [List.map_append]
  rfl
/-! shapes of data -/
def Shp (n : Nat) (d : PyData) : Prop := d.canLay0 = true ∧ d.depth ≤ n
theorem shp_int (n : Nat) (i : Int) : Shp n (.int i) := ⟨rfl, Nat.zero_le _⟩
theorem shp_bool (n : Nat) (b : Bool) : Shp n (.bool b) := ⟨rfl, Nat.zero_le _⟩
theorem shp_none (n : Nat) : Shp n .none := ⟨rfl, Nat.zero_le _⟩
theorem shp_str (n : Nat) {x : Str} (h : PyData.canLay0 (.str x) = true) : Shp n (.str x) := ⟨h, Nat.zero_le _⟩
theorem shp_all {n : Nat} : ∀ {ds : List PyData}, (∀ d ∈ ds, Shp n d) → PyData.canLayAll0 ds = true ∧ PyData.depthAll ds ≤ n
  | [], _ => ⟨rfl, Nat.zero_le _⟩
  | d :: ds, h => by
    have h1 := h d List.mem_cons_self
    have h2 := shp_all (ds := ds) fun e he => h e (List.mem_cons_of_mem _ he)
    refine ⟨?_, ?_⟩
    · rw [PyData.canLayAll0, h1.1, h2.1]
      rfl
    · rw [PyData.depthAll]
      exact Nat.max_le.mpr ⟨h1.2, h2.2⟩
theorem shp_list {n : Nat} {ds : List PyData} (h : ∀ d ∈ ds, Shp n d) : Shp (n + 1) (.list ds) := by
  have z := shp_all h
  exact ⟨by rw [PyData.canLay0]; exact z.1, by rw [PyData.depth]; exact Nat.succ_le_succ z.2⟩
theorem shp_tuple {n : Nat} {ds : List PyData} (h : ∀ d ∈ ds, Shp n d) : Shp (n + 1) (.tuple ds) := by
  have z := shp_all h
  exact ⟨by rw [PyData.canLay0]; exact z.1, by rw [PyData.depth]; exact Nat.succ_le_succ z.2⟩
theorem Shp.shaped {n : Nat} {d : PyData} (h : Shp n d) (hn : n ≤ 64 := by decide) : SeqAt.shaped d = true := by
  unfold SeqAt.shaped
  rw [h.1, decide_eq_true (Nat.le_trans h.2 hn)]
  rfl
theorem shp_iL (g : List Int) : Shp 1 (.list (g.map .int)) := shp_list fun d hd => by
  obtain ⟨i, _, rfl⟩ := List.mem_map.mp hd
  exact shp_int _ _
theorem eqv_iL_nil (g : List Int) : PyData.eqv (.list (g.map .int)) (.list []) = g.isEmpty := by
  cases g <;> rfl
end Ed

/-! ## Ed: own classes: methods, making, ==, !=, len -/
namespace Ed
open PySem PySem.Spec PyProof.Rows L2
section
variable {prog : Program} {w : World} {A : Around} {E : Value → Shared → Prop} {s : Shared} {K : PySem.W.Frag} {x C f : Addr} {ox : Obj} {od : Option Obj} {b tb : Value}
theorem ifBound_objNe {M : Model} {args : List Value} {Q : Option Value → Shared → Prop} (X : K.In s.heap) (I : PySem.W.InstAt s.heap x ox C od) (hs : PySem.W.findIn K (.ref C) "__ne__" = some (some (.builtin "object.__ne__")))
    (h : wpAny M A (call (.builtin "object.__ne__") (.ref x :: args)) (fun v => Q (some v)) E s) : wpAny M A (callSpecialIfBound? (.ref x) "__ne__" args) Q E s := by
  simp only [callSpecialIfBound?, bindSpecialIfBound?]
  refine wpAny_holding (wpAny_bind (wpAny_bind (wpAny_bind (I.type.here ((PySem.W.looks_findIn X hs).here ?_)))))
  refine wpAny_bind (wpAny_askSetting (wpAny_ite ?_))
  have fin : wpAny M A (call (.builtin "object.__ne__") ([.ref x] ++ args) >>= fun v => pure (some v)) Q E s := wpAny_bind (wpAny_mono h (fun v s' h' => wpAny_pure h') fun _ _ h' => h')
  split
  · exact wpAny_bind (wpAny_of_eq (F.cmp_object.ne.bind _) (wpAny_pure (by exact fin)))
  · exact wpAny_tryCatch (wpAny_bind (wpAny_of_eq (F.cmp_object.ne.bind _) (wpAny_pure (by exact fin))))
theorem objNe_entry (X : K.In s.heap) (I : PySem.W.InstAt s.heap x ox C od) (hu : A.units < cLine) (hs : PySem.W.findIn K (.ref C) "__eq__" = some (some (.ref f))) (hf : PySem.W.isFn K (.ref f) = true) {Q : Fin → Shared → Prop}
    (hcall : wpAny (model prog w) A (call (.ref f) [.ref x, b]) (fun v s' => ∃ k, v = .bool k ∧ Q (.done (.ret (.bool (!k)))) s') E s) :
    wpAny (model prog w) A (Builtin.«object.__ne__» ⟨[.ref x, b], []⟩) Q E s := by
  unfold Builtin.«object.__ne__»
  repeat (first
    | with_reducible refine wpAny_cRoomFor hu ?_
    | (refine wpAny_bind (m := callSpecialIfBound? (.ref x) (Str.ofString "__eq__") [b])
        (PySem.W.ifBound_K X I hs hf (wpAny_mono hcall (fun r s' hr => by
          obtain ⟨k, rfl, hq⟩ := hr
          repeat (first | exact hq | exact wpAny_pure hq | exact wpAny_truthy_bool hq | (refine wpAny_bind (m := truthy (.bool _)) (wpAny_truthy_bool ?_)) | wp_step)) fun _ _ e => e)))
    | wp_step)
/-- x != b, x an instance with its own == and no own != -/
theorem ne_own {Q : Value → Shared → Prop} (hu : A.units + 1 < cLine) (X : K.In s.heap) (I : PySem.W.InstAt s.heap x ox C od) (hb : PySem.W.Looks (model prog w) s.heap (typeOf b) tb) (hn : PySem.W.notFirst K C tb = true)
    (hm : PySem.W.mroIn K C (.type "object") = some true) (hne : PySem.W.findIn K (.ref C) "__ne__" = some (some (.builtin "object.__ne__"))) (hs : PySem.W.findIn K (.ref C) "__eq__" = some (some (.ref f))) (hf : PySem.W.isFn K (.ref f) = true)
    (h : wpAny (model prog w) A.in1 (call (.ref f) [.ref x, b]) (fun v s' => ∃ k, v = .bool k ∧ Q (.bool (!k)) s') E s) : wpAny (model prog w) A (richCompare .NotEq (.ref x) b) Q E s := by
  have one : wpAny (model prog w) A (tryCompare (.ref x) "__ne__" b) (fun r s' => ∃ v, r = some v ∧ Q v s') E s := by
    unfold tryCompare
    refine wpAny_bind (ifBound_objNe X I hne (wpAny_call (codeAny_call_builtin F.cmp_object.ne.plain F.cmpEntry_ne (PySem.W.check_slot F.cmpKind_ne F.cmpSplit_ne (I.type.andThen (PySem.W.looks_mroIn X hm)) (F.cmpArgs_ne _ _)
      (objNe_entry (A := A.in1) X I hu hs hf (wpAny_mono h (fun v s' hv => ?_) fun _ _ e => e))))))
    obtain ⟨k, rfl, hq⟩ := hv
    refine ⟨k, rfl, ?_⟩
    first | exact wpAny_pure ⟨_, rfl, hq⟩ | exact ⟨_, rfl, hq⟩
  simp only [richCompare, cmpInfo_NotEq, oneThing_ref]
  refine wpAny_holding (wpAny_bind (wpAny_cRoomFor (Nat.lt_of_succ_lt hu) ?_))
  refine wpAny_bind (I.type.here (wpAny_bind (hb.here ?_)))
  split
  · rename_i q
    have e : PySem.W.subIn K tb (.ref C) = some false := by
      rcases Bool.or_eq_true_iff.mp hn with e | e
      · rw [beq_iff_eq.mp e] at q; simp at q
      · exact beq_iff_eq.mp e
    refine wpAny_bind ((PySem.W.looks_subIn X e).here ?_)
    simp only [Bool.false_eq_true, if_false]
    refine wpAny_bind (wpAny_mono one (fun r s' z => ?_) fun _ _ e => e)
    obtain ⟨v, rfl, hq⟩ := z
    exact wpAny_pure hq
  · refine wpAny_bind (wpAny_pure ?_)
    simp only [Bool.false_eq_true, if_false]
    refine wpAny_bind (wpAny_mono one (fun r s' z => ?_) fun _ _ e => e)
    obtain ⟨v, rfl, hq⟩ := z
    exact wpAny_pure hq
end
/-- a class with its own ==, at f -/
structure OwnEq (K : PySem.W.Frag) (C f : Addr) : Prop where
  eq : PySem.W.findIn K (.ref C) "__eq__" = some (some (.ref f))
  fn : PySem.W.isFn K (.ref f) = true
  ne : PySem.W.findIn K (.ref C) "__ne__" = some (some (.builtin "object.__ne__"))
  ob : PySem.W.mroIn K C (.type "object") = some true
def ownEqB (K : PySem.W.Frag) (x : Str) : Bool := decide (PySem.W.findIn K (.ref (He.ga K x)) "__eq__" = some (some (.ref (He.ma K (He.ga K x) "__eq__")))) && PySem.W.isFn K (.ref (He.ma K (He.ga K x) "__eq__")) &&
  decide (PySem.W.findIn K (.ref (He.ga K x)) "__ne__" = some (some (.builtin "object.__ne__"))) && decide (PySem.W.mroIn K (He.ga K x) (.type "object") = some true)
theorem ownEq_of {K : PySem.W.Frag} {x : Str} (h : ownEqB K x = true) : OwnEq K (He.ga K x) (He.ma K (He.ga K x) "__eq__") := by
  unfold ownEqB at h
  simp only [Bool.and_eq_true, decide_eq_true_eq] at h
  exact ⟨h.1.1.1, h.1.1.2, h.1.2, h.2⟩
/-- what isinstance asks of an own class -/
structure InsTy (K : PySem.W.Frag) (C : Addr) : Prop where
  ha : PySem.W.findIn K (.ref C) "__class__" = some (some (.builtin "object.__class__"))
  hn : PySem.W.specialIn K (.builtin "object.__class__") "__get__" = some (some (.builtin "getset_descriptor.__get__"))
  htk : PySem.W.takesIn K (.builtin "object.__class__") = some true
  hm : PySem.W.mroIn K C (.type "object") = some true
def insTyB (K : PySem.W.Frag) (C : Addr) : Bool := decide (PySem.W.findIn K (.ref C) "__class__" = some (some (.builtin "object.__class__"))) && decide (PySem.W.specialIn K (.builtin "object.__class__") "__get__" = some (some (.builtin "getset_descriptor.__get__"))) &&
  decide (PySem.W.takesIn K (.builtin "object.__class__") = some true) && decide (PySem.W.mroIn K C (.type "object") = some true)
theorem insTy_of {K : PySem.W.Frag} {C : Addr} (h : insTyB K C = true) : InsTy K C := by
  unfold insTyB at h
  simp only [Bool.and_eq_true, decide_eq_true_eq] at h
  exact ⟨h.1.1.1, h.1.1.2, h.1.2, h.2⟩
theorem InsTy.ty {K : PySem.W.Frag} {C a dx : Addr} {H : Hp} {fs : List (Str × V)} (i : InsTy K C) (c : Cls K C) (e : H a = some (.ins C dx fs)) : TyX K H (.ref a) (.ref C) := .base (.ins e c i.ha i.hn i.htk i.hm)
/-- x == y by the own == of x's class: its promise sp, a truth value -/
def rOwn (K : PySem.W.Frag) (C : Addr) (sp : Sp) (neg : Bool) : R2 := fun x y H Q => ∃ a dx fs t, x = .ref a ∧ H a = some (.ins C dx fs) ∧ TyX K H y t ∧ PySem.W.notFirst K C t = true ∧
  sp [x, y] H (fun v H' => ∃ b, v = .bl b ∧ Q (.bl (if neg then !b else b)) H') E0
section
variable {X : Cx} {C f : Addr} {k : Nat} {sp : Sp}
theorem op_eqO (q : OwnEq X.K C f) (F : FnR X.prog X.w X.K X.mg X.base CX0 k f sp) (hr : Room k X.A) : OpR X (compareOp .Eq) (rOwn X.K C sp false) := by
  intro pins s σ H x y u v Q I rx ry h
  obtain ⟨a, dx, fs, t, rfl, ha, ty, hn, hsp⟩ := h
  obtain rfl : u = Value.ref a := rx
  obtain ⟨mA, J, _⟩ := ins_get I.hok ha
  obtain ⟨od, J, _⟩ := J.look
  obtain ⟨m, hF⟩ := I.fr
  obtain ⟨Pt, kx, hP, _⟩ := kit_of I ry ty
  show wpAny (model X.prog X.w) X.A (richCompare .Eq (.ref a) v) (EP X pins σ Q) X.xe s
  refine PySem.W.cmp_K (op := .Eq) hr.units0 hF I.ok.mod.kin J (kx.ty _ _ I.kIn hP) hn q.eq q.fn ?_
  refine wpAny_call (codeAny_mono (run_fnR (vs := [.ref a, y]) F hr pass0 I (.cons rfl (.cons ry .nil)) hsp) fun r s' hq => ?_)
  cases r with
  | error e => exact hq
  | ok fl =>
    cases fl with
    | ret z =>
      obtain ⟨v', H', I', rv, b, rfl, hq⟩ := hq
      obtain rfl : z = Value.bool b := rv
      exact ⟨.bl b, H', I', rfl, hq⟩
    | next => exact False.elim hq
    | brk => exact False.elim hq
    | cont => exact False.elim hq
theorem in1_env0 {P : Program} {w : World} {K : PySem.W.Frag} {mg : Str → Option Value} {base : Heap} {A : Around} {outer : List Env} {s : Shared} {H : Hp} (e : Env0 P w K mg base A outer s H) : Env0 P w K mg base A.in1 outer s H := e.in1
/-- the callee runs one C frame deeper -/
theorem run_in1 {pins : List (Addr × Obj)} {σ : L2.St} {H : Hp} {s : Shared} {Q : VK} {us : List Value} {vs : List V} (F : FnR X.prog X.w X.K X.mg X.base CX0 k f sp) (hr : Room (k + 1) X.A) (I : Inv X pins σ H s) (r : Vals vs us) (h : sp vs H Q E0) :
    wpAny (model X.prog X.w) X.A.in1 (call (.ref f) us) (EP X pins σ Q) X.xe s := by
  refine wpAny_call (codeAny_mono (F X.A.in1 X.stack s H us vs Q E0 hr.in1 I.env0.in1 r h) fun r s' hq => ?_)
  cases r with
  | error e => exact False.elim hq
  | ok fl =>
    cases fl with
    | ret u => exact I.after hq
    | next => exact False.elim hq
    | brk => exact False.elim hq
    | cont => exact False.elim hq
theorem op_neO (q : OwnEq X.K C f) (F : FnR X.prog X.w X.K X.mg X.base CX0 k f sp) (hr : Room (k + 1) X.A) : OpR X (compareOp .NotEq) (rOwn X.K C sp true) := by
  intro pins s σ H x y u v Q I rx ry h
  obtain ⟨a, dx, fs, t, rfl, ha, ty, hn, hsp⟩ := h
  obtain rfl : u = Value.ref a := rx
  obtain ⟨mA, J, _⟩ := ins_get I.hok ha
  obtain ⟨od, J, _⟩ := J.look
  obtain ⟨Pt, kx, hP, _⟩ := kit_of I ry ty
  show wpAny (model X.prog X.w) X.A (richCompare .NotEq (.ref a) v) (EP X pins σ Q) X.xe s
  refine ne_own (hu_of hr) I.kIn J (kx.ty _ _ I.kIn hP) hn q.ob q.ne q.eq q.fn ?_
  refine thn (run_in1 (vs := [.ref a, y]) F hr I (.cons rfl (.cons ry .nil)) hsp) fun z s' hq => ?_
  obtain ⟨v', H', I', rv, b, rfl, hq⟩ := hq
  obtain rfl : z = Value.bool b := rv
  exact ⟨b, rfl, .bl (!b), H', I', rfl, hq⟩
/-- len(x) by the own __len__ of x's class -/
def rLenO (C : Addr) (sp : Sp) : List V → Hp → VK → Prop := fun xs H Q => ∃ a dx fs, xs = [.ref a] ∧ H a = some (.ins C dx fs) ∧ sp xs H (fun v H' => ∃ n : Int, v = .int n ∧ 0 ≤ n ∧ n < 2 ^ 63 ∧ Q (.int n) H') E0
theorem c_lenO (hs : PySem.W.findIn X.K (.ref C) "__len__" = some (some (.ref f))) (hf : PySem.W.isFn X.K (.ref f) = true) (F : FnR X.prog X.w X.K X.mg X.base CX0 k f sp) (hr : Room (k + 1) X.A) : CallR X (.builtin "len") (rLenO C sp) := by
  intro pins s σ H xs us Q I r h
  obtain ⟨a, dx, fs, rfl, ha, hsp⟩ := h
  obtain ⟨u, rfl, ru⟩ := vals1 r
  obtain rfl : u = Value.ref a := ru
  obtain ⟨mA, J, _⟩ := ins_get I.hok ha
  obtain ⟨od, J, _⟩ := J.look
  obtain ⟨m, hF⟩ := I.fr
  refine PySem.W.len_K hF I.ok.mod.kin J hs hf ?_
  refine thn (run_in1 (vs := [.ref a]) F hr I (.cons rfl .nil) hsp) fun z s' hq => ?_
  obtain ⟨v', H', I', rv, n, rfl, h0, h1, hq⟩ := hq
  obtain ⟨t, rfl⟩ := rv
  exact ⟨⟨h0, h1⟩, .int n, H', I'.tok _, ⟨_, rfl⟩, hq⟩
end
/-! ### more of data -/
section
variable {K : PySem.W.Frag} {F F' : Hp} {v : V} {vs : List V} {d : PyData} {ds es : List PyData}
theorem dpAll_len : ∀ {vs : List V} {ds : List PyData}, DpAll K F vs ds → vs.length = ds.length
  | _, _, .nil => rfl
  | _, _, .cons _ t => congrArg Nat.succ (dpAll_len t)
theorem dpAll_get : ∀ {vs : List V} {ds : List PyData} {i : Nat} {v : V}, DpAll K F vs ds → vs[i]? = some v → ∃ d, ds[i]? = some d ∧ Dp K F v d
  | _, _, _, _, .nil, h => by cases h
  | _, _, 0, _, .cons a _, h => by
    cases h
    exact ⟨_, rfl, a⟩
  | _, _, i + 1, v, .cons _ t, h => dpAll_get (i := i) (v := v) t h
theorem dpAll_at : ∀ {vs : List V} {ds : List PyData} {i : Nat} {d : PyData}, DpAll K F vs ds → ds[i]? = some d → ∃ v, vs[i]? = some v ∧ Dp K F v d
  | _, _, _, _, .nil, h => by cases h
  | _, _, 0, _, .cons a _, h => by
    cases h
    exact ⟨_, rfl, a⟩
  | _, _, i + 1, v, .cons _ t, h => dpAll_at (i := i) (d := v) t h
theorem dpAll_app : ∀ {vs ws : List V} {ds es : List PyData}, DpAll K F vs ds → DpAll K F ws es → DpAll K F (vs ++ ws) (ds ++ es)
  | _, _, _, _, .nil, h => h
  | _, _, _, _, .cons a t, h => .cons a (dpAll_app t h)
theorem dpAll_snoc (h : DpAll K F vs ds) (a : Dp K F v d) : DpAll K F (vs ++ [v]) (ds ++ [d]) := dpAll_app h (.cons a .nil)
theorem dp_list_inv (h : Dp K F v (.list ds)) : ∃ a xs, v = .ref a ∧ SqL K F a xs ∧ DpAll K F xs ds := by
  cases h with
  | lst h a => exact ⟨_, _, rfl, h, a⟩
theorem dp_tup_inv (h : Dp K F v (.tuple ds)) : ∃ a xs, v = .ref a ∧ SqT K F a xs ∧ DpAll K F xs ds := by
  cases h with
  | tup h a => exact ⟨_, _, rfl, h, a⟩
theorem dp_int_inv {i : Int} (h : Dp K F v (.int i)) : v = .int i := by
  cases h
  rfl
theorem dp_bool_inv {i : Bool} (h : Dp K F v (.bool i)) : v = .bl i := by
  cases h
  rfl
theorem dp_str_inv {i : Str} (h : Dp K F v (.str i)) : v = .str i := by
  cases h
  rfl
theorem dpAll_cons_inv (h : DpAll K F vs (d :: ds)) : ∃ v ws, vs = v :: ws ∧ Dp K F v d ∧ DpAll K F ws ds := by
  cases h with
  | cons a t => exact ⟨_, _, rfl, a, t⟩
theorem dpAll_nil_inv (h : DpAll K F vs []) : vs = [] := by
  cases h
  rfl
theorem dp_newT {p : Addr} (hp : F p = none) (h : DpAll K F vs ds) : Dp K (upd F p (.tup vs)) (.ref p) (.tuple ds) := .tup (SqT.of upd_same) (dpAll_mono (same_upd hp) h)
theorem dp_newL {p : Addr} (hp : F p = none) (h : DpAll K F vs ds) : Dp K (upd F p (.lst vs)) (.ref p) (.list ds) := .lst (SqL.of upd_same) (dpAll_mono (same_upd hp) h)
end
theorem take_snoc {α : Type} {l : List α} {i : Nat} {x : α} (h : l[i]? = some x) : l.take (i + 1) = l.take i ++ [x] := by
  rw [List.take_add_one, h]
  rfl
theorem map_get {α β : Type} {f : α → β} {l : List α} {i : Nat} {y : β} (h : (l.map f)[i]? = some y) : ∃ x, l[i]? = some x ∧ y = f x := by
  rw [List.getElem?_map] at h
  cases e : l[i]? with
  | none =>
    rw [e] at h
    cases h
  | some x =>
    rw [e] at h
    exact ⟨x, rfl, (Option.some.inj h).symm⟩
theorem kit_self {K : PySem.W.Frag} (t : Value) : PySem.W.kitOne K t t = some true := by
  unfold PySem.W.kitOne
  rw [if_pos (by simp)]
/-! ### methods by their bodies -/
theorem fnR_by {P : Program} {w : World} {K : PySem.W.Frag} {mg : Str → Option Value} {base : Heap} {x qual : Str} {params : Arguments} {body : List Stmt} {scope : Scope} {dvs dv : List V} {kws : List (Str × V)} {f : Addr} {fd : FuncData} {N ps : List Str} {k : Nat} {sp : Sp}
    (F : FunD K x qual params body scope dvs kws f fd) (S : FnScope N ps scope) (len : ∀ vs H Q E, sp vs H Q E → vs.length = ps.length) (hb : ∃ ds, Vals dv ds ∧ Binds K fd ps ds)
    (hbody : ∀ (cdv : Value) (A : Around) (outer : List Env) (s : Shared) (H : Hp) (vs : List V) (Q : VK) (E : XK), Room k (A.deeper (envOfC qual scope s.heap.objs.size f cdv)) → sp vs H Q E →
      ∃ t, PSs (cxOf CX0 P w K mg base N qual scope f cdv A outer s H E).nox body t ∧ t { nx := fun _ H' => Q .non H', rt := Q } (start N vs) H) : FnR P w K mg base CX0 (k + 1) f (fun vs H Q E => sp (vs ++ dv) H Q E) := by
  have G := F.ok (P := P) (w := w) (mg := mg) (base := base) (CX := CX0) S len fun cdv A outer s H vs Q E hr hsp => by
    obtain ⟨t, h, q⟩ := hbody cdv A outer s H vs Q E hr hsp
    exact ⟨t, h.nox, q⟩
  obtain ⟨ds, hd, hb⟩ := hb
  exact G.raw hb hd
theorem fnR_nil {P : Program} {w : World} {K : PySem.W.Frag} {mg : Str → Option Value} {base : Heap} {k : Nat} {f : Addr} {sp : Sp} (F : FnR P w K mg base CX0 k f (fun vs H Q E => sp (vs ++ []) H Q E)) : FnR P w K mg base CX0 k f sp :=
  F.imp fun vs H Q E h => by
    rw [List.append_nil]
    exact h
/-- def m(a, .., *v) -/
theorem fnR_star {P : Program} {w : World} {K : PySem.W.Frag} {mg : Str → Option Value} {base : Heap} {x qual : Str} {params : Arguments} {body : List Stmt} {scope : Scope} {kws : List (Str × V)} {f : Addr} {fd : FuncData} {N ps : List Str} {pv : Str} {k : Nat} {sp : Sp}
    (F : FunD K x qual params body scope [] kws f fd) (S : FnScope N (ps ++ [pv]) scope)
    (hb : ∀ (kV doc pm : Value) (an : Option Addr) (cdv ct : Value) (us rest : List Value), us.length = ps.length → bindArgs (PySem.W.fnOf x qual params body scope .none kV doc pm an cdv ct) ⟨us ++ rest, []⟩ = (newTuple rest >>= fun t => pure (ps.zip us ++ [(pv, t)])))
    (hbody : ∀ (cdv : Value) (A : Around) (outer : List Env) (s : Shared) (H : Hp) (vs : List V) (Q : VK) (E : XK), Room k (A.deeper (envOfC qual scope s.heap.objs.size f cdv)) → sp vs H Q E →
      ∃ t, PSs (cxOf CX0 P w K mg base N qual scope f cdv A outer s H E).nox body t ∧ t { nx := fun _ H' => Q .non H', rt := Q } (start N vs) H) :
    FnR P w K mg base CX0 (k + 1) f (fun vs H Q E => ∃ ws rest, vs = ws ++ rest ∧ ws.length = ps.length ∧ rest.length ≤ sizeLine ∧ ∀ p, H p = Option.none → sp (ws ++ [V.ref p]) (upd H p (.tup rest)) Q E) := by
  obtain ⟨oc, od, dV, kV, doc, pm, an, cdv, ct, osl, rfl, lk, hcd, hD, _⟩ := F.ex
  rcases hD with ⟨_, rfl⟩ | ⟨e, _⟩
  · exact StX.fn_star lk hcd S StX.cxUp_none (hb kV doc pm an cdv ct) fun A outer s H vs Q E hr hsp => by
      obtain ⟨t, h, q⟩ := hbody cdv A outer s H vs Q E hr hsp
      exact ⟨t, h.nox, q⟩
  · exact absurd rfl e
theorem lt1k {n : Nat} (h : (n + 1).ble 1000 = true := by rfl) : n < 1000 := Nat.le_of_ble_eq_true h
/-! ### readings -/
def MkB (C : Addr) (sp : Sp) (E : XK) (vs : List V) (H : Hp) (Q : VK) : Prop := ∀ x dx, H x = none → H dx = none → dx ≠ x → sp (V.ref x :: vs) (upd (upd H dx (.own x)) x (.ins C dx [])) (fun v H2 => v = .non ∧ Q (.ref x) H2) E
section
variable {K : PySem.W.Frag} {σ : L2.St} {H : Hp} {Q : VK} {D : Ends} {te ta tv : TE} {tr : TA} {F : Hp} {M : Cells} {p C dx : Addr} {vs : List V} {sp : Sp} {E : XK} {v y : V} {f m : Str} {fs : List (Str × V)}
theorem r_make (h : tr σ H fun vs H1 => MkB C sp E vs H1 Q) : StX.tMakeR C sp E tr σ H Q := h
theorem mkb (o : Own F M H) (k : ∀ x dx H', F x = none → F dx = none → dx ≠ x → Own F ((x, .ins C dx []) :: (dx, .own x) :: M) H' → sp (.ref x :: vs) H' (fun v H2 => v = .non ∧ Q (.ref x) H2) E) : MkB C sp E vs H Q := fun x dx hx hd ne =>
  k x dx _ (o.free hx) (o.free hd) ne ((o.newM hd).newM (by rw [upd_ne (Ne.symm ne)]; exact hx))
theorem r_methR (h : ta σ H fun x H1 => ∃ a dx fs, x = .ref a ∧ H1 a = some (.ins C dx fs) ∧ fs.lookup m = none ∧ tr σ H1 fun vs H2 => sp (x :: vs) H2 Q E) : tMethR C m sp E ta tr σ H Q := h
theorem r_recv {R : Prop} (h : H p = some (.ins C dx fs)) (hl : fs.lookup m = none) (k : R) : ∃ a dx fs, V.ref p = .ref a ∧ H a = some (.ins C dx fs) ∧ fs.lookup m = none ∧ R := ⟨p, dx, fs, rfl, h, hl, k⟩
theorem r_sfld (h : tv σ H fun y H1 => ta σ H1 fun x H2 => ∃ a C dx fs, x = .ref a ∧ H2 a = some (.ins C dx fs) ∧ Cls K C ∧ NoAttr K C f ∧ fs.length < 1000 ∧ D.nx σ (upd H2 a (.ins C dx (putF f y fs)))) : sFld K ta tv f D σ H := h
theorem r_setF {R : Hp → Prop} (o : Own F M H) (i : Nat) (h : M[i]? = some (p, .ins C dx fs)) (hc : Cls K C) (hn : NoAttr K C f) (k : ∀ H', Own F (M.set i (p, .ins C dx (putF f y fs))) H' → R H') (hl : fs.length < 1000 := by exact lt1k) :
    ∃ a C dx fs, V.ref p = .ref a ∧ H a = some (.ins C dx fs) ∧ Cls K C ∧ NoAttr K C f ∧ fs.length < 1000 ∧ R (upd H a (.ins C dx (putF f y fs))) := ⟨p, C, dx, fs, rfl, o.get i h, hc, hn, hl, k _ (o.set i h)⟩
theorem r_getF (h : H p = some (.ins C dx fs)) (hc : Cls K C) (hn : NoAttr K C f) (hl : fs.lookup f = some v) (q : Q v H) : ∃ a C dx fs v, V.ref p = .ref a ∧ H a = some (.ins C dx fs) ∧ Cls K C ∧ NoAttr K C f ∧ fs.lookup f = some v ∧ Q v H := ⟨p, C, dx, fs, v, rfl, h, hc, hn, hl, q⟩
theorem r_tfld' (h : ta σ H fun x H1 => ∃ a C dx fs v, x = .ref a ∧ H1 a = some (.ins C dx fs) ∧ Cls K C ∧ NoAttr K C f ∧ fs.lookup f = some v ∧ Q v H1) : tFld K ta f σ H Q := h
end
end Ed

/-! ## Ed: texts -/
namespace Ed
open PySem PySem.Spec PyProof.Rows L2
def rJoin (K : PySem.W.Frag) : V → List V → Hp → VK → Prop := fun x xs H Q => ∃ a p, ∃ ys : List Str, x = .str a ∧ xs = [.ref p] ∧ (SqL K H p (ys.map V.str) ∨ SqT K H p (ys.map V.str)) ∧ (ys.map (·.length)).sum + ys.length * a.length ≤ 16777216 ∧ Q (.str (Txt.join a ys)) H
def rSplit : V → List V → Hp → VK → Prop := fun x xs H Q => ∃ a b, x = .str a ∧ xs = [.str b] ∧ (b.length == 0) = false ∧ a.length + 2 ≤ sizeLine ∧ rNewStrs (Txt.split a b) H Q
def rPart : V → List V → Hp → VK → Prop := fun x xs H Q => ∃ a b, x = .str a ∧ xs = [.str b] ∧ (b.length == 0) = false ∧ a.length ≤ sizeLine ∧ ∀ p, H p = none → Q (.ref p) (upd H p (.tup [.str (Txt.partition a b).1, .str (Txt.partition a b).2.1, .str (Txt.partition a b).2.2]))
def rStarts : V → List V → Hp → VK → Prop := fun x xs H Q => ∃ a b, x = .str a ∧ xs = [.str b] ∧ Q (.bl (Txt.startswith a b)) H
def rEnds : V → List V → Hp → VK → Prop := fun x xs H Q => ∃ a b, x = .str a ∧ xs = [.str b] ∧ Q (.bl (Txt.endswith a b)) H
def rCatS : R2 := fun x y H Q => ∃ i j, x = .str i ∧ y = .str j ∧ i.length + j.length ≤ sizeLine ∧ Q (.str (i ++ j)) H
def rStrI : List V → Hp → VK → Prop := fun xs H Q => ∃ i, xs = [.int i] ∧ i.natAbs.log2 < 1920 ∧ Q (.str (toString i)) H
def rLenS' : List V → Hp → VK → Prop := fun xs H Q => ∃ a : Str, xs = [.str a] ∧ a.length ≤ sizeLine ∧ Q (.int a.length) H
section
variable {X : Cx} {o e : Expr} {to te : TE} {apos pos : Pos}
theorem kJoin (K : PySem.W.Frag) (ho : PE X o to) (he : PE X e te) (hs : starEach [e] X.env = [(false, eval e X.env)] := by rfl) (hbase : attributeBase o "join" X.env (eval o X.env) = eval o X.env := by rfl) (hline : (apos.endLine == pos.line) = true := by rfl) (hK : X.K = K := by rfl) :
    PE X (.Call (.Attribute o "join" apos) [e] [] pos) (tM1 (rJoin K) to te) := by
  subst hK
  exact pe_join ho he hs hbase hline
theorem kSplit (ho : PE X o to) (he : PE X e te) (hs : starEach [e] X.env = [(false, eval e X.env)] := by rfl) (hbase : attributeBase o "split" X.env (eval o X.env) = eval o X.env := by rfl) (hline : (apos.endLine == pos.line) = true := by rfl) :
    PE X (.Call (.Attribute o "split" apos) [e] [] pos) (tM1 rSplit to te) := pe_split ho he hs hbase hline
theorem kPart (ho : PE X o to) (he : PE X e te) (hs : starEach [e] X.env = [(false, eval e X.env)] := by rfl) (hbase : attributeBase o "partition" X.env (eval o X.env) = eval o X.env := by rfl) (hline : (apos.endLine == pos.line) = true := by rfl) :
    PE X (.Call (.Attribute o "partition" apos) [e] [] pos) (tM1 rPart to te) := pe_partition ho he hs hbase hline
theorem m_starts : MtR X "str.startswith" rStarts := mt_startswith
theorem m_ends : MtR X "str.endswith" rEnds := mt_endswith
theorem o_catS : OpR X (binaryOp .Add) rCatS := op_add_str
theorem c_strI : CallR X (.type "str") rStrI := call_str_int
theorem c_lenS : CallR X (.builtin "len") rLenS' := call_len_str
end
section
variable {K : PySem.W.Frag} {σ : L2.St} {H : Hp} {Q : VK} {F : Hp} {M : Cells} {p : Addr} {to te : TE} {a b z : Str} {n : Int}
theorem r_m1 {r : V → List V → Hp → VK → Prop} (h : to σ H fun x H1 => (∃ a, x = .str a) ∧ te σ H1 fun y H2 => r x [y] H2 Q) : tM1 r to te σ H Q := h
theorem r_isS {R : Prop} (k : R) : (∃ a, V.str z = .str a) ∧ R := ⟨⟨z, rfl⟩, k⟩
theorem r_join {ys : List Str} (h : SqL K H p (ys.map V.str)) (hb : (ys.map (·.length)).sum + ys.length * a.length ≤ 16777216) (q : Q (.str (Txt.join a ys)) H) : rJoin K (.str a) [.ref p] H Q := ⟨a, p, ys, rfl, rfl, .inl h, hb, q⟩
theorem r_starts (q : Q (.bl (Txt.startswith a b)) H) : rStarts (.str a) [.str b] H Q := ⟨a, b, rfl, rfl, q⟩
theorem r_ends (q : Q (.bl (Txt.endswith a b)) H) : rEnds (.str a) [.str b] H Q := ⟨a, b, rfl, rfl, q⟩
theorem r_catS (h : a.length + b.length ≤ sizeLine) (q : Q (.str (a ++ b)) H) : rCatS (.str a) (.str b) H Q := ⟨a, b, rfl, rfl, h, q⟩
theorem r_strI (h : n.natAbs.log2 < 1920) (q : Q (.str (toString n)) H) : rStrI [.int n] H Q := ⟨n, rfl, h, q⟩
theorem r_lenS (h : a.length ≤ sizeLine) (q : Q (.int a.length) H) : rLenS' [.str a] H Q := ⟨a, rfl, h, q⟩
theorem r_ixS {c : Nat} (h : z.length ≤ sizeLine) (ha : atI z.cps.toList n = some c) (q : Q (.str ⟨#[c]⟩) H) : rIxS (.str z) (.int n) H Q := ⟨z, n, c, rfl, rfl, h, ha, q⟩
theorem r_slS {lo hi : Option Int} (h : z.length ≤ sizeLine) (q : Q (.str (cutS z lo hi)) H) : rSlS (.str z) lo hi H Q := ⟨z, rfl, h, q⟩
theorem r_split (o : Own F M H) (hb : (b.length == 0) = false) (ha : a.length + 2 ≤ sizeLine) (k : ∀ l H', F l = none → Own F ((l, .lst ((Txt.split a b).map V.str)) :: M) H' → Q (.ref l) H') : rSplit (.str a) [.str b] H Q := ⟨a, b, rfl, rfl, hb, ha, fun l hl => k l _ (o.free hl) (o.newM hl)⟩
theorem r_partn (o : Own F M H) (hb : (b.length == 0) = false) (ha : a.length ≤ sizeLine) (k : ∀ l H', F l = none → Own (upd F l (.tup [.str (Txt.partition a b).1, .str (Txt.partition a b).2.1, .str (Txt.partition a b).2.2])) M H' → Q (.ref l) H') : rPart (.str a) [.str b] H Q :=
  ⟨a, b, rfl, rfl, hb, ha, fun l hl => k l _ (o.free hl) (o.newF hl)⟩
end
theorem perm_mid (A S M : Cells) : (A ++ (S ++ M)).Perm (S ++ (A ++ M)) := by
  rw [← List.append_assoc, ← List.append_assoc]
  exact List.perm_append_comm.append_right M
/-- draw(source, n), other cells A ahead -/
theorem use_draw {F : Hp} {S M : Cells} {H : Hp} {a : Addr} {n : Int} {Q : VK} {E : XK} (A : Cells) (o : Own F (A ++ (S ++ M)) H) (hs : Src a S) (h0 : 0 < n) (h1 : n < 2 ^ 120)
    (k : ∀ r S' H', 0 ≤ r → r < n → Src a S' → Own F (A ++ (S' ++ M)) H' → Q (.int r) H') : spDraw [.ref a, .int n] H Q E :=
  ⟨_, _, rfl, a, n, F, S, A ++ M, rfl, rfl, h0, h1, hs, o.perm (perm_mid A S M), fun r S' H' r0 r1 hs' o' => k r S' H' r0 r1 hs' (o'.perm (perm_mid A S' M).symm)⟩
/-- the signs of a text -/
abbrev cps (z : Str) : List Nat := z.cps.toList
theorem at_lt {α : Type} {xs : List α} {n : Int} (h0 : 0 ≤ n) (h1 : n < xs.length) : ∃ c, atI xs n = some c ∧ c ∈ xs := by
  have h : n.toNat < xs.length := by omega
  refine ⟨xs[n.toNat], ?_, List.getElem_mem h⟩
  have e := atI_nat (List.getElem?_eq_getElem h)
  rw [Int.toNat_of_nonneg h0] at e
  exact e
end Ed

/-! ## Ed: str of own things, f-texts, lists unpacked, making by keywords -/
namespace Ed
open PySem PySem.Spec PyProof.Rows L2
/-- either of two targets -/
def gOr (g h : TG) : TG := fun v σ H Q => g v σ H Q ∨ h v σ H Q
theorem pg_or {X : Cx} {e : Expr} {g h : TG} (a : PG X e g) (b : PG X e h) : PG X e (gOr g h) := ⟨fun pins s σ H v u Q I r hw => hw.elim (a.run pins s σ H v u Q I r) (b.run pins s σ H v u Q I r)⟩
/-- str(x), x with its own __str__ -/
def rStrO (C : Addr) (sp : Sp) : List V → Hp → VK → Prop := fun xs H Q => ∃ a dx fs, xs = [.ref a] ∧ H a = some (.ins C dx fs) ∧ sp xs H (fun v H' => ∃ z : Str, v = .str z ∧ Q (.str z) H') E0
theorem run_in2 {X : Cx} {f : Addr} {k : Nat} {sp : Sp} {pins : List (Addr × Obj)} {σ : L2.St} {H : Hp} {s : Shared} {Q : VK} {us : List Value} {vs : List V} (F : FnR X.prog X.w X.K X.mg X.base CX0 k f sp) (hr : Room (k + 2) X.A) (I : Inv X pins σ H s) (r : Vals vs us) (h : sp vs H Q E0) :
    wpAny (model X.prog X.w) X.A.in1.in1 (call (.ref f) us) (EP X pins σ Q) X.xe s := by
  refine wpAny_call (codeAny_mono (F X.A.in1.in1 X.stack s H us vs Q E0 hr.in1.in1 I.env0.in1.in1 r h) fun r s' hq => ?_)
  cases r with
  | error e => exact False.elim hq
  | ok fl =>
    cases fl with
    | ret u => exact I.after hq
    | next => exact False.elim hq
    | brk => exact False.elim hq
    | cont => exact False.elim hq
theorem c_strO {X : Cx} {C f : Addr} {k : Nat} {sp : Sp} (hs : PySem.W.findIn X.K (.ref C) "__str__" = some (some (.ref f))) (hf : PySem.W.isFn X.K (.ref f) = true) (F : FnR X.prog X.w X.K X.mg X.base CX0 k f sp) (hr : Room (k + 2) X.A) : CallR X (.type "str") (rStrO C sp) := by
  intro pins s σ H xs us Q I r h
  obtain ⟨a, dx, fs, rfl, ha, hsp⟩ := h
  obtain ⟨u, rfl, ru⟩ := vals1 r
  obtain rfl : u = Value.ref a := ru
  obtain ⟨mA, J, _⟩ := ins_get I.hok ha
  obtain ⟨od, J, _⟩ := J.look
  refine PySem.W.kso_call (hr.in1.in1.units0) I.kIn J hs hf ?_
  refine thn (run_in2 (vs := [.ref a]) F hr I (.cons rfl .nil) hsp) fun z s' hq => ?_
  obtain ⟨v', H', I', rv, n, rfl, hq⟩ := hq
  obtain ⟨t, rfl⟩ := rv
  exact ⟨.str n, H', I', ⟨_, rfl⟩, hq⟩
theorem kRev {X : Cx} (K : PySem.W.Frag) {e : Expr} {te : TE} {k : Nat} {p1 p2 p3 pos : Pos} (he : PE X e te) (hK : X.K = K := by rfl) : PE X (.Subscript e (.Slice none none (some (.UnaryOp .USub (.Constant (.int 1) k p1) p2)) p3) pos) (tRevL K te) := by
  subst hK
  exact pe_revL he
theorem pg_unlK {X : Cx} {pos : Pos} (K : PySem.W.Frag) {es : List Expr} {k : Nat} {t : TGs} {n : Nat} (hc : X.calm = true) (h : PGs X es t) (hn : (assignEach es X.env).length = n := by rfl) (hst : (assignEach es X.env).findIdx? (·.1) = none := by rfl) (hK : X.K = K := by rfl) : PG X (.Tuple es k pos) (gUnl K n t) := by
  subst hK
  exact pg_unl hc h hn hst
def MkA (C : Addr) (sp : V → Hp → VK → XK → Prop) (E : XK) (H : Hp) (Q : VK) : Prop := ∀ x dx, H x = none → H dx = none → dx ≠ x → sp (.ref x) (upd (upd H dx (.own x)) x (.ins C dx [])) (fun v H3 => v = .non ∧ Q (.ref x) H3) E
def RvB (K : PySem.W.Frag) (x : V) (H : Hp) (Q : VK) : Prop := ∃ a xs, x = .ref a ∧ SqL K H a xs ∧ ∀ p, H p = none → Q (.ref p) (upd H p (.lst xs.reverse))
def tJn (ts : List TE) : TE := fun σ H Q => tJs ts Str.empty σ H fun out H1 => Q (.str out) H1
theorem kJn {X : Cx} {v1 v2 : Expr} {rest : List Expr} {ts : List TE} {pos : Pos} (h : PJ X (v1 :: v2 :: rest) ts) : PE X (.JoinedStr (v1 :: v2 :: rest) pos) (tJn ts) := pe_joined h
section
variable {K : PySem.W.Frag} {σ : L2.St} {H : Hp} {Q : VK} {F : Hp} {M : Cells} {p l : Addr} {xs ys vs : List V} {te : TE} {tr tk : TA} {z acc : Str} {n : Int} {QS : L2.St → Hp → Prop} {v : V}
theorem r_gunl {gs : TGs} {k : Nat} (h : SqL K H p xs) (hl : xs.length = k) (hq : gs xs σ H QS) : gUnl K k gs (.ref p) σ H QS := ⟨p, xs, rfl, h, hl, hq⟩
theorem r_fmtI (h : n.natAbs.log2 < 1920) (q : Q (.str (toString n)) H) : (∃ y : Str, V.int n = .str y ∧ y.length ≤ sizeLine ∧ Q (.str y) H) ∨ ∃ i : Int, V.int n = .int i ∧ i.natAbs.log2 < 1920 ∧ Q (.str (toString i)) H := .inr ⟨n, rfl, h, q⟩
theorem r_fmtS (h : z.length ≤ sizeLine) (q : Q (.str z) H) : (∃ y : Str, V.str z = .str y ∧ y.length ≤ sizeLine ∧ Q (.str y) H) ∨ ∃ i : Int, V.str z = .int i ∧ i.natAbs.log2 < 1920 ∧ Q (.str (toString i)) H := .inl ⟨z, rfl, h, q⟩
theorem r_fmt (h : te σ H fun x H1 => (∃ y : Str, x = .str y ∧ y.length ≤ sizeLine ∧ Q (.str y) H1) ∨ ∃ i : Int, x = .int i ∧ i.natAbs.log2 < 1920 ∧ Q (.str (toString i)) H1) : tFmt te σ H Q := h
theorem r_jn {ts : List TE} (h : tJs ts Str.empty σ H fun out H1 => Q (.str out) H1) : tJn ts σ H Q := h
theorem r_js1 {t : TE} {ts : List TE} {R : Str → Hp → Prop} (h : t σ H fun x H1 => ∃ y : Str, x = .str y ∧ (acc ++ y).length ≤ sizeLine ∧ tJs ts (acc ++ y) σ H1 R) : tJs (t :: ts) acc σ H R := h
theorem r_js2 {R : Prop} (h : R) : ∃ y : Str, V.str z = .str y ∧ ((acc ++ y).length ≤ sizeLine → R) := ⟨z, rfl, fun _ => h⟩
theorem r_js0 {R : Str → Hp → Prop} (h : R acc H) : tJs [] acc σ H R := h
theorem r_rev (h : te σ H fun x H1 => RvB K x H1 Q) : tRevL K te σ H Q := h
theorem revB (o : Own F M H) (h : SqL K H p xs) (k : ∀ l H', F l = none → Own (upd F l (.lst xs.reverse)) M H' → Q (.ref l) H') : RvB K (.ref p) H Q := ⟨p, xs, rfl, h, fun l hl => k l _ (o.free hl) (o.newF hl)⟩
theorem r_listOfF (o : Own F M H) (h : SqL K H p xs ∨ SqT K H p xs) (k : ∀ l H', F l = none → Own (upd F l (.lst xs)) M H' → Q (.ref l) H') : rListOf K [.ref p] H Q := ⟨p, xs, rfl, h, fun l hl => k l _ (o.free hl) (o.newF hl)⟩
theorem r_slLF {lo hi : Option Int} (o : Own F M H) (h : SqL K H p xs) (k : ∀ l H', F l = none → Own (upd F l (.lst (cutV xs lo hi))) M H' → Q (.ref l) H') : rSlL K (.ref p) lo hi H Q := ⟨p, xs, rfl, h, fun l hl => k l _ (o.free hl) (o.newF hl)⟩
theorem r_catF {q : Addr} (o : Own F M H) (h1 : H p = some (.lst xs)) (h2 : H q = some (.lst ys)) (hl : xs.length + ys.length ≤ sizeLine) (k : ∀ l H', F l = none → Own (upd F l (.lst (xs ++ ys))) M H' → Q (.ref l) H') : rCat (.ref p) (.ref q) H Q :=
  ⟨p, q, xs, ys, rfl, rfl, h1, h2, hl, fun l hl => k l _ (o.free hl) (o.newF hl)⟩
theorem r_makeN {C : Addr} {n m : Nat} {sp : Sp} {gV : List V → List V → List V} {E : XK} (h : tr σ H fun vs H1 => tk σ H1 fun zs H2 => vs.length = n ∧ zs.length = m ∧ MkA C (fun x => sp (gV (x :: vs) zs)) E H2 Q) : tMakeN C n m sp gV E tr tk σ H Q := h
theorem mkA_of {C : Addr} {sp : Sp} {E : XK} (h : MkA C (fun x => sp (x :: vs)) E H Q) : MkB C sp E vs H Q := h
theorem mkA {C : Addr} {sp : V → Hp → VK → XK → Prop} {E : XK} (o : Own F M H) (k : ∀ x dx H', F x = none → F dx = none → dx ≠ x → Own F ((x, .ins C dx []) :: (dx, .own x) :: M) H' → sp (.ref x) H' (fun v H2 => v = .non ∧ Q (.ref x) H2) E) : MkA C sp E H Q := fun x dx hx hd ne =>
  k x dx _ (o.free hx) (o.free hd) ne ((o.newM hd).newM (by rw [upd_ne (Ne.symm ne)]; exact hx))
end
/-! ### own == with a value of another type -/
def oth1 (K : PySem.W.Frag) (C : Addr) (t : Value) : Bool := PySem.W.notFirst K C t && decide (PySem.W.kitOne K t (.ref C) = some false)
def othB (K : PySem.W.Frag) (C : Addr) : Bool := oth1 K C (.type "str") && oth1 K C (.type "tuple") && oth1 K C (.type "NoneType") && oth1 K C (.type "int") && oth1 K C (.type "list")
theorem oth_of {K : PySem.W.Frag} {C : Addr} {t : Value} (h : oth1 K C t = true) : PySem.W.notFirst K C t = true ∧ PySem.W.kitOne K t (.ref C) = some false := by
  unfold oth1 at h
  simp only [Bool.and_eq_true, decide_eq_true_eq] at h
  exact h
theorem tyT {K : PySem.W.Frag} {H : Hp} {a : Addr} {xs : List V} (h : SqT K H a xs) : TyX K H (.ref a) (.type "tuple") := by
  rcases h with (h | ⟨o, h⟩) | ⟨o, its, n, h, hc, _⟩
  · exact .base (.tup h)
  · exact .fTuple h
  · exact .kTuple h hc
theorem tyL {K : PySem.W.Frag} {H : Hp} {a : Addr} {xs : List V} (h : SqL K H a xs) : TyX K H (.ref a) (.type "list") := by
  rcases h with (h | ⟨o, h⟩) | ⟨o, its, n, h, hc, _⟩
  · exact .base (.lst h)
  · exact .base (.frz h)
  · exact .kList h hc
/-- isinstance(x, a built-in type) -/
theorem r_isi {K : PySem.W.Frag} {H : Hp} {Q : VK} {x : V} {n : String} {t : Value} {b : Bool} (ty : TyX K H x t) (hk : PySem.W.kitOne K t (.type n) = some b) (q : Q (.bl b) H) : rIsi K [x, .ty n] H Q := ⟨x, _, t, _, b, rfl, .ty n, ty, hk, q⟩
/-- a list that stays, whether it is kept or owned -/
def RdL (K : PySem.W.Frag) (F : Hp) (M : Cells) (l : Addr) (xs : List V) : Prop := ∀ F' A H', Same F F' → Own F' (A ++ M) H' → SqL K H' l xs
theorem RdL.fr {K : PySem.W.Frag} {F : Hp} {M : Cells} {l : Addr} {xs : List V} (h : SqL K F l xs) : RdL K F M l xs := fun F' A H' s o => (s.trans o.fr).seq h
theorem RdL.mu {K : PySem.W.Frag} {F : Hp} {M : Cells} {l : Addr} {xs : List V} (h : (l, HO.lst xs) ∈ M) : RdL K F M l xs := fun F' A H' s o => SqL.of (o.mu _ (List.mem_append_right _ h))
/-! joined texts -/
theorem join_cons (a x y : Str) (r : List Str) : Txt.join a (x :: y :: r) = x ++ (a ++ Txt.join a (y :: r)) := by
  have key : ∀ (l : List Str) (u v : Array Nat), l.foldl (fun acc p => acc ++ a.cps ++ p.cps) (u ++ v) = u ++ l.foldl (fun acc p => acc ++ a.cps ++ p.cps) v := by
    intro l
    induction l with
    | nil => intro u v; rfl
    | cons z l ih =>
      intro u v
      show l.foldl _ (u ++ v ++ a.cps ++ z.cps) = u ++ l.foldl _ (v ++ a.cps ++ z.cps)
      rw [← ih, Array.append_assoc, Array.append_assoc, Array.append_assoc]
  show (⟨r.foldl _ (x.cps ++ a.cps ++ y.cps)⟩ : Str) = ⟨x.cps ++ (a.cps ++ r.foldl _ y.cps)⟩
  rw [key, Array.append_assoc]
theorem join_one (a x : Str) : Txt.join a [x] = x := rfl
end Ed

/-! ## Ed: own exceptions whose __init__ asks super() first -/
namespace Ed
open PySem PySem.Spec PyProof.Rows L2
/-! ### the head's hook: defs that close over their class -/
structure SupD where
  at_ : Str × Option Str
  name : Str
  qual : Str
  params : Arguments
  body : List Stmt
  scope : Scope
abbrev FnC : Type := Option (Str × Str × Arguments × FuncBody × Scope × Addr × List Str × Addr)
def fnC (K : PySem.W.Frag) (p : Str × Option Str) : FnC := match K.lookup (He.fAd K p) with
  | some ⟨_, _, .func fd, _⟩ => some (fd.name, fd.qualname, fd.params, fd.body, fd.scope, fd.globals, fd.closure.map Prod.fst, fd.builtins)
  | _ => none
def SupD.val (d : SupD) : FnC := some (d.name, d.qual, d.params, .stmts d.body, d.scope, mainGlobals, ["__class__"], builtinsNs)
def frY (g : Addr → Option Obj) (n : Nat) : PySem.W.Frag := He.frT g (He.asD g n ++ [cStatics])
abbrev AlY : Type := He.AlT × (Bool × List FnC)
def obsY (n : Nat) (fa : List He.Fa) (fn : List He.DefD) (su : List SupD) (ex : PySem.W.Frag → Bool) (g : Addr → Option Obj) : AlY := (He.obsT fa fn [] (frY g n), (ex (frY g n), su.map fun d => fnC (frY g n) d.at_))
def valY (fn : List He.DefD) (su : List SupD) (w : World) : AlY := (He.valT fn [] w, (true, su.map SupD.val))
structure SaysY (fa : List He.Fa) (fn : List He.DefD) (su : List SupD) (ex : PySem.W.Frag → Bool) (w : World) (K : PySem.W.Frag) : Prop where
  t : He.SaysT fa fn [] w K
  more : ex K = true
  sup : (su.map fun d => fnC K d.at_) = su.map SupD.val
def hookY (n : Nat) (fa : List He.Fa) (fn : List He.DefD) (su : List SupD) (ex : PySem.W.Frag → Bool) : PySem.W.Hook where
  α := AlY
  obs := fun s => obsY n fa fn su ex s.heap.get?
  val := fun w => valY fn su w
  says := fun w h => ∃ K : PySem.W.Frag, K.In h ∧ SaysY fa fn su ex w K
  of := fun _ _ e => ⟨_, He.frT_in, ⟨congrArg (fun z : AlY => z.1) e, congrArg (fun z : AlY => z.2.1) e, congrArg (fun z : AlY => z.2.2) e⟩⟩
  keeps := fun _ _ _ ⟨K, hK, c⟩ k => ⟨K, PySem.W.Frag.In.keeps hK k, c⟩
theorem obsY_eq {n : Nat} {fa : List He.Fa} {fn : List He.DefD} {su : List SupD} {ex : PySem.W.Frag → Bool} {g : Addr → Option Obj} {s : Shared} (h : ∀ a, g a = s.heap.get? a) : obsY n fa fn su ex g = (hookY n fa fn su ex).obs s := by
  obtain rfl : g = s.heap.get? := funext h
  rfl
theorem SaysY.def_ {fa : List He.Fa} {fn : List He.DefD} {su : List SupD} {ex : PySem.W.Frag → Bool} {w : World} {K : PySem.W.Frag} (c : SaysY fa fn su ex w K) (i : Nat) {d : SupD} (h : su[i]? = some d := by rfl) : fnC K d.at_ = d.val := by
  have e := congrArg (fun l : List FnC => l[i]?) c.sup
  simp only [List.getElem?_map, h, Option.map_some] at e
  exact Option.some.inj e
/-! ### what the written part says of such a class -/
def oexB (K : PySem.W.Frag) (C : Addr) : Bool := (match K.lookup C with
  | some ⟨oc, _, .cls ⟨_, _, mro, _, _, hd, _, _, _, _, del⟩, ⟨sl⟩⟩ => decide (oc = .type "type") && (match mro with
    | .ref c :: bm => decide (c = C) && PySem.HandSPX.refsVE bm
    | _ => false) && hd && !del && (match sl with
    | [_, _, _, _, some v, _] => decide (v = .builtin "ValueError.__new__")
    | _ => false)
  | _ => false) && decide (PySem.W.findIn K (.ref C) "__setattr__" = some (some (.builtin "object.__setattr__"))) && decide (PySem.W.subIn K (.ref C) (.type "BaseException") = some true) && decide (PySem.W.typeIn K (.ref C) = some (.type "type")) && PySem.W.keepIn K (.ref C)
theorem oex_of {K : PySem.W.Frag} {C : Addr} (h : oexB K C = true) : OexC K C := by
  unfold oexB at h
  simp only [Bool.and_eq_true, decide_eq_true_eq] at h
  obtain ⟨⟨⟨⟨h1, h2⟩, h3⟩, h4⟩, h5⟩ := h
  refine ⟨?_, h2, h3, h4, h5⟩
  split at h1
  · rename_i oc dd nm bs mro ns qn hd sn sb ab col del sl lk
    simp only [Bool.and_eq_true, decide_eq_true_eq, Bool.not_eq_true'] at h1
    obtain ⟨⟨⟨⟨rfl, h7⟩, rfl⟩, rfl⟩, h8⟩ := h1
    split at h7
    · rename_i c bm
      simp only [Bool.and_eq_true, decide_eq_true_eq] at h7
      obtain ⟨rfl, h7⟩ := h7
      split at h8
      · rename_i k0 k1 k2 k3 v k5
        have h8 : v = .builtin "ValueError.__new__" := of_decide_eq_true h8
        subst h8
        exact ⟨nm, qn, ns, bs, bm, sn, sb, ab, col, dd, k0, k1, k2, k3, k5, lk, h7⟩
      · cases h8
    · cases h7
  · cases h1
/-- a class of errors, its __init__ d -/
structure SupC (K : PySem.W.Frag) (C f : Addr) (file : Str) (d : SupD) : Prop where
  oex : OexC K C
  ini : PySem.W.findIn K (.ref C) "__init__" = some (some (.ref f))
  tI : PySem.W.typeIn K (.ref f) = some (.type "function")
  ex : ∃ (oc : Value) (od : Option Addr) (kV doc pm : Value) (an : Option Addr) (cda : Addr) (ct : Value) (osl : Array (Option Value)) (cc : Addr) (cl : Value) (cld : Option Addr) (csl : Array (Option Value)) (ccl : Value) (cdd : Option Addr) (vs : Array Value) (ccs : Array (Option Value)) (tf : Tok),
    K.lookup f = some ⟨oc, od, .func (PySem.W.ksFn d.name d.qual d.params d.body d.scope .none kV doc pm an (.ref cda) ct cc), osl⟩ ∧ PySem.W.codeIn K (.ref cda) d.qual = true ∧ K.lookup cc = some ⟨cl, cld, .cell (some (.ref C)), csl⟩ ∧ K.lookup cda = some ⟨ccl, cdd, .fields vs, ccs⟩ ∧ vs[2]? = some (.str file tf)
  sup : PySem.W.ks_superIn K C C "__init__" = some (some (.builtin "ValueError.__init__"))
  st : PySem.W.nsIn K cStatics "thirdparty.any" = some none
  sub : PySem.W.mroIn K C (.ref C) = some true
  ve : PySem.W.subIn K (.ref C) (.type "ValueError") = some true
def supB (K : PySem.W.Frag) (x file : Str) : Bool := oexB K (He.ga K x) && (decide (PySem.W.findIn K (.ref (He.ga K x)) "__init__" = some (some (.ref (He.ma K (He.ga K x) "__init__")))) && (decide (PySem.W.typeIn K (.ref (He.ma K (He.ga K x) "__init__")) = some (.type "function")) &&
  ((match K.lookup (He.ma K (He.ga K x) "__init__") with
  | some ⟨_, _, .func fd, _⟩ => decide (fd.defaults = .none) && (PySem.W.codeIn K fd.code fd.qualname && ((match fd.closure with
    | [(_, cc)] => (match K.lookup cc with
      | some ⟨_, _, .cell (some (.ref D)), _⟩ => decide (D = He.ga K x)
      | _ => false)
    | _ => false) && (match fd.code with
    | .ref cda => (match K.lookup cda with
      | some ⟨_, _, .fields vs, _⟩ => (match (vs[2]? : Option Value) with
        | some (.str z _) => decide (z = file)
        | _ => false)
      | _ => false)
    | _ => false)))
  | _ => false) && (decide (PySem.W.ks_superIn K (He.ga K x) (He.ga K x) "__init__" = some (some (.builtin "ValueError.__init__"))) && (decide (PySem.W.nsIn K cStatics "thirdparty.any" = some none) &&
    (decide (PySem.W.mroIn K (He.ga K x) (.ref (He.ga K x)) = some true) && decide (PySem.W.subIn K (.ref (He.ga K x)) (.type "ValueError") = some true)))))))
theorem sup_of {K : PySem.W.Frag} {x file : Str} {d : SupD} (hd : d.at_ = (x, some ("__init__" : Str))) (e : fnC K d.at_ = d.val) (h : supB K x file = true) : SupC K (He.ga K x) (He.ma K (He.ga K x) "__init__") file d := by
  unfold supB at h
  simp only [Bool.and_eq_true, decide_eq_true_eq] at h
  obtain ⟨h1, h2, h3, h4, h5, h6, h7, h8⟩ := h
  refine ⟨oex_of h1, h2, h3, ?_, h5, h6, h7, h8⟩
  rw [hd] at e
  unfold fnC SupD.val at e
  have ea : He.fAd K (x, some ("__init__" : Str)) = He.ma K (He.ga K x) "__init__" := rfl
  rw [ea] at e
  split at h4
  · rename_i oc od fd osl lk
    rw [lk] at e
    obtain ⟨fnm, fq, fp, fb, fsc, fg, fcl, fdf, fkw, fdoc, fpm, fan, fcode, fct, fbl⟩ := fd
    simp only [Option.some.injEq, Prod.mk.injEq] at e
    obtain ⟨rfl, rfl, rfl, rfl, rfl, rfl, e7, rfl⟩ := e
    simp only [Bool.and_eq_true, decide_eq_true_eq] at h4
    obtain ⟨rfl, k1, k2, k3⟩ := h4
    split at k2
    · rename_i nm cc
      obtain rfl : nm = "__class__" := by simpa using e7
      split at k2
      · rename_i cl cld D csl lc
        have k2 : D = He.ga K x := of_decide_eq_true k2
        subst k2
        split at k3
        · rename_i cda
          split at k3
          · rename_i ccl cdd vs ccs lcd
            split at k3
            · rename_i z tf hv
              have k3 : z = file := of_decide_eq_true k3
              subst k3
              exact ⟨oc, od, fkw, fdoc, fpm, fan, cda, fct, osl, cc, cl, cld, csl, ccl, cdd, vs, ccs, tf, lk, k1, lc, lcd, hv⟩
            · cases k3
          · cases k3
        · cases k3
      · cases k2
    · cases k2
  · cases h4
end Ed

namespace Ed
open PySem PySem.Spec PyProof.Rows L2
/-! ### a def that closes over its class: its body's context -/
structure SupScope (N P : List Str) (sc : Scope) : Prop where
  kind : sc.kind = .function
  co : sc.isCoroutine = false
  gen : sc.isGenerator = false
  nd : N.Nodup
  pre : N.take P.length = P
  par : ∀ x ∈ P, sc.names.lookup x = some .local
  nocell : ∀ y ∈ sc.names, y.2 ≠ .cell
  free : ∀ y ∈ sc.names, y.2 = .free → y.1 = "__class__"
  sup : sc.names.lookup ("super" : Str) = some .globalImplicit
  cls : sc.names.lookup ("__class__" : Str) = some .free
def cxS (CX : CXT) (P : Program) (w : World) (K : PySem.W.Frag) (mg : Str → Option Value) (base : Heap) (N : List Str) (qual : Str) (scope : Scope) (f : Addr) (cd : Value) (cc : Addr) (A : Around) (outer : List Env) (s : Shared) (H : Hp) (E : XK) : Cx where
  prog := P
  w := w
  K := K
  mg := mg
  base := base
  A := A.deeper (PySem.W.ksEnv qual scope s.heap.objs.size f cd cc)
  N := N
  s_0 := s
  H_0 := H
  env := PySem.W.ksEnv qual scope s.heap.objs.size f cd cc
  outer := outer
  stack := PySem.W.ksEnv qual scope s.heap.objs.size f cd cc :: outer
  ex := []
  calm := true
  fn := fun _ => false
  pn := []
  xe := fun e s' => wpAny (model P w) (A.deeper (PySem.W.ksEnv qual scope s.heap.objs.size f cd cc)) (leaving (PySem.W.ksEnv qual scope s.heap.objs.size f cd cc) e) (fun _ s'' => CX outer H s E e s'') (fun e' s'' => CX outer H s E e' s'') s'
theorem fst_zip {α β : Type} : ∀ (l : List α) (m : List β), ((l.zip m).map Prod.fst).Sublist l
  | [], _ => .slnil
  | a :: l, [] => by
    rw [List.zip_nil_right]
    exact List.nil_sublist _
  | a :: l, b :: m => (fst_zip l m).cons_cons a
theorem look_rev {α : Type} {x : Str} {v : α} : ∀ {ps : List Str} {us : List α} {i : Nat}, ps.Nodup → ps[i]? = some x → us[i]? = some v → (ps.zip us).reverse.lookup x = some v := by
  intro ps us i nd h1 h2
  have key : ∀ {l : List (Str × α)}, (l.map Prod.fst).Nodup → (x, v) ∈ l → l.lookup x = some v := by
    intro l
    induction l with
    | nil => intro _ h; cases h
    | cons p l ih =>
      intro nd h
      obtain ⟨y, z⟩ := p
      have nd := List.nodup_cons.mp nd
      rcases List.mem_cons.mp h with h | h
      · cases h
        simp [List.lookup]
      · have hne : x ≠ y := fun e => nd.1 (List.mem_map.mpr ⟨_, h, e⟩)
        have e : (x == y) = false := by simpa using hne
        rw [List.lookup, e]
        exact ih nd.2 h
  refine key ?_ ?_
  · rw [List.map_reverse]
    refine (List.reverse_perm _).nodup_iff.mpr ?_
    exact nd.sublist (fst_zip ps us)
  · refine List.mem_reverse.mpr (List.mem_of_getElem? (i := i) ?_)
    rw [List.getElem?_zip_eq_some.mpr]
    exact ⟨h1, h2⟩
theorem inv_sup {CX : CXT} {P : Program} {w : World} {K : PySem.W.Frag} {mg : Str → Option Value} {base : Heap} {N ps : List Str} {qual : Str} {scope : Scope} {f cc : Addr} {cd cl : Value} {cld : Option Addr} {csl : Array (Option Value)} {C : Addr} {A : Around} {outer : List Env} {s : Shared} {H : Hp} {E : XK} {us : List Value} {vs : List V} {h1 : Heap} {tk : Nat}
    (S : SupScope N ps scope) (hd : A.handled = none) (e0 : Env0 P w K mg base A outer s H) (hl : vs.length = ps.length) (r : Vals vs us) (lc : K.lookup cc = some ⟨cl, cld, .cell (some (.ref C)), csl⟩)
    (hns : h1.Ns s.heap.objs.size (fun x => (ps.zip us).reverse.lookup x)) (hk : ∀ b o, s.heap.get? b = some o → h1.get? b = some o) :
    Inv (cxS CX P w K mg base N qual scope f cd cc A outer s H E) [] (L2.start N vs) H { s with heap := h1, toks := tk } := by
  have hpl : ps.length ≤ N.length := by
    have := congrArg List.length S.pre
    rw [List.length_take] at this
    omega
  have bc := e0.mod.kin _ _ lc
  have one : ∀ x c, (PySem.W.ksEnv qual scope s.heap.objs.size f cd cc).cells.lookup x = some c → x = "__class__" ∧ c = cc := fun x c h => by
    have h : List.lookup x [(("__class__" : Str), cc)] = some c := h
    rw [List.lookup_cons] at h
    by_cases e : x = "__class__"
    · rw [beq_iff_eq.mpr e] at h
      exact ⟨e, (Option.some.inj h).symm⟩
    · rw [beq_eq_false_iff_ne.mpr e] at h
      cases h
  have noA : ∀ b : Addr, b ∉ (cxS CX P w K mg base N qual scope f cd cc A outer s H E).ex := fun b z => absurd (show b ∈ ([] : List Addr) from z) (by simp)
  refine ⟨⟨e0.mod, S.kind, rfl, rfl, Nat.le_refl _, fun y z c q1 q2 => ?_, fun y hy => ?_, fun y c q _ => ?_, fun _ => hd, Around.frames_deeper e0.frames, .inr ⟨rfl, rfl⟩, fun b z => absurd z (noA b), e0.bs, e0.bsz, fun b _ _ => noA b, fun b z => absurd z (noA b), e0.funs, e0.frf⟩,
    rfl, e0.bare, Un.kept hk, ⟨_, hns, fun i y v q1 q2 q3 => ?_⟩, fun y c h => ?_, e0.hok.fresh (Nat.le_refl _), fun y c h => ?_, fun p hp => absurd (show p ∈ ([] : List (Addr × Obj)) from hp) (by simp), e0.hok.kept hk, ?_⟩
  · rw [(one _ _ q1).1, (one _ _ q2).1]
  · have hy : scope.names.lookup y = some .cell ∨ scope.names.lookup y = some .free := hy
    rcases hy with hy | hy
    · exact absurd rfl (S.nocell _ (PySem.mem_of_lookup hy))
    · have e := S.free _ (PySem.mem_of_lookup hy) rfl
      have e : y = "__class__" := e
      subst e
      exact ⟨cc, rfl⟩
  · cases (show false = true from q)
  · have hi : i < vs.length := by
      unfold L2.start at q2
      by_cases hi : i < vs.length
      · exact hi
      · rw [List.getElem?_append_right (by simpa using hi), List.getElem?_replicate] at q2
        split at q2 <;> cases q2
    have ha : vs[i]? = some v := by
      unfold L2.start at q2
      rw [List.getElem?_append_left (by simpa using hi), List.getElem?_map] at q2
      cases e : vs[i]? with
      | none =>
        rw [e] at q2
        cases q2
      | some a =>
        rw [e] at q2
        cases q2
        rfl
    obtain ⟨u, hu, rv⟩ := r.get ha
    have hp : ps[i]? = some y := by
      rw [← S.pre, List.getElem?_take_of_lt (by omega)]
      exact q1
    have ndP : ps.Nodup := by
      rw [← S.pre]
      exact S.nd.sublist (List.take_sublist _ _)
    exact ⟨u, rv, .inl ⟨S.par y (List.mem_of_getElem? hp), look_rev ndP hp hu⟩⟩
  · obtain ⟨_, rfl⟩ := one _ _ h
    exact ⟨_, _, hk _ _ (e0.bs _ _ bc).1, rfl⟩
  · obtain ⟨_, rfl⟩ := one _ _ h
    exact (e0.bs _ _ bc).2
  · unfold L2.start
    show _ = N.length
    rw [List.length_append, List.length_map, List.length_replicate]
    omega
end Ed

namespace Ed
open PySem PySem.Spec PyProof.Rows L2
/-- ValueError.__init__, bound to the exception at a (the wrapper at u), called -/
theorem call_mw {X : Cx} {pins : List (Addr × Obj)} {σ : L2.St} {H : Hp} {s : Shared} {a C u : Addr} {us : List Value} {Q : Value → Shared → Prop} {A : Around} {E : Value → Shared → Prop} (T : OexC X.K C) (I : Inv X pins σ H s) (e : H a = some (exo a C none)) (hl : us.length ≤ sizeLine)
    (hu : s.heap.get? u = some (PySem.W.kxs_mw "ValueError.__init__" a)) (h : ∀ s', Inv X pins σ H s' → Q .none s') : wpAny (model X.prog X.w) A (call (.ref u) us) Q E s := by
  obtain ⟨nm, q, N, bs, bm, sn, sub, ab, col, dd, k0, k1, k2, k3, k5, hC, hbm⟩ := T.cls
  obtain ⟨t1, ho⟩ := exo_at I.hok e
  obtain ⟨hp, g, dr, t, os⟩ := s
  refine wpAny_call (codeAny_of_tree ?_)
  show wpAny _ A.in1 (callAny (.ref u) ⟨us, []⟩) _ _ _
  simp only [callAny]
  refine wpAny_bind (wpAny_load hu ?_)
  simp only [show (Value.type "method-wrapper" == Value.type "method" || Value.type "method-wrapper" == Value.type "builtin_function_or_method" || Value.type "method-wrapper" == Value.type "method-wrapper") = true by decide, if_true]
  refine PySem.W.KFB.if_so (by decide) ?_
  refine wpAny_bind (PySem.W.check_bound_init F.excBase_ValueError.toExcCallFacts (I.kIn _ _ hC) ho rfl ?_)
  refine wpAny_bind (wpAny_pure (wpAny_pure ?_))
  refine ⟨plainId_quiet F.excBase_ValueError.init.plain _, codeAny_builtin F.excBase_ValueError.initEntry ?_⟩
  refine PySem.W.exc_init_tree (cls := .ref C) (t0 := t1) (dv := none) (c2 := .none) (c3 := .none) (b4 := .bool false) ho hl fun h' k hx _ => ?_
  have J := I.write (t' := t) (x := a) (e := a) (o := exo a C none) (by rw [e]; exact True.intro) (.inl rfl) k ⟨_, hx⟩ (exo_ok hx)
  have eu : upd H a (exo a C none) = H := by
    funext b
    by_cases hb : b = a
    · rw [hb, upd_same, e]
    · rw [upd_ne hb]
  rw [eu] at J
  exact h _ J
/-- such an __init__, by its body: super().__init__(e), then the rest -/
theorem fn_sup {CX : CXT} {P : Program} {w : World} {K : PySem.W.Frag} {mg : Str → Option Value} {base : Heap} {k : Nat} {C f : Addr} {file : Str} {d : SupD} {N ps : List Str} {sp : Sp} {e : Expr} {rest : List Stmt} {p0 p1 p2 p3 p4 : Pos} {ar : Arg}
    (SC : SupC K C f file d) (hb0 : d.body = .Expr (.Call (.Attribute (.Call (.Name "super" p0) [] [] p1) "__init__" p2) [e] [] p3) p4 :: rest) (S : SupScope N ps d.scope) (hpar : (d.params.posonlyargs ++ d.params.args).head? = some ar) (hN : N[0]? = some ar.arg) (har : ar.arg ∈ ps)
    (hfile : (P.main.file == file) = true) (htop : (P.main.scope.names.lookup ("super" : Str)).isSome = false) (hsu : mg ("super" : Str) = none) (len : ∀ vs H Q E, sp vs H Q E → vs.length = ps.length)
    (hbind : ∀ (kV doc pm : Value) (an : Option Addr) (cda : Addr) (ct : Value) (cc : Addr) (s : Shared) (us : List Value), us.length = ps.length → BindsTo s (PySem.W.ksFn d.name d.qual d.params d.body d.scope .none kV doc pm an (.ref cda) ct cc) ⟨us, []⟩ (ps.zip us))
    (hbody : ∀ (cdv : Value) (cc : Addr) (A : Around) (outer : List Env) (s : Shared) (H : Hp) (vs : List V) (Q : VK) (E : XK), Room k (A.deeper (PySem.W.ksEnv d.qual d.scope s.heap.objs.size f cdv cc)) → sp vs H Q E →
      ∃ te t a vs', PE (cxS CX P w K mg base N d.qual d.scope f cdv cc A outer s H E) e te ∧ PSs (cxS CX P w K mg base N d.qual d.scope f cdv cc A outer s H E) rest t ∧ vs = .ref a :: vs' ∧ H a = some (exo a C none) ∧
        te (L2.start N vs) H fun x H1 => [x].length = 1 ∧ H1 a = some (exo a C none) ∧ t { nx := fun _ H' => Q .non H', rt := Q } (L2.start N vs) H1)
    (hsw : ∀ L fd cd cc, swapsWith (.Call (.Attribute (.Call (.Name "super" p0) [] [] p1) "__init__" p2) [e] [] p3) none p4.line (PySem.W.ksEnv d.qual d.scope L fd cd cc) = pure false := by intro _ _ _ _; rfl)
    {pl : Addr → Addr → Value → Addr → Sem Bool} (hev : ∀ L fd cd cc, eval (.Call (.Attribute (.Call (.Name "super" p0) [] [] p1) "__init__" p2) [e] [] p3) (PySem.W.ksEnv d.qual d.scope L fd cd cc) = (do
      let ov ← attributeBase (.Call (.Name "super" p0) [] [] p1) "__init__" (PySem.W.ksEnv d.qual d.scope L fd cd cc) (eval (.Call (.Name "super" p0) [] [] p1) (PySem.W.ksEnv d.qual d.scope L fd cd cc))
      standAt p2.atName
      let (f, first) ← holding [ov] (getMethod ov "__init__" (pl L fd cd cc))
      callWith p3 f first (backTo p3 (starEach [e] (PySem.W.ksEnv d.qual d.scope L fd cd cc))) []) := by intro _ _ _ _; rfl)
    (hst : ∀ env, starEach [e] env = (false, eval e env) :: starEach [] env := by intro _; rfl) :
    FnR P w K mg base CX (k + 1) f sp := by
  obtain ⟨oc, od, kV, doc, pm, an, cda, ct, osl, cc, cl, cld, csl, ccl, cdd, vs2, ccs, tf, lk, hcd, lc, lcd, hv2⟩ := SC.ex
  intro A outer s H us vs Q E hr e0 r hsp
  have hl := len _ _ _ _ hsp
  have KX : K.In s.heap := e0.mod.kin.keeps fun b o e => (e0.bs b o e).1
  have lim : s.heap.NoLimit := e0.mod.nolimit.keeps fun b o e => (e0.bs b o e).1
  obtain ⟨te, t, a, vs', he, ht, ev, ea, hq⟩ := hbody (.ref cda) cc A outer s H vs Q E (hr.deeper _) hsp
  refine ks_codeAny_call_defAt (fd := PySem.W.ksFn d.name d.qual d.params d.body d.scope .none kV doc pm an (.ref cda) ct cc) hr.depth (KX _ _ lk) rfl lim (PySem.W.codeRec_of KX hcd) rfl (hbind kV doc pm an cda ct cc s us (r.length.symm.trans hl)) S.nocell (fun y hy => S.par _ (List.of_mem_zip hy).1) (fun h₁ hns hk => ?_) S.co S.gen S.kind
  have I := inv_sup (CX := CX) (E := E) (qual := d.qual) (f := f) (cd := .ref cda) (tk := s.toks + (ps.zip us).length) S hr.hd e0 hl r lc hns hk
  show PySem.wpAt (model P w) (A.deeper (PySem.W.ksEnv d.qual d.scope s.heap.objs.size f (.ref cda) cc)) (.func d.body (PySem.W.ksEnv d.qual d.scope s.heap.objs.size f (.ref cda) cc)) (execs d.body (PySem.W.ksEnv d.qual d.scope s.heap.objs.size f (.ref cda) cc)) _ _ _
  rw [hb0]
  refine ks_wpAt_execs_cons (ks_wpAt_mono (E := (cxS CX P w K mg base N d.qual d.scope f (.ref cda) cc A outer s H E).xe) (Q := fun fl s' => fl = .next ∧ ∃ H1, Inv (cxS CX P w K mg base N d.qual d.scope f (.ref cda) cc A outer s H E) [] (L2.start N vs) H1 s' ∧ t { nx := fun _ H' => Q .non H', rt := Q } (L2.start N vs) H1) ?_ ?_ fun _ _ z => z)
  rotate_left
  · rintro fl s1 ⟨rfl, H1, I1, q⟩
    refine wpAt_of_wpAny (wpAny_mono (ht.run [] s1 _ H1 _ I1 q) (fun fl s' hs => ?_) fun _ _ z => z)
    have fin : ∀ {σ' : L2.St} {H' : Hp} {v : V} {u : Value}, Inv (cxS CX P w K mg base N d.qual d.scope f (.ref cda) cc A outer s H E) [] σ' H' s' → RelV v u → Q v H' → CE outer P w H s Q u s' := fun {σ' H' v u} J rv q => ⟨v, H', J.os, J.bare, J.base, J.hok, rv, q⟩
    cases fl with
    | ret u =>
      obtain ⟨v, σ', H', J, rv, q⟩ := hs
      exact fin J rv q
    | next =>
      obtain ⟨σ', H', J, q⟩ := hs
      exact fin (v := V.non) (u := Value.none) J rfl q
    | brk =>
      obtain ⟨_, _, _, q⟩ := hs
      exact False.elim q
    | cont =>
      obtain ⟨_, _, _, q⟩ := hs
      exact False.elim q
  refine ks_wpAt_Expr_any ?_ I.quiet (hsw _ _ _ _)
  refine ks_wpAt_MethodCall ?_ (hev _ _ _ _)
  have hat : (("__init__" : Str) == ("__class__" : Str)) = false := by decide
  refine ks_wpAt_super_base (fd := PySem.W.ksFn d.name d.qual d.params d.body d.scope .none kV doc pm an (.ref cda) ct cc) S.sup S.cls hat rfl (I.kIn _ _ lk) rfl hpar rfl (I.kIn _ _ lcd) rfl hv2 hfile htop ?_
  obtain ⟨mb, b1, b2⟩ := I.mod.blt
  refine PySem.W.ks_loadName_global S.kind S.sup (Calls.loadGlobal_builtin (I.mod.glob.keeps I.bk) hsu (b1.keeps I.bk) ((b2 _ (by decide)).trans (by decide +kernel)) ⟨rfl, ?_⟩)
  refine wpAny_loadName_free S.kind S.cls rfl ⟨_, I.kIn _ _ lc, rfl⟩ ?_
  obtain ⟨m, hm, hL⟩ := I.loc
  obtain ⟨u0, ru, lk0⟩ := hL 0 ar.arg (.ref a) hN (by rw [ev]; rfl) (.inl (S.par _ har))
  obtain rfl : u0 = Value.ref a := ru
  have hself : m ar.arg = some (.ref a) := by
    rcases lk0 with ⟨_, h⟩ | ⟨h, _⟩
    · exact h
    · have e1 : d.scope.names.lookup ar.arg = some .local := S.par _ har
      have h : d.scope.names.lookup ar.arg = some .cell ∨ d.scope.names.lookup ar.arg = some .free := h
      rw [e1] at h
      rcases h with h | h <;> cases h
  refine wpAny_loadName_local S.kind (S.par _ har) hm hself ?_
  obtain ⟨nm, q, N1, bs, bm, sn, sub, ab, col, dd, k0, k1, k2, k3, k5, hC, hbm⟩ := SC.oex.cls
  have hcl : PySem.W.clsIn K C = some { name := nm, bases := bs, mro := .ref C :: bm, ns := N1, qualname := q, hasDict := true, slotNames := sn, subclasses := sub, abstract := ab, collection := col, hasDel := false } := by
    unfold PySem.W.clsIn
    rw [hC] <;> rfl
  obtain ⟨t1, ho⟩ := exo_at I.hok ea
  refine ks_wpAny_isType_cls (I.kIn _ _ hC) rfl ⟨rfl, ?_⟩
  refine ks_wpAny_call_super (I.kIn _ _ hC) rfl ho rfl (fun c z => by cases z) (PySem.W.looks_mroIn I.kIn SC.sub) fun h2 hso k2' => ?_
  have I1 : Inv (cxS CX P w K mg base N d.qual d.scope f (.ref cda) cc A outer s H E) [] (L2.start N vs) H ⟨h2, s.gens, s.drawn, s.toks + (ps.zip us).length, s.os⟩ := I.kept k2'
  obtain ⟨t2, ho2⟩ := exo_at I1.hok ea
  have IA : PySem.W.InstAt h2 a { cls := .ref C, dict := none, data := .fields #[.ref t2, .none, .none, .none, .bool false, .none] } C none := ⟨ho2, rfl, rfl, trivial⟩
  have hf := SC.sup
  unfold PySem.W.ks_superIn at hf
  rw [hcl] at hf
  refine PySem.W.kxs_getMethod PySem.W.kxs_ValueError hso (PySem.W.looks_opaque I1.kIn SC.st) (l₀ := .ref C :: bm) ((PySem.W.looks_clsIn I1.kIn hcl).andThen .now) rfl I1.kIn hf (IA.type.andThen (PySem.W.looks_subIn I1.kIn SC.ve)) (PySem.W.ks_ne I1.kIn IA hcl) hat ?_
  have I2 : Inv (cxS CX P w K mg base N d.qual d.scope f (.ref cda) cc A outer s H E) [] (L2.start N vs) H ⟨h2.push (PySem.W.kxs_mw "ValueError.__init__" a), s.gens, s.drawn, s.toks + (ps.zip us).length + 1, s.os⟩ := I1.kept fun b o z => Heap.get?_push_of_some _ z
  have gu : (h2.push (PySem.W.kxs_mw "ValueError.__init__" a)).get? h2.objs.size = some (PySem.W.kxs_mw "ValueError.__init__" a) := Heap.get?_push_at rfl rfl
  have I3 := I2.pins_of (pins' := [(h2.objs.size, PySem.W.kxs_mw "ValueError.__init__" a)]) fun p hp => by
    rw [List.mem_singleton.mp hp]
    exact ⟨gu, I1.hok.fresh (Nat.le_refl _), Ne.symm (Nat.ne_of_lt I1.lt), I1.nofs (Nat.le_refl _), fun v z => by cases z⟩
  have run := (pa_cons he pa_nil (hst _)).run p3 [(h2.objs.size, PySem.W.kxs_mw "ValueError.__init__" a)] _ (L2.start N vs) H (fun ws H1 => ws.length = 1 ∧ H1 a = some (exo a C none) ∧ t { nx := fun _ H' => Q .non H', rt := Q } (L2.start N vs) H1) I3 hq
  have run2 := wpAny_mono run (Q' := fun us1 s3 => PySem.W.KxsAt "ValueError.__init__" h2.objs.size a s3.heap ∧ wpAny (model P w) (A.deeper (PySem.W.ksEnv d.qual d.scope s.heap.objs.size f (.ref cda) cc)) (call (.ref h2.objs.size) ([] ++ us1)) (fun _ s' => (Flow.next = .next ∧ ∃ H1, Inv (cxS CX P w K mg base N d.qual d.scope f (.ref cda) cc A outer s H E) [] (L2.start N vs) H1 s' ∧ t { nx := fun _ H' => Q .non H', rt := Q } (L2.start N vs) H1)) (cxS CX P w K mg base N d.qual d.scope f (.ref cda) cc A outer s H E).xe s3) (fun us1 s3 ⟨ws, H1, J, rw1, hl1, ea1, q1⟩ => by
      have hu1 := (J.pin (h2.objs.size, PySem.W.kxs_mw "ValueError.__init__" a) (List.mem_append_right _ List.mem_cons_self)).1
      refine ⟨hu1, call_mw (X := cxS CX P w K mg base N d.qual d.scope f (.ref cda) cc A outer s H E) (C := C) SC.oex J ea1 ?_ hu1 fun s4 J4 => ⟨rfl, H1, J4.pins_of fun p hp => (by cases hp), q1⟩⟩
      rw [List.nil_append, ← Paired.length rw1, hl1, sizeLine_eq]
      decide) fun _ _ z => z
  show wpAny (model P w) (A.deeper (PySem.W.ksEnv d.qual d.scope s.heap.objs.size f (.ref cda) cc)) (callWith p3 (.ref h2.objs.size) [] (backTo p3 (starEach [e] (PySem.W.ksEnv d.qual d.scope s.heap.objs.size f (.ref cda) cc))) []) _ _ _
  have run3 : wpAny (model P w) (A.deeper (PySem.W.ksEnv d.qual d.scope s.heap.objs.size f (.ref cda) cc)) (spliced (backTo p3 (starEach [e] (PySem.W.ksEnv d.qual d.scope s.heap.objs.size f (.ref cda) cc)))) _ _ _ := run2
  rw [hst] at run3 ⊢
  refine PySem.W.kxs_callWith (i := "ValueError.__init__") (x := a) rfl ?_
  exact Calls.evalArgs_plain run3
/-- C(e, ..): a new error of such a class -/
theorem pmk_sup {X : Cx} {x : Str} {C fI : Addr} {k : Nat} {sp : Sp} {e : Expr} {es : List Expr} {ta : TA} {p pos : Pos} (T : OexC X.K C) (iC : PySem.W.findIn X.K (.ref C) "__init__" = some (some (.ref fI))) (tI : PySem.W.typeIn X.K (.ref fI) = some (.type "function"))
    (G : FnR X.prog X.w X.K X.mg X.base CX0 k fI sp) (hr : Room (k + 1) X.A) (hg : Gl X x) (hm : X.mg x = some (.ref C)) (ha : PA X (e :: es) ta)
    (hdb : (x == ("__debug__" : Str)) = false := by decide) (he : starEach (e :: es) X.env = (false, eval e X.env) :: starEach es X.env := by rfl) (hpl : (backTo pos (starEach es X.env)).any (·.1) = false := by rfl) :
    PMk X (.Call (.Name x p) (e :: es) [] pos) (tMkO C sp [] ta) := by
  intro pins s σ H Q I h
  obtain ⟨nm, q, N, bs, bm, sn, sub, ab, col, dd, k0, k1, k2, k3, k5, hC, hbm⟩ := id T.cls
  refine wpAny_Call_Name_kw (ld_glob I hg hm ?_ hdb)
  refine PySem.W.callWith_K (h₀ := X.base) I.ok.mod.kin T.kC (thn (ha.run pos pins s σ H _ I h) fun us1 s1 ⟨ws, H1, I1, rws, hz, hw⟩ => ⟨I1.kIn, ?_⟩) he hpl
  show wpAny _ _ (call (.ref C) us1) _ _ _
  obtain ⟨h1, gs, dw, tk, os⟩ := s1
  have sz1 : h1.objs.size ≤ h1.objs.size + 1 := Nat.le_succ _
  have hq := hw (h1.objs.size + 1) (I1.hok.fresh sz1)
  have kp : ∀ b o, h1.get? b = some o → ((h1.push (PySem.W.kdv_tup us1)).push (PySem.HandSPX.excO C h1.objs.size)).get? b = some o := fun b o z => Heap.get?_push_of_some _ (Heap.get?_push_of_some _ z)
  have ge : ((h1.push (PySem.W.kdv_tup us1)).push (PySem.HandSPX.excO C h1.objs.size)).get? (h1.objs.size + 1) = some (PySem.HandSPX.excO C h1.objs.size) := by heap_get
  have J : Inv X pins σ (upd H1 (h1.objs.size + 1) (exo (h1.objs.size + 1) C none)) ⟨(h1.push (PySem.W.kdv_tup us1)).push (PySem.HandSPX.excO C h1.objs.size), gs, dw, tk, os⟩ :=
    I1.laid (t' := tk) (a := h1.objs.size + 1) (o := exo (h1.objs.size + 1) C none) (h' := (h1.push (PySem.W.kdv_tup us1)).push (PySem.HandSPX.excO C h1.objs.size)) kp sz1 (exo_ok ge)
  have r2 : Vals (V.ref (h1.objs.size + 1) :: (ws ++ [])) (Value.ref (h1.objs.size + 1) :: us1) := by
    rw [List.append_nil]
    exact .cons rfl rws
  have lus : us1.length ≤ sizeLine := by
    rw [← Paired.length rws, sizeLine_eq]
    omega
  refine wpAny_call (PySem.HandSPX.call_own F.excBase_ValueError (fun Y => PySem.HandSPX.refsVE_contains Y bm hbm) (I1.kIn _ _ hC) (PySem.W.looks_findIn I1.kIn iC) (fun self => PySem.W.bind_fn I1.kIn self tI) lus
    (codeAny_mono (G _ X.stack _ _ (Value.ref (h1.objs.size + 1) :: us1) _ _ (fun _ _ _ => False) (hr.make C us1 []) (J.env0.make C us1 []) r2 hq) fun r s' hq' => ?_))
  cases r with
  | error er => exact False.elim hq'
  | ok fl =>
    cases fl with
    | ret u =>
      obtain ⟨v, H2, os2, bare2, un2, hok2, rv, ev, dA, fs, ea, ed, hd1, q2⟩ := hq'
      subst ev
      obtain ⟨h2, g2, d2, t2, os'⟩ := s'
      exact ⟨rv, mk_end (raises_own T.exC T.tyC) I1 sz1 kp un2 hok2 os2 bare2 ea ed hd1 q2⟩
    | next => exact False.elim hq'
    | brk => exact False.elim hq'
    | cont => exact False.elim hq'
end Ed

namespace Ed
open PySem PySem.Spec PyProof.Rows L2
/-! ### defs that may raise -/
def sx1 (C : V → Hp → VK → XK → Prop) : Sp := fun vs H Q E => ∃ a, vs = [a] ∧ C a H Q E
def sx2 (C : V → V → Hp → VK → XK → Prop) : Sp := fun vs H Q E => ∃ a b, vs = [a, b] ∧ C a b H Q E
def sx3 (C : V → V → V → Hp → VK → XK → Prop) : Sp := fun vs H Q E => ∃ a b c, vs = [a, b, c] ∧ C a b c H Q E
def sx4 (C : V → V → V → V → Hp → VK → XK → Prop) : Sp := fun vs H Q E => ∃ a b c d, vs = [a, b, c, d] ∧ C a b c d H Q E
def sx5 (C : V → V → V → V → V → Hp → VK → XK → Prop) : Sp := fun vs H Q E => ∃ a b c d e, vs = [a, b, c, d, e] ∧ C a b c d e H Q E
section
variable {vs : List V} {H : Hp} {Q : VK} {E : XK}
theorem sx1_len {C} (h : sx1 C vs H Q E) : vs.length = 1 := by
  obtain ⟨_, rfl, _⟩ := h
  rfl
theorem sx2_len {C} (h : sx2 C vs H Q E) : vs.length = 2 := by
  obtain ⟨_, _, rfl, _⟩ := h
  rfl
theorem sx3_len {C} (h : sx3 C vs H Q E) : vs.length = 3 := by
  obtain ⟨_, _, _, rfl, _⟩ := h
  rfl
theorem sx4_len {C} (h : sx4 C vs H Q E) : vs.length = 4 := by
  obtain ⟨_, _, _, _, rfl, _⟩ := h
  rfl
theorem sx5_len {C} (h : sx5 C vs H Q E) : vs.length = 5 := by
  obtain ⟨_, _, _, _, _, rfl, _⟩ := h
  rfl
end
def Ok1x (P : Program) (w : World) (K : PySem.W.Frag) (mg : Str → Option Value) (base : Heap) (x : Str) (k : Nat) (sp : Sp) : Prop :=
  ∃ f, mg x = some (.ref f) ∧ PySem.W.keepIn K (.ref f) = true ∧ FnR P w K mg base (CX P w) k f sp
def tOwnW (sp : Sp) (W : WX) (t : TA) : TE := fun σ H Q => t σ H fun vs H1 => sp vs H1 Q fun cls d H' => W cls d σ H'
theorem run_fnW {X : Cx} {k : Nat} {f : Addr} {sp : Sp} {W : WX} {pins : List (Addr × Obj)} {σ : L2.St} {H : Hp} {s : Shared} {Q : VK} {us : List Value} {vs : List V} (F : FnR X.prog X.w X.K X.mg X.base (CX X.prog X.w) k f sp) (hr : Room k X.A) (tk : Takes X W) (I : Inv X pins σ H s) (r : Vals vs us)
    (h : sp vs H Q fun cls d H' => W cls d σ H') : wpAny (model X.prog X.w) X.A (call (.ref f) us) (EP X pins σ Q) X.xe s := by
  refine wpAny_call (codeAny_mono (F X.A X.stack s H us vs Q _ hr I.env0 r h) fun r s' hq => ?_)
  cases r with
  | error e => exact tk e s' (XE.of_call I (fun _ _ _ z => z) hq)
  | ok fl =>
    cases fl with
    | ret u => exact I.after hq
    | next => exact False.elim hq
    | brk => exact False.elim hq
    | cont => exact False.elim hq
theorem pe_ownW {X : Cx} {k : Nat} {sp : Sp} {W : WX} {x : Str} {p pos : Pos} {e : Expr} {es : List Expr} {t : TA} (G : Ok1x X.prog X.w X.K X.mg X.base x k sp) (hr : Room k X.A) (hg : Gl X x) (tk : Takes X W)
    (ha : PA X (e :: es) t) (hdb : (x == ("__debug__" : Str)) = false := by decide) (he : starEach (e :: es) X.env = (false, eval e X.env) :: starEach es X.env := by rfl) (hpl : (backTo pos (starEach es X.env)).any (·.1) = false := by rfl) :
    PE X (.Call (.Name x p) (e :: es) [] pos) (tOwnW sp W t) := by
  obtain ⟨f, hm, hk, F⟩ := G
  refine ⟨fun pins s σ H Q I h => ?_⟩
  refine wpAny_Call_Name_kw (ld_glob I hg hm ?_ hdb)
  refine PySem.W.callWith_K (h₀ := X.base) I.ok.mod.kin hk (thn (ha.run pos pins s σ H _ I h) fun us s1 ⟨vs, H1, I1, r, q⟩ => ⟨I1.kIn, ?_⟩) he hpl
  exact run_fnW F hr tk I1 r q
theorem r_ownW {sp : Sp} {W : WX} {tr : TA} {σ : L2.St} {H : Hp} {Q : VK} (h : tr σ H fun vs H1 => sp vs H1 Q fun cls d H' => W cls d σ H') : tOwnW sp W tr σ H Q := h
abbrev WofE (E : XK) : WX := fun cls d _ H => E cls d H
/-- a def that may raise, by its body -/
theorem ok1x_of {P : Program} {w : World} {K : PySem.W.Frag} {mg : Str → Option Value} {base : Heap} {x qual : Str} {params : Arguments} {body : List Stmt} {scope : Scope} {kws : List (Str × V)} {f : Addr} {fd : FuncData} {N ps : List Str} {k : Nat} {sp : Sp}
    (F : FunD K x qual params body scope [] kws f fd) (hm : mg x = some (.ref f)) (S : FnScope N ps scope) (len : ∀ vs H Q E, sp vs H Q E → vs.length = ps.length)
    (hb : ∀ (kV doc pm : Value) (an : Option Addr) (cdv ct : Value) (us : List Value), us.length = ps.length → bindArgs (PySem.W.fnOf x qual params body scope .none kV doc pm an cdv ct) ⟨us, []⟩ = pure (ps.zip us))
    (hbody : ∀ (cdv : Value) (A : Around) (outer : List Env) (s : Shared) (H : Hp) (vs : List V) (Q : VK) (E : XK), Room k (A.deeper (envOfC qual scope s.heap.objs.size f cdv)) → sp vs H Q E →
      Takes (cxOf (CX P w) P w K mg base N qual scope f cdv A outer s H E) (WofE E) → PassesOwn (model P w) (cxOf (CX P w) P w K mg base N qual scope f cdv A outer s H E).A (cxOf (CX P w) P w K mg base N qual scope f cdv A outer s H E).env (cxOf (CX P w) P w K mg base N qual scope f cdv A outer s H E).xe →
      ∃ t, PSs (cxOf (CX P w) P w K mg base N qual scope f cdv A outer s H E) body t ∧ t { nx := fun _ H' => Q .non H', rt := Q } (L2.start N vs) H) : Ok1x P w K mg base x (k + 1) sp := by
  refine ⟨f, hm, F.kp, ?_⟩
  have G := F.ok (P := P) (w := w) (mg := mg) (base := base) (CX := CX P w) S len fun cdv A outer s H vs Q E hr hsp =>
    hbody cdv A outer s H vs Q E hr hsp (takes_of rfl rfl rfl rfl) (passes_of (X := cxOf (CX P w) P w K mg base N qual scope f cdv A outer s H E) rfl)
  exact (G.raw (F.bindsN hb) .nil).imp fun vs H Q E h => by
    rw [List.append_nil]
    exact h
def tRaise (t : L2.St → Hp → XK → Prop) (W : WX) : TS := fun _ σ H => t σ H fun cls d H' => W cls d σ H'
theorem kRaise {X : Cx} {W : WX} {e : Expr} {t : L2.St → Hp → XK → Prop} {pos : Pos} (hc : X.calm = true) (tk : Takes X W) (he : PMk X e t) : PS X (.Raise (some e) none pos) (tRaise t W) := ps_raise hc tk he
theorem r_raise {t : L2.St → Hp → XK → Prop} {W : WX} {D : Ends} {σ : L2.St} {H : Hp} (h : t σ H fun cls d H' => W cls d σ H') : tRaise t W D σ H := h
theorem takes0 {X : Cx} : Takes X fun _ _ _ _ => False := fun _ _ ⟨_, _, _, _, _, _, _, _, _, _, _, _, _, _, _, _, h⟩ => h.elim
/-! ### errors made: the heap behind -/
theorem err_end {H : Hp} {a d : Addr} {e1 e2 e3 x : HO} (ha : H a = none) (ne : d ≠ a) : upd (del (upd (upd (upd H a e1) d e2) a e3) a) d x = upd H d x := by
  funext b
  by_cases hd : b = d
  · rw [hd, upd_same, upd_same]
  · rw [upd_ne hd, upd_ne hd]
    by_cases hb : b = a
    · rw [hb, del_same, ha]
    · rw [del_ne hb, upd_ne hb, upd_ne hd, upd_ne hb]
theorem upd_com {H : Hp} {a b : Addr} {x y : HO} (h : a ≠ b) : upd (upd H a x) b y = upd (upd H b y) a x := by
  funext c
  by_cases h1 : c = a
  · by_cases h2 : c = b
    · exact absurd (h1.symm.trans h2) h
    · rw [h1, upd_ne h, upd_same, upd_same]
  · by_cases h2 : c = b
    · rw [h2, upd_same, upd_ne (Ne.symm h), upd_same]
    · rw [upd_ne h2, upd_ne h1, upd_ne h1, upd_ne h2]
/-- what the making of an error asks: C's __init__ lays the fields fs in a new dict -/
def MkE (C : Addr) (sp : Sp) (vs : List V) (H : Hp) (Q : XK) : Prop := vs.length ≤ 1000 ∧ ∀ a, H a = none → sp (.ref a :: (vs ++ [])) (upd H a (exo a C none)) (fun v H2 => v = .non ∧ ∃ (d : Addr) (fs : List (Str × V)), H2 a = some (exo a C (some d)) ∧ H2 d = some (exd d fs) ∧ H d = none ∧ Q (.ref C) (some d) (upd (del H2 a) d (.xd fs))) (fun _ _ _ => False)
theorem r_mkO {C : Addr} {sp : Sp} {ta : TA} {σ : L2.St} {H : Hp} {Q : XK} (h : ta σ H fun vs H1 => MkE C sp vs H1 Q) : tMkO C sp [] ta σ H Q := h
/-- fields that are stored as they are -/
def spErr (C : Addr) (fs : List V → List (Str × V)) (n : Nat) (ok : List V → Prop) : Sp := fun vs H Q _ => ∃ a ws, vs = .ref a :: ws ∧ ws.length = n ∧ ok ws ∧ H a = some (exo a C none) ∧ ∀ d, H d = none → d ≠ a → Q .non (upd (upd H d (exd d (fs ws))) a (exo a C (some d)))
theorem mkE_plain {C : Addr} {fs : List V → List (Str × V)} {n : Nat} {ok : List V → Prop} {vs : List V} {H : Hp} {Q : XK} {F : Hp} {M : Cells} (o : Own F M H) (hn : vs.length = n) (h1 : n ≤ 1000) (hok : ok vs) (k : ∀ d H', F d = none → Own (upd F d (.xd (fs vs))) M H' → Q (.ref C) (some d) H') : MkE C (spErr C fs n ok) vs H Q := by
  refine ⟨by omega, fun a ha => ⟨a, vs, by rw [List.append_nil], hn, hok, upd_same, fun d hd ne => ⟨rfl, d, fs vs, upd_same, by rw [upd_ne ne, upd_same], ?_, ?_⟩⟩⟩
  · rw [upd_ne ne] at hd
    exact hd
  · rw [upd_ne ne] at hd
    rw [err_end ha ne]
    exact k d _ (o.free hd) (o.newF hd)
/-- one field, a list of what is handed over -/
def spErrL (K : PySem.W.Frag) (C : Addr) (f : Str) : Sp := fun vs H Q _ => ∃ a l xs, vs = [.ref a, .ref l] ∧ SqL K H l xs ∧ H a = some (exo a C none) ∧ ∀ q, H q = none → ∀ d, upd H q (.lst xs) d = none → d ≠ a → Q .non (upd (upd (upd H q (.lst xs)) d (exd d [(f, .ref q)])) a (exo a C (some d)))
theorem mkE_list {K : PySem.W.Frag} {C : Addr} {f : Str} {l : Addr} {xs : List V} {H : Hp} {Q : XK} {F : Hp} {M : Cells} (o : Own F M H) (hl : SqL K H l xs) (k : ∀ q d H', F q = none → F d = none → Own (upd F d (.xd [(f, .ref q)])) ((q, .lst xs) :: M) H' → Q (.ref C) (some d) H') : MkE C (spErrL K C f) [.ref l] H Q := by
  refine ⟨by show 1 ≤ 1000; omega, fun a ha => ⟨a, l, xs, rfl, (same_upd ha).seq hl, upd_same, fun q hq d hd ne => ?_⟩⟩
  have nqa : q ≠ a := fun z => by
    rw [z, upd_same] at hq
    cases hq
  rw [upd_ne nqa] at hq
  have hd' : upd H q (.lst xs) d = none := by
    by_cases h : d = q
    · rw [h, upd_same] at hd
      cases hd
    · rw [upd_ne h] at hd ⊢
      rw [upd_ne ne] at hd
      exact hd
  have ndq : d ≠ q := fun z => by
    rw [z, upd_same] at hd
    cases hd
  refine ⟨rfl, d, [(f, .ref q)], upd_same, by rw [upd_ne ne, upd_same], ?_, ?_⟩
  · rw [upd_ne ndq] at hd'
    exact hd'
  · rw [upd_com (Ne.symm nqa), err_end (by rw [upd_ne (Ne.symm nqa)]; exact ha) ne]
    have o1 := o.newM (x := .lst xs) hq
    exact k q d _ (o.free hq) (o1.free hd') (o1.newF hd')
end Ed

namespace Ed
open PySem PySem.Spec PyProof.Rows L2
/-! ### any, dict(pairs), insert, try -/
def rDictP (K : PySem.W.Frag) : List V → Hp → VK → Prop := fun xs H Q => ∃ (a : Addr) (ps : List Addr) (kvs : List (Key × V)), xs = [.ref a] ∧ SqL K H a (ps.map V.ref) ∧ Paired (fun p kv => SqT K H p [kV kv.1, kv.2]) ps kvs ∧ ∀ p, H p = none → Q (.ref p) (upd H p (.dK (mergeK [] kvs)))
def rInsert : V → List V → Hp → VK → Prop := fun x vs H Q => ∃ (l : Addr) (xs : List V) (i : Int) (y : V), x = .ref l ∧ vs = [.int i, y] ∧ H l = some (.lst xs) ∧ xs.length < sizeLine ∧ 0 ≤ i ∧ i < 2 ^ 63 ∧ Q .non (upd H l (.lst (xs.take i.toNat ++ [y] ++ xs.drop i.toNat)))
theorem kAny {X : Cx} (K : PySem.W.Frag) (hc : X.calm = true := by rfl) (hK : X.K = K := by rfl) : CallR X (.builtin "any") (rAny K) := by
  subst hK
  exact cr_any hc
theorem kDictP {X : Cx} (K : PySem.W.Frag) (hc : X.calm = true := by rfl) (hK : X.K = K := by rfl) : CallR X (.type "dict") (rDictP K) := by
  subst hK
  exact call_dictP hc
theorem m_insert {X : Cx} : MtR X "list.insert" rInsert := mt_insert
def tTryAs (K : PySem.W.Frag) (c : Value) (i : Nat) (tb : WX → TS) (ts : Addr → Value → Option Addr → TS) (Wout : WX) : TS := fun D σ H => tb (wAs K c i ts Wout D) D σ H
theorem kTryAs {X : Cx} (K : PySem.W.Frag) {x n : Str} {c : Value} {i : Nat} {body suite : List Stmt} {b₀ : Stmt} {np pos pos' : Pos} {tb : WX → TS} {ts : Addr → Value → Option Addr → TS} {Wout : WX}
    (hs : X.stack = X.env :: X.outer) (hf : X.env.frame = some X.env.locals) (hN : X.N.Nodup) (hi : X.N[i]? = some n) (hln : X.env.kindOf n = some .local) (hc : Names X x c) (tk : Takes X Wout)
    (hb : ∀ (W : WX) (pn : List (Addr × Obj)) (xe : Value → Shared → Prop), Takes (X.tr pn xe) W → PassesOwn (model X.prog X.w) X.A X.env xe → PSs (X.tr pn xe) body (tb W))
    (hsu : ∀ (a : Addr) (oe : Obj) (cls : Value) (d : Option Addr) (pn : List (Addr × Obj)), Zc cls d oe → (∃ vs, oe.data = .fields vs) → PSs (X.suite a ((a, oe) :: pn)) (b₀ :: suite) (ts a cls d)) (hK : X.K = K := by rfl) :
    PS X (.Try body [.ExceptHandler (some (.Name x np)) (some n) (b₀ :: suite) pos'] [] [] pos) (tTryAs K c i tb ts Wout) := by
  subst hK
  exact ps_try_as hs hf hN hi hln hc tk hb hsu
theorem r_tryAs {K : PySem.W.Frag} {c : Value} {i : Nat} {tb : WX → TS} {ts : Addr → Value → Option Addr → TS} {Wout : WX} {D : Ends} {σ : L2.St} {H : Hp} (h : tb (wAs K c i ts Wout D) D σ H) : tTryAs K c i tb ts Wout D σ H := h
/-- the clause takes it -/
theorem wAs_yes {K : PySem.W.Frag} {c : Value} {i : Nat} {ts : Addr → Value → Option Addr → TS} {Wout : WX} {D : Ends} {cls : Value} {d : Option Addr} {σ : L2.St} {H : Hp} (e : PySem.W.exmOne K cls c = some true)
    (k : ∀ a, H a = none → ts a cls d { nx := fun σ' H' => D.nx (σ'.set i none) H', rt := D.rt, bk := fun σ' H' => D.bk (σ'.set i none) H', ct := fun σ' H' => D.ct (σ'.set i none) H' } (σ.set i (some (.ref a))) H) : wAs K c i ts Wout D cls d σ H := ⟨true, e, fun _ => k, fun z => by cases z⟩
/-- .. or not -/
theorem wAs_no {K : PySem.W.Frag} {c : Value} {i : Nat} {ts : Addr → Value → Option Addr → TS} {Wout : WX} {D : Ends} {cls : Value} {d : Option Addr} {σ : L2.St} {H : Hp} (e : PySem.W.exmOne K cls c = some false) (k : Wout cls d σ H) : wAs K c i ts Wout D cls d σ H := ⟨false, e, (fun z => by cases z), fun _ => k⟩
/-! ### a raising def, with its record -/
theorem okfx_of {P : Program} {w : World} {K : PySem.W.Frag} {mg : Str → Option Value} {base : Heap} {x qual : Str} {params : Arguments} {body : List Stmt} {scope : Scope} {dvs : List V} {kws : List (Str × V)} {f : Addr} {fd : FuncData} {N ps : List Str} {k : Nat} {sp : Sp}
    (F : FunD K x qual params body scope dvs kws f fd) (S : FnScope N ps scope) (len : ∀ vs H Q E, sp vs H Q E → vs.length = ps.length)
    (hbody : ∀ (cdv : Value) (A : Around) (outer : List Env) (s : Shared) (H : Hp) (vs : List V) (Q : VK) (E : XK), Room k (A.deeper (envOfC qual scope s.heap.objs.size f cdv)) → sp vs H Q E →
      Takes (cxOf (CX P w) P w K mg base N qual scope f cdv A outer s H E) (WofE E) → PassesOwn (model P w) (cxOf (CX P w) P w K mg base N qual scope f cdv A outer s H E).A (cxOf (CX P w) P w K mg base N qual scope f cdv A outer s H E).env (cxOf (CX P w) P w K mg base N qual scope f cdv A outer s H E).xe →
      ∃ t, PSs (cxOf (CX P w) P w K mg base N qual scope f cdv A outer s H E) body t ∧ t { nx := fun _ H' => Q .non H', rt := Q } (L2.start N vs) H) : FnOk P w K mg base (CX P w) (k + 1) f fd ps sp :=
  F.ok (P := P) (w := w) (mg := mg) (base := base) (CX := CX P w) S len fun cdv A outer s H vs Q E hr hsp =>
    hbody cdv A outer s H vs Q E hr hsp (takes_of rfl rfl rfl rfl) (passes_of (X := cxOf (CX P w) P w K mg base N qual scope f cdv A outer s H E) rfl)
theorem ok1x_fn {P : Program} {w : World} {K : PySem.W.Frag} {mg : Str → Option Value} {base : Heap} {x qual : Str} {params : Arguments} {body : List Stmt} {scope : Scope} {kws : List (Str × V)} {f : Addr} {fd : FuncData} {ps : List Str} {k : Nat} {sp : Sp}
    (F : FunD K x qual params body scope [] kws f fd) (hm : mg x = some (.ref f)) (G : FnOk P w K mg base (CX P w) k f fd ps sp) (hb : ∀ (kV doc pm : Value) (an : Option Addr) (cdv ct : Value) (us : List Value), us.length = ps.length → bindArgs (PySem.W.fnOf x qual params body scope .none kV doc pm an cdv ct) ⟨us, []⟩ = pure (ps.zip us)) : Ok1x P w K mg base x k sp :=
  ⟨f, hm, F.kp, (G.raw (F.bindsN hb) .nil).imp fun vs H Q E h => by
    rw [List.append_nil]
    exact h⟩
/-- keywords alone, no default -/
theorem kbn_of {K : PySem.W.Frag} {x qual : Str} {params : Arguments} {body : List Stmt} {scope : Scope} {kws : List (Str × V)} {f : Addr} {fd : FuncData} {ps ks : List Str} (F : FunD K x qual params body scope [] kws f fd) (g : {α : Type} → List α → List α → List α) {n : Nat}
    (hrel : ∀ {vs zs : List V} {us ws : List Value}, Vals vs us → Vals zs ws → Vals (g vs zs) (g us ws))
    (h : ∀ (kV doc pm : Value) (an : Option Addr) (cdv ct : Value) (us ws : List Value), us.length = n → ws.length = ks.length → bindArgs (PySem.W.fnOf x qual params body scope .none kV doc pm an cdv ct) ⟨us, ks.zip ws⟩ = pure (ps.zip (g us ws))) : KBn K fd ps n ks (fun us ws => g us ws) (fun vs zs => g vs zs) := by
  obtain ⟨oc, od, dV, kV, doc, pm, an, cdv, ct, osl, rfl, lk, hcd, hD, hK⟩ := F.ex
  rcases hD with ⟨_, rfl⟩ | ⟨e, _⟩
  · exact ⟨fun s us ws _ l1 l2 => BindsTo.of_eq (h kV doc pm an cdv ct us ws l1 l2), fun r1 r2 => hrel r1 r2⟩
  · exact absurd rfl e
/-! ### a raising def called by keywords alone -/
def OkKx (P : Program) (w : World) (K : PySem.W.Frag) (mg : Str → Option Value) (base : Heap) (x : Str) (k : Nat) (ks : List Str) (gV : List V → List V → List V) (sp : Sp) : Prop :=
  ∃ f fd ps g, mg x = some (.ref f) ∧ PySem.W.keepIn K (.ref f) = true ∧ FnOk P w K mg base (CX P w) k f fd ps sp ∧ KBn K fd ps 0 ks g gV
def tOwnK (sp : Sp) (n : Nat) (gV : List V → List V → List V) (W : WX) (tk : TA) : TE := fun σ H Q => tk σ H fun zs H1 => zs.length = n ∧ sp (gV [] zs) H1 Q fun cls d H' => W cls d σ H'
theorem pe_ownK {X : Cx} {k : Nat} {sp : Sp} {W : WX} {x : Str} {p pos : Pos} {kws : List Keyword} {ks : List Str} {gV : List V → List V → List V} {t : TA} (G : OkKx X.prog X.w X.K X.mg X.base x k ks gV sp) (hr : Room k X.A) (hg : Gl X x) (tk : Takes X W) (hkw : PK X kws t)
    (hall : (backToKw pos (keywordEach kws X.env)).all (·.1.isSome) = true := by rfl) (hks : (backToKw pos (keywordEach kws X.env)).filterMap (·.1) = ks := by rfl) (hdb : (x == ("__debug__" : Str)) = false := by decide)
    (hpl : ((backTo pos (starEach [] X.env)).any (·.1) || (backToKw pos (keywordEach kws X.env)).any (·.1.isNone)) = false := by rfl) : PE X (.Call (.Name x p) [] kws pos) (tOwnK sp ks.length gV W t) := by
  obtain ⟨f, fd, ps, g, hm, hk, F, B⟩ := G
  refine ⟨fun pins s σ H Q I h => ?_⟩
  refine wpAny_Call_Name_kw (ld_glob I hg hm ?_ hdb)
  refine PySem.W.callWith_KW0 (h₀ := X.base) I.ok.mod.kin hk hall ?_ hpl
  refine thn (hkw.run pos pins s σ H _ I h) fun ws s2 ⟨zs, H2, I2, rz, l2, q2⟩ => ⟨I2.kIn, ?_⟩
  rw [hks]
  have r2 := B.rel (vs := []) (us := []) .nil rz
  refine wpAny_call (codeAny_mono (F.run X.A X.stack s2 H2 ⟨[], ks.zip ws⟩ (g [] ws) _ Q _ hr I2.env0 (B.to s2 [] ws I2.kIn rfl (rz.length.symm.trans l2)) r2 q2) fun r s' hq => ?_)
  cases r with
  | error e => exact tk e s' (XE.of_call I2 (fun _ _ _ z => z) hq)
  | ok fl =>
    cases fl with
    | ret u => exact I2.after hq
    | next => exact False.elim hq
    | brk => exact False.elim hq
    | cont => exact False.elim hq
theorem r_ownK {sp : Sp} {n : Nat} {gV : List V → List V → List V} {W : WX} {tk : TA} {σ : L2.St} {H : Hp} {Q : VK} (h : tk σ H fun zs H1 => zs.length = n ∧ sp (gV [] zs) H1 Q fun cls d H' => W cls d σ H') : tOwnK sp n gV W tk σ H Q := h
def rIsNo : R2 := fun x y H Q => y = .non ∧ Q (.bl (decide (x = .non))) H
def rNotNo : R2 := fun x y H Q => y = .non ∧ Q (.bl (!decide (x = .non))) H
theorem kIsN {X : Cx} : OpR X (compareOp .Is) rIsNo := op_isN
theorem kNotN {X : Cx} : OpR X (compareOp .IsNot) rNotNo := op_notN
/-! ### dicts -/
def DnB (H : Hp) (Q : VK) : Prop := ∀ p, H p = none → Q (.ref p) (upd H p (.dK []))
def DgB (x y : V) (H : Hp) (Q : VK) : Prop := ∃ a v, x = .ref a ∧ DGet H a y (some v) ∧ Q v H
def DiB (x y : V) (H : Hp) (Q : Bool → Hp → Prop) : Prop := ∃ a o, x = .ref a ∧ DGet H a y o ∧ Q o.isSome H
def DpB (x y v : V) (H : Hp) (Q : Hp → Prop) : Prop := ∃ a H4, x = .ref a ∧ DPut H a y v H4 ∧ Q H4
section
variable {K : PySem.W.Frag} {σ : L2.St} {H : Hp} {Q : VK} {D : Ends} {te ta td ty tv : TE} {tr : TA} {F : Hp} {M : Cells} {p l d : Addr} {xs : List V} {v y : V} {kvs : List (Key × V)} {k : Key} {z : Str} {n : Int} {QB : Bool → Hp → Prop}
theorem r_isN (q : Q (.bl (decide (v = .non))) H) : rIsNo v .non H Q := ⟨rfl, q⟩
theorem r_notN (q : Q (.bl (!decide (v = .non))) H) : rNotNo v .non H Q := ⟨rfl, q⟩
theorem r_dnew (h : DnB H Q) : tDNewK σ H Q := h
theorem dnew (o : Own F M H) (k : ∀ p H', F p = none → Own F ((p, .dK []) :: M) H' → Q (.ref p) H') : DnB H Q := fun p hp => k p _ (o.free hp) (o.newM hp)
theorem r_dget (h : td σ H fun x H1 => ty σ H1 fun y H2 => DgB x y H2 Q) : tDGet td ty σ H Q := h
theorem dget (h : H d = some (.dK kvs)) (hv : valV kvs (.inr z) = some v) (q : Q v H) : DgB (.ref d) (.str z) H Q := ⟨d, v, rfl, hv ▸ DGet.k (k := .inr z) h, q⟩
theorem dgetI (h : H d = some (.dK kvs)) (hv : valV kvs (.inl n) = some v) (q : Q v H) : DgB (.ref d) (.int n) H Q := ⟨d, v, rfl, hv ▸ DGet.k (k := .inl n) h, q⟩
theorem r_din (h : ty σ H fun y H1 => td σ H1 fun x H2 => DiB x y H2 fun b H3 => Q (.bl b) H3) : tDIn ty td σ H Q := by
  show ty σ H fun y H1 => td σ H1 fun x H2 => ∃ a o, x = .ref a ∧ DGet H2 a y o ∧ Q (.bl o.isSome) H2
  exact h
theorem r_dnin (h : ty σ H fun y H1 => td σ H1 fun x H2 => DiB x y H2 fun b H3 => Q (.bl (!b)) H3) : tDNotIn ty td σ H Q := by
  show ty σ H fun y H1 => td σ H1 fun x H2 => ∃ a o, x = .ref a ∧ DGet H2 a y o ∧ Q (.bl (!o.isSome)) H2
  exact h
theorem din (h : H d = some (.dK kvs)) (q : QB (valV kvs (.inr z)).isSome H) : DiB (.ref d) (.str z) H QB := ⟨d, _, rfl, DGet.k (k := .inr z) h, q⟩
theorem r_dput (h : tv σ H fun v H1 => td σ H1 fun x H2 => ty σ H2 fun y H3 => DpB x y v H3 fun H4 => D.nx σ H4) : sDPut td ty tv D σ H := h
theorem dput {R : Hp → Prop} (o : Own F M H) (i : Nat) (h : M[i]? = some (d, .dK kvs)) (hl : kvs.length < sizeLine) (k : ∀ H', Own F (M.set i (d, .dK (putK kvs (.inr z) v))) H' → R H') : DpB (.ref d) (.str z) v H R := ⟨d, _, rfl, DPut.k (k := .inr z) (o.get i h) hl, k _ (o.set i h)⟩
theorem dictP (o : Own F M H) {ps : List Addr} (hq : SqL K H l (ps.map V.ref)) (hp : Paired (fun p kv => SqT K H p [kV kv.1, kv.2]) ps kvs) (k : ∀ p H', F p = none → Own (upd F p (.dK (mergeK [] kvs))) M H' → Q (.ref p) H') : rDictP K [.ref l] H Q := ⟨l, ps, kvs, rfl, hq, hp, fun p hp => k p _ (o.free hp) (o.newF hp)⟩
theorem r_any {bs : List Bool} (h : SqL K H l (bs.map V.bl)) (q : Q (.bl (bs.any id)) H) : rAny K [.ref l] H Q := ⟨l, bs, rfl, h, q⟩
theorem r_insert (o : Own F M H) (i : Nat) (h : M[i]? = some (l, .lst xs)) {m : Nat} (hm : m ≤ 1000) (hl : xs.length < sizeLine) (k : ∀ H', Own F (M.set i (l, .lst (xs.take m ++ [y] ++ xs.drop m))) H' → Q .non H') : rInsert (.ref l) [.int (m : Int), y] H Q :=
  ⟨l, xs, (m : Int), y, rfl, rfl, o.get i h, hl, Int.natCast_nonneg m, by omega, by rw [Int.toNat_natCast]; exact k _ (o.set i h)⟩
end
end Ed

/-! ## the orders of classes, plainly -/
namespace Ed
open PySem PySem.Spec PyProof.Rows L2
abbrev Names := List Str
/-- each name once, in the order of their first standing -/
def distF (acc : Names) : Names → Names
  | [] => acc
  | x :: r => distF (if x ∈ acc then acc else acc ++ [x]) r
def dist (xs : Names) : Names := distF [] xs
def barredBy (rows : List Names) (h : Str) : Bool := rows.any fun o => decide (h ∈ o.drop 1)
def ffh (rows all : List Names) : Option Str := match rows with
  | [] => none
  | [] :: r => ffh r all
  | (h :: _) :: r => if barredBy all h = true then ffh r all else some h
def full (rows : List Names) : List Names := rows.filter fun r => !r.isEmpty
def takeH (t : Str) (r : Names) : Names := match r with
  | [] => []
  | h :: q => if h = t then q else h :: q
def stepR (rows : List Names) (t : Str) : List Names := full (rows.map (takeH t))
def heads (rows : List Names) : Names := rows.filterMap List.head?
def tot (rows : List Names) : Nat := (rows.map List.length).sum
/-- the merge: the heads of the rows that are left, or the order -/
def mergeN : Nat → List Names → Except Names Names
  | 0, _ => .ok []
  | n + 1, rows => if rows = [] then .ok [] else match ffh rows rows with
    | none => .error (dist (heads rows))
    | some t => match mergeN n (stepR rows t) with
      | .ok l => .ok (t :: l)
      | .error e => .error e
def merge (rows : List Names) : Except Names Names := mergeN (tot rows + 1) (full rows)
theorem tot_full (rows : List Names) : tot (full rows) = tot rows := by
  induction rows with
  | nil => rfl
  | cons r q ih =>
    unfold full tot at *
    cases r with
    | nil =>
      rw [List.filter_cons_of_neg (by simp), ih, List.map_cons, List.sum_cons]
      simp
    | cons a b =>
      rw [List.filter_cons_of_pos (by simp), List.map_cons, List.sum_cons, ih, List.map_cons, List.sum_cons]
theorem takeH_le (t : Str) (r : Names) : (takeH t r).length ≤ r.length := by
  cases r with
  | nil => exact Nat.le_refl _
  | cons h q =>
    show (if h = t then q else h :: q).length ≤ (h :: q).length
    by_cases e : h = t
    · rw [if_pos e]
      exact Nat.le_succ _
    · rw [if_neg e]
      exact Nat.le_refl _
theorem tot_take (t : Str) (rows : List Names) : tot (rows.map (takeH t)) ≤ tot rows := by
  induction rows with
  | nil => exact Nat.le_refl _
  | cons r q ih =>
    unfold tot at *
    rw [List.map_cons, List.map_cons, List.sum_cons, List.map_cons, List.sum_cons]
    have := takeH_le t r
    omega
theorem ffh_mem {rows all : List Names} {t : Str} (h : ffh rows all = some t) : ∃ q, (t :: q) ∈ rows ∧ barredBy all t = false := by
  induction rows with
  | nil => cases h
  | cons r rows ih =>
    cases r with
    | nil =>
      obtain ⟨q, h1, h2⟩ := ih h
      exact ⟨q, List.mem_cons_of_mem _ h1, h2⟩
    | cons a b =>
      unfold ffh at h
      split at h
      · obtain ⟨q, h1, h2⟩ := ih h
        exact ⟨q, List.mem_cons_of_mem _ h1, h2⟩
      · rename_i hb
        cases h
        exact ⟨b, List.mem_cons_self, by simpa using hb⟩
theorem tot_step {rows : List Names} {t : Str} {q : Names} (h : (t :: q) ∈ rows) : tot (stepR rows t) < tot rows := by
  unfold stepR
  rw [tot_full]
  induction rows with
  | nil => cases h
  | cons r rows ih =>
    unfold tot at *
    rw [List.map_cons, List.map_cons, List.sum_cons, List.map_cons, List.sum_cons]
    rcases List.mem_cons.mp h with h | h
    · have h1 : takeH t r = q := by
        rw [← h]
        show (if t = t then q else t :: q) = q
        rw [if_pos rfl]
      have h2 := tot_take t rows
      unfold tot at h2
      rw [h1, ← h, List.length_cons]
      omega
    · have := ih h
      have := takeH_le t r
      omega
/-- enough turns -/
theorem mergeN_more : ∀ (n m : Nat) (rows : List Names), tot rows < n → tot rows < m → mergeN n rows = mergeN m rows
  | 0, _, _, h, _ => absurd h (Nat.not_lt_zero _)
  | _, 0, _, _, h => absurd h (Nat.not_lt_zero _)
  | n + 1, m + 1, rows, h1, h2 => by
    unfold mergeN
    split
    · rfl
    · cases e : ffh rows rows with
      | none => rfl
      | some t =>
        obtain ⟨q, hq, _⟩ := ffh_mem e
        have hlt := tot_step hq
        dsimp only
        rw [mergeN_more n m (stepR rows t) (by omega) (by omega)]
/-! ### data of names -/
def dS (r : Names) : PyData := .list (r.map .str)
theorem dpAll_str {K : PySem.W.Frag} {F : Hp} : ∀ {r : Names} {vs : List V}, DpAll K F vs (r.map PyData.str) → vs = r.map V.str
  | [], _, h => dpAll_nil_inv h
  | x :: r, _, h => by
    obtain ⟨v, ws, rfl, h1, h2⟩ := dpAll_cons_inv h
    rw [dp_str_inv h1, dpAll_str h2]
    rfl
theorem dp_names {K : PySem.W.Frag} {F : Hp} {v : V} {r : Names} (h : Dp K F v (dS r)) : ∃ l, v = .ref l ∧ SqL K F l (r.map V.str) := by
  obtain ⟨l, xs, rfl, hq, ha⟩ := dp_list_inv h
  rw [dpAll_str ha] at hq
  exact ⟨l, rfl, hq⟩
theorem names_dp {K : PySem.W.Frag} {F : Hp} {l : Addr} {r : Names} (h : SqL K F l (r.map V.str)) : Dp K F (.ref l) (dS r) := .lst h (dpAll_strs r)
theorem inV_str (x : Str) (r : Names) : inV (.str x) (r.map V.str) = decide (x ∈ r) := by
  unfold inV
  induction r with
  | nil => rfl
  | cons y r ih =>
    rw [List.map_cons, List.any_cons, ih]
    by_cases e : y = x
    · subst e
      simp [eqV]
    · have e2 : eqV (.str y) (.str x) = false := by
        simp [eqV, e]
      rw [e2, Bool.false_or, decide_eq_decide]
      constructor
      · exact List.mem_cons_of_mem _
      · intro h
        rcases List.mem_cons.mp h with h | h
        · exact absurd h.symm e
        · exact h
theorem flat_strs (r : Names) : (r.map V.str).all flatV = true := by
  rw [List.all_eq_true]
  intro z hz
  obtain ⟨q, _, rfl⟩ := List.mem_map.mp hz
  rfl
/-- x in a list of names -/
theorem r_inS {K : PySem.W.Frag} {H : Hp} {Q : VK} {l : Addr} {r : Names} {x : Str} {neg : Bool} (h : SqL K H l (r.map V.str)) (q : Q (.bl (if neg then !decide (x ∈ r) else decide (x ∈ r))) H) : rIn K neg (.str x) (.ref l) H Q :=
  ⟨l, _, rfl, .inl h, rfl, flat_strs r, by rw [inV_str]; exact q⟩
/-- a while loop: Pv m, m going down -/
def WhN (tb : TS) (D : Ends) (Pv : Nat → L2.St → Hp → Prop) (m : Nat) (σ : L2.St) (b : Bool) (H1 : Hp) : Prop := if b = true then ∃ N : L2.St → Hp → Prop, (∀ σ' H', N σ' H' → ∃ m', m' < m ∧ Pv m' σ' H') ∧ tb { D with nx := N, ct := N, bk := D.nx } σ H1 else D.nx σ H1
theorem whT {tb : TS} {D : Ends} {Pv : Nat → L2.St → Hp → Prop} {m : Nat} {σ : L2.St} {b : Bool} {H1 : Hp} (hb : b = true) (h : tb { D with nx := fun σ' H' => ∃ m', m' < m ∧ Pv m' σ' H', ct := fun σ' H' => ∃ m', m' < m ∧ Pv m' σ' H', bk := D.nx } σ H1) : WhN tb D Pv m σ b H1 := by
  subst hb
  exact ⟨_, fun _ _ z => z, h⟩
theorem whF {tb : TS} {D : Ends} {Pv : Nat → L2.St → Hp → Prop} {m : Nat} {σ : L2.St} {b : Bool} {H1 : Hp} (hb : b = false) (h : D.nx σ H1) : WhN tb D Pv m σ b H1 := by
  subst hb
  exact h
theorem whileb {tc : TT} {tb : TS} {D : Ends} {σ : L2.St} {H : Hp} (Pv : Nat → L2.St → Hp → Prop) {m0 : Nat} (h0 : Pv m0 σ H) (hs : ∀ m σ H, Pv m σ H → tc σ H (WhN tb D Pv m σ)) : tWhile tc tb D σ H := ⟨Pv, ⟨m0, h0⟩, hs⟩
end Ed

namespace Ed
open PySem PySem.Spec PyProof.Rows L2
def linAll (f : Str → Except Names Names) : Names → Except Names (List Names)
  | [] => .ok []
  | x :: r => match f x with
    | .error e => .error e
    | .ok l => match linAll f r with
      | .error e => .error e
      | .ok ls => .ok (l :: ls)
/-- the order of a class: n turns deep -/
def lin (B : Str → Names) : Nat → Str → Except Names Names
  | 0, _ => .ok []
  | n + 1, x => match linAll (lin B n) (B x) with
    | .error e => .error e
    | .ok ls => match merge (ls ++ [B x]) with
      | .error e => .error e
      | .ok m => .ok (x :: m)
structure Dag (B : Str → Names) (ρ : Str → Nat) (dom : Names) : Prop where
  sub : ∀ x ∈ dom, ∀ y ∈ B x, y ∈ dom ∧ ρ y < ρ x
def linR (B : Str → Names) (ρ : Str → Nat) (x : Str) : Except Names Names := lin B (ρ x + 1) x
theorem linAll_congr {f g : Str → Except Names Names} : ∀ {xs : Names}, (∀ x ∈ xs, f x = g x) → linAll f xs = linAll g xs
  | [], _ => rfl
  | x :: r, h => by
    unfold linAll
    rw [h x List.mem_cons_self, linAll_congr fun y hy => h y (List.mem_cons_of_mem _ hy)]
theorem lin_more {B : Str → Names} {ρ : Str → Nat} {dom : Names} (D : Dag B ρ dom) : ∀ (n m : Nat) (x : Str), x ∈ dom → ρ x < n → ρ x < m → lin B n x = lin B m x
  | 0, _, _, _, h, _ => absurd h (Nat.not_lt_zero _)
  | _, 0, _, _, _, h => absurd h (Nat.not_lt_zero _)
  | n + 1, m + 1, x, hx, h1, h2 => by
    unfold lin
    rw [linAll_congr fun y hy => lin_more D n m y (D.sub x hx y hy).1 (by have := (D.sub x hx y hy).2; omega) (by have := (D.sub x hx y hy).2; omega)]
theorem linR_eq {B : Str → Names} {ρ : Str → Nat} {dom : Names} (D : Dag B ρ dom) {x : Str} (hx : x ∈ dom) : linR B ρ x = (match linAll (linR B ρ) (B x) with
    | .error e => .error e
    | .ok ls => match merge (ls ++ [B x]) with
      | .error e => .error e
      | .ok m => .ok (x :: m)) := by
  unfold linR
  rw [lin]
  rw [linAll_congr fun y hy => lin_more D (ρ x) (ρ y + 1) y (D.sub x hx y hy).1 (D.sub x hx y hy).2 (Nat.lt_succ_self _)]
/-- the first wrong one -/
theorem linAll_err {f : Str → Except Names Names} {e : Names} : ∀ {xs : Names} {i : Nat} {y : Str}, xs[i]? = some y → (∀ z ∈ xs.take i, ∃ l, f z = .ok l) → f y = .error e → linAll f xs = .error e
  | [], _, _, h, _, _ => by cases h
  | x :: r, 0, y, h, _, he => by
    cases h
    unfold linAll
    rw [he]
  | x :: r, i + 1, y, h, hp, he => by
    obtain ⟨l, hl⟩ := hp x List.mem_cons_self
    unfold linAll
    rw [hl]
    dsimp only
    rw [linAll_err (xs := r) (i := i) h (fun z hz => hp z (List.mem_cons_of_mem _ hz)) he]
theorem linAll_ok {f : Str → Except Names Names} {g : Str → Names} : ∀ {xs : Names}, (∀ z ∈ xs, f z = .ok (g z)) → linAll f xs = .ok (xs.map g)
  | [], _ => rfl
  | x :: r, h => by
    unfold linAll
    rw [h x List.mem_cons_self]
    dsimp only
    rw [linAll_ok (xs := r) fun z hz => h z (List.mem_cons_of_mem _ hz)]
    rfl
theorem linAll_inv {f : Str → Except Names Names} : ∀ {xs : Names} {ls : List Names}, linAll f xs = .ok ls → ls.length = xs.length ∧ ∀ l ∈ ls, ∃ x ∈ xs, f x = .ok l
  | [], ls, h => by
    cases h
    exact ⟨rfl, fun _ z => by cases z⟩
  | x :: r, ls, h => by
    unfold linAll at h
    cases e : f x with
    | error e1 =>
      rw [e] at h
      cases h
    | ok l =>
      rw [e] at h
      dsimp only at h
      cases e2 : linAll f r with
      | error e1 =>
        rw [e2] at h
        cases h
      | ok ls' =>
        rw [e2] at h
        cases h
        obtain ⟨h1, h2⟩ := linAll_inv (xs := r) e2
        refine ⟨congrArg Nat.succ h1, fun q hq => ?_⟩
        rcases List.mem_cons.mp hq with rfl | hq
        · exact ⟨x, List.mem_cons_self, e⟩
        · obtain ⟨y, hy, z⟩ := h2 q hq
          exact ⟨y, List.mem_cons_of_mem _ hy, z⟩
/-! a merged order has each name once, and only names of the rows -/
theorem mem_takeH {t y : Str} {r : Names} (h : y ∈ takeH t r) : y ∈ r := by
  cases r with
  | nil => cases h
  | cons a q =>
    have h : y ∈ (if a = t then q else a :: q) := h
    split at h
    · exact List.mem_cons_of_mem _ h
    · exact h
theorem mem_step {rows : List Names} {t y : Str} {r : Names} (hr : r ∈ stepR rows t) (hy : y ∈ r) : ∃ r' ∈ rows, y ∈ r' := by
  have h := (List.mem_filter.mp hr).1
  obtain ⟨r', h1, rfl⟩ := List.mem_map.mp h
  exact ⟨r', h1, mem_takeH hy⟩
theorem step_gone {rows : List Names} {t : Str} (hb : barredBy rows t = false) {r : Names} (hr : r ∈ stepR rows t) : t ∉ r := by
  have h := (List.mem_filter.mp hr).1
  obtain ⟨r', h1, rfl⟩ := List.mem_map.mp h
  have hd : ¬ t ∈ r'.drop 1 := fun z => by
    unfold barredBy at hb
    rw [List.any_eq_false] at hb
    exact hb r' h1 (decide_eq_true z)
  cases r' with
  | nil => exact fun z => by cases z
  | cons a q =>
    show t ∉ (if a = t then q else a :: q)
    split
    · exact hd
    · rename_i hne
      intro z
      rcases List.mem_cons.mp z with z | z
      · exact hne z.symm
      · exact hd z
theorem mergeN_mem : ∀ {n : Nat} {rows : List Names} {l : Names}, mergeN n rows = .ok l → l.Nodup ∧ ∀ y ∈ l, ∃ r ∈ rows, y ∈ r
  | 0, rows, l, h => by
    cases h
    exact ⟨List.nodup_nil, fun _ z => by cases z⟩
  | n + 1, rows, l, h => by
    unfold mergeN at h
    split at h
    · cases h
      exact ⟨List.nodup_nil, fun _ z => by cases z⟩
    · cases e : ffh rows rows with
      | none =>
        rw [e] at h
        cases h
      | some t =>
        rw [e] at h
        dsimp only at h
        cases e2 : mergeN n (stepR rows t) with
        | error x =>
          rw [e2] at h
          cases h
        | ok l' =>
          rw [e2] at h
          cases h
          obtain ⟨q, hq, hb⟩ := ffh_mem e
          obtain ⟨h1, h2⟩ := mergeN_mem e2
          refine ⟨List.nodup_cons.mpr ⟨fun z => ?_, h1⟩, fun y hy => ?_⟩
          · obtain ⟨r, hr, z⟩ := h2 t z
            exact step_gone hb hr z
          · rcases List.mem_cons.mp hy with rfl | hy
            · exact ⟨_, hq, List.mem_cons_self⟩
            · obtain ⟨r, hr, z⟩ := h2 y hy
              exact mem_step hr z
theorem merge_mem {rows : List Names} {l : Names} (h : merge rows = .ok l) : l.Nodup ∧ ∀ y ∈ l, ∃ r ∈ rows, y ∈ r := by
  obtain ⟨h1, h2⟩ := mergeN_mem h
  refine ⟨h1, fun y hy => ?_⟩
  obtain ⟨r, hr, z⟩ := h2 y hy
  exact ⟨r, (List.mem_filter.mp hr).1, z⟩
theorem nodup_le {α : Type} [DecidableEq α] : ∀ {l m : List α}, l.Nodup → (∀ x ∈ l, x ∈ m) → l.length ≤ m.length
  | [], _, _, _ => Nat.zero_le _
  | a :: r, m, nd, h => by
    have nd := List.nodup_cons.mp nd
    have hm := h a List.mem_cons_self
    have e := List.length_erase_of_mem hm
    have h2 : r.length ≤ (m.erase a).length := nodup_le nd.2 fun x hx => (List.mem_erase_of_ne (fun z : x = a => nd.1 (by rw [← z]; exact hx))).mpr (h x (List.mem_cons_of_mem _ hx))
    have : 0 < m.length := List.length_pos_of_mem hm
    rw [List.length_cons]
    omega
theorem linR_mem {B : Str → Names} {ρ : Str → Nat} {dom : Names} (D : Dag B ρ dom) : ∀ (n : Nat) {x : Str} {l : Names}, x ∈ dom → ρ x < n → linR B ρ x = .ok l → l.Nodup ∧ ∀ y ∈ l, y ∈ dom ∧ ρ y ≤ ρ x
  | 0, _, _, _, h, _ => absurd h (Nat.not_lt_zero _)
  | n + 1, x, l, hx, hn, h => by
    rw [linR_eq D hx] at h
    cases e : linAll (linR B ρ) (B x) with
    | error z =>
      rw [e] at h
      cases h
    | ok ls =>
      rw [e] at h
      dsimp only at h
      cases e2 : merge (ls ++ [B x]) with
      | error z =>
        rw [e2] at h
        cases h
      | ok m =>
        rw [e2] at h
        cases h
        obtain ⟨h1, h2⟩ := merge_mem e2
        have key : ∀ y ∈ m, y ∈ dom ∧ ρ y < ρ x := fun y hy => by
          obtain ⟨r, hr, z⟩ := h2 y hy
          rcases List.mem_append.mp hr with hr | hr
          · obtain ⟨b, hb, hl⟩ := (linAll_inv e).2 r hr
            obtain ⟨hbd, hbr⟩ := D.sub x hx b hb
            obtain ⟨_, h4⟩ := linR_mem D n hbd (by omega) hl
            obtain ⟨h5, h6⟩ := h4 y z
            exact ⟨h5, by omega⟩
          · rw [List.mem_singleton.mp hr] at z
            exact D.sub x hx y z
        refine ⟨List.nodup_cons.mpr ⟨fun z => ?_, h1⟩, fun y hy => ?_⟩
        · have := (key x z).2
          omega
        · rcases List.mem_cons.mp hy with rfl | hy
          · exact ⟨hx, Nat.le_refl _⟩
          · obtain ⟨h3, h4⟩ := key y hy
            exact ⟨h3, by omega⟩
theorem linR_len {B : Str → Names} {ρ : Str → Nat} {dom : Names} (D : Dag B ρ dom) {x : Str} {l : Names} (hx : x ∈ dom) (h : linR B ρ x = .ok l) : l.length ≤ dom.length := by
  obtain ⟨h1, h2⟩ := linR_mem D (ρ x + 1) hx (Nat.lt_succ_self _) h
  exact nodup_le h1 fun y hy => (h2 y hy).1
end Ed

/-! ## orders by other names -/
namespace Ed
open PySem PySem.Spec PyProof.Rows L2
def mapE (f : Str → Str) : Except Names Names → Except Names Names
  | .ok l => .ok (l.map f)
  | .error e => .error (e.map f)
/-- f tells the names of dom apart -/
def InjOn (f : Str → Str) (dom : Names) : Prop := ∀ x ∈ dom, ∀ y ∈ dom, f x = f y → x = y
def InRows (dom : Names) (rows : List Names) : Prop := ∀ r ∈ rows, ∀ x ∈ r, x ∈ dom
section
variable {f : Str → Str} {dom : Names}
theorem mem_mapI (hf : InjOn f dom) {x : Str} {r : Names} (hx : x ∈ dom) (hr : ∀ y ∈ r, y ∈ dom) : f x ∈ r.map f ↔ x ∈ r := by
  constructor
  · intro h
    obtain ⟨y, hy, e⟩ := List.mem_map.mp h
    rw [← hf y (hr y hy) x hx e]
    exact hy
  · exact fun h => List.mem_map.mpr ⟨x, h, rfl⟩
theorem barred_map (hf : InjOn f dom) {x : Str} (hx : x ∈ dom) : ∀ {rows : List Names}, InRows dom rows → barredBy (rows.map (List.map f)) (f x) = barredBy rows x
  | [], _ => rfl
  | r :: q, h => by
    have ih := barred_map hf hx (rows := q) fun r hr => h r (List.mem_cons_of_mem _ hr)
    unfold barredBy at *
    rw [List.map_cons, List.any_cons, List.any_cons, ih]
    congr 1
    rw [← List.map_drop, decide_eq_decide]
    exact mem_mapI hf hx fun y hy => h r List.mem_cons_self y (List.mem_of_mem_drop hy)
theorem ffh_map (hf : InjOn f dom) {all : List Names} (ha : InRows dom all) : ∀ {rows : List Names}, InRows dom rows → ffh (rows.map (List.map f)) (all.map (List.map f)) = (ffh rows all).map f
  | [], _ => rfl
  | [] :: q, h => ffh_map hf ha (rows := q) fun r hr => h r (List.mem_cons_of_mem _ hr)
  | (a :: b) :: q, h => by
    have ih := ffh_map hf ha (rows := q) fun r hr => h r (List.mem_cons_of_mem _ hr)
    have hb := barred_map hf (h (a :: b) List.mem_cons_self a List.mem_cons_self) ha
    show (if barredBy (all.map (List.map f)) (f a) = true then ffh (q.map (List.map f)) (all.map (List.map f)) else some (f a)) = (if barredBy all a = true then ffh q all else some a).map f
    rw [hb, ih]
    split <;> rfl
theorem takeH_map (hf : InjOn f dom) {t : Str} (ht : t ∈ dom) {r : Names} (hr : ∀ x ∈ r, x ∈ dom) : takeH (f t) (r.map f) = (takeH t r).map f := by
  cases r with
  | nil => rfl
  | cons a b =>
    show (if f a = f t then b.map f else f a :: b.map f) = (if a = t then b else a :: b).map f
    by_cases e : a = t
    · rw [if_pos e, if_pos (congrArg f e)]
    · rw [if_neg e, if_neg fun z => e (hf a (hr a List.mem_cons_self) t ht z)]
      rfl
theorem full_map : ∀ (rows : List Names), full (rows.map (List.map f)) = (full rows).map (List.map f)
  | [] => rfl
  | [] :: q => full_map q
  | (a :: b) :: q => by
    show (f a :: b.map f) :: full (q.map (List.map f)) = ((a :: b) :: full q).map (List.map f)
    rw [full_map q]
    rfl
theorem step_map (hf : InjOn f dom) {t : Str} (ht : t ∈ dom) {rows : List Names} (h : InRows dom rows) : stepR (rows.map (List.map f)) (f t) = (stepR rows t).map (List.map f) := by
  unfold stepR
  rw [← full_map, List.map_map, List.map_map]
  congr 1
  apply List.map_congr_left
  intro r hr
  exact takeH_map hf ht (h r hr)
theorem heads_map : ∀ (rows : List Names), heads (rows.map (List.map f)) = (heads rows).map f
  | [] => rfl
  | [] :: q => heads_map q
  | (a :: b) :: q => congrArg _ (heads_map q)
theorem distF_map (hf : InjOn f dom) : ∀ {xs acc : Names}, (∀ x ∈ xs, x ∈ dom) → (∀ x ∈ acc, x ∈ dom) → distF (acc.map f) (xs.map f) = (distF acc xs).map f
  | [], _, _, _ => rfl
  | x :: r, acc, h, ha => by
    have hx := h x List.mem_cons_self
    have e : (if f x ∈ acc.map f then acc.map f else acc.map f ++ [f x]) = (if x ∈ acc then acc else acc ++ [x]).map f := by
      by_cases hm : x ∈ acc
      · rw [if_pos hm, if_pos ((mem_mapI hf hx ha).mpr hm)]
      · rw [if_neg hm, if_neg fun z => hm ((mem_mapI hf hx ha).mp z), List.map_append]
        rfl
    show distF (if f x ∈ acc.map f then acc.map f else acc.map f ++ [f x]) (r.map f) = (distF (if x ∈ acc then acc else acc ++ [x]) r).map f
    rw [e]
    refine distF_map hf (fun y hy => h y (List.mem_cons_of_mem _ hy)) fun y hy => ?_
    split at hy
    · exact ha y hy
    · rcases List.mem_append.mp hy with hy | hy
      · exact ha y hy
      · rw [List.mem_singleton.mp hy]
        exact hx
theorem heads_in {rows : List Names} (h : InRows dom rows) : ∀ x ∈ heads rows, x ∈ dom := fun x hx => by
  obtain ⟨r, hr, e⟩ := List.mem_filterMap.mp hx
  cases r with
  | nil => cases e
  | cons a b =>
    cases e
    exact h _ hr _ List.mem_cons_self
theorem step_in {rows : List Names} {t : Str} (h : InRows dom rows) : InRows dom (stepR rows t) := fun r hr x hx => by
  obtain ⟨r', h1, h2⟩ := mem_step hr hx
  exact h r' h1 x h2
theorem tot_map (rows : List Names) : tot (rows.map (List.map f)) = tot rows := by
  unfold tot
  rw [List.map_map]
  congr 1
  apply List.map_congr_left
  intro r _
  exact List.length_map _
theorem mergeN_map (hf : InjOn f dom) : ∀ (n : Nat) {rows : List Names}, InRows dom rows → mergeN n (rows.map (List.map f)) = mapE f (mergeN n rows)
  | 0, _, _ => rfl
  | n + 1, rows, h => by
    unfold mergeN
    by_cases e : rows = []
    · subst e
      rfl
    · rw [if_neg e, if_neg fun z => e (List.map_eq_nil_iff.mp z), ffh_map hf h h]
      cases e2 : ffh rows rows with
      | none =>
        show Except.error (dist (heads (rows.map (List.map f)))) = Except.error ((dist (heads rows)).map f)
        rw [heads_map]
        congr 1
        exact distF_map (acc := []) hf (heads_in h) fun x z => by cases z
      | some t =>
        obtain ⟨q, hq, _⟩ := ffh_mem e2
        have ht := h _ hq _ List.mem_cons_self
        show (match mergeN n (stepR (rows.map (List.map f)) (f t)) with
          | .ok l => Except.ok (f t :: l)
          | .error e => .error e) = mapE f (match mergeN n (stepR rows t) with
          | .ok l => Except.ok (t :: l)
          | .error e => .error e)
        rw [step_map hf ht h, mergeN_map hf n (step_in h)]
        cases mergeN n (stepR rows t) <;> rfl
theorem merge_map (hf : InjOn f dom) {rows : List Names} (h : InRows dom rows) : merge (rows.map (List.map f)) = mapE f (merge rows) := by
  unfold merge
  rw [tot_map, full_map]
  exact mergeN_map hf _ fun r hr => h r (List.mem_filter.mp hr).1
/-! errors name names of the rows -/
theorem distF_in : ∀ {xs acc : Names}, (∀ x ∈ xs, x ∈ dom) → (∀ x ∈ acc, x ∈ dom) → ∀ x ∈ distF acc xs, x ∈ dom
  | [], _, _, ha, x, hx => ha x hx
  | y :: r, acc, h, ha, x, hx => by
    refine distF_in (xs := r) (fun z hz => h z (List.mem_cons_of_mem _ hz)) (fun z hz => ?_) x hx
    split at hz
    · exact ha z hz
    · rcases List.mem_append.mp hz with hz | hz
      · exact ha z hz
      · rw [List.mem_singleton.mp hz]
        exact h y List.mem_cons_self
theorem mergeN_err : ∀ {n : Nat} {rows : List Names} {e : Names}, InRows dom rows → mergeN n rows = .error e → ∀ x ∈ e, x ∈ dom
  | 0, _, _, _, h => by cases h
  | n + 1, rows, e, hi, h => by
    unfold mergeN at h
    split at h
    · cases h
    · cases e1 : ffh rows rows with
      | none =>
        rw [e1] at h
        cases h
        exact distF_in (heads_in hi) fun x z => by cases z
      | some t =>
        rw [e1] at h
        dsimp only at h
        cases e2 : mergeN n (stepR rows t) with
        | ok l =>
          rw [e2] at h
          cases h
        | error e' =>
          rw [e2] at h
          cases h
          exact mergeN_err (step_in hi) e2
theorem merge_err {rows : List Names} {e : Names} (hi : InRows dom rows) (h : merge rows = .error e) : ∀ x ∈ e, x ∈ dom := mergeN_err (fun r hr => hi r (List.mem_filter.mp hr).1) h
theorem linAll_errI {g : Str → Except Names Names} {e : Names} : ∀ {xs : Names}, linAll g xs = .error e → ∃ x ∈ xs, g x = .error e
  | [], h => by cases h
  | x :: r, h => by
    unfold linAll at h
    cases e1 : g x with
    | error z =>
      rw [e1] at h
      cases h
      exact ⟨x, List.mem_cons_self, e1⟩
    | ok l =>
      rw [e1] at h
      dsimp only at h
      cases e2 : linAll g r with
      | ok ls =>
        rw [e2] at h
        cases h
      | error z =>
        rw [e2] at h
        cases h
        obtain ⟨y, hy, q⟩ := linAll_errI e2
        exact ⟨y, List.mem_cons_of_mem _ hy, q⟩
end
section
variable {B : Str → Names} {ρ : Str → Nat} {dom : Names}
theorem rows_in (D : Dag B ρ dom) {x : Str} (hx : x ∈ dom) {ls : List Names} (h : linAll (linR B ρ) (B x) = .ok ls) : InRows dom (ls ++ [B x]) := fun r hr y hy => by
  rcases List.mem_append.mp hr with hr | hr
  · obtain ⟨b, hb, hl⟩ := (linAll_inv h).2 r hr
    exact ((linR_mem D (ρ b + 1) (D.sub x hx b hb).1 (Nat.lt_succ_self _) hl).2 y hy).1
  · rw [List.mem_singleton.mp hr] at hy
    exact (D.sub x hx y hy).1
theorem linR_err (D : Dag B ρ dom) : ∀ (n : Nat) {x : Str} {e : Names}, x ∈ dom → ρ x < n → linR B ρ x = .error e → ∀ y ∈ e, y ∈ dom
  | 0, _, _, _, h, _ => absurd h (Nat.not_lt_zero _)
  | n + 1, x, e, hx, hn, h => by
    rw [linR_eq D hx] at h
    cases e1 : linAll (linR B ρ) (B x) with
    | error z =>
      rw [e1] at h
      cases h
      obtain ⟨b, hb, q⟩ := linAll_errI e1
      exact linR_err D n (D.sub x hx b hb).1 (by have := (D.sub x hx b hb).2; omega) q
    | ok ls =>
      rw [e1] at h
      dsimp only at h
      cases e2 : merge (ls ++ [B x]) with
      | ok m =>
        rw [e2] at h
        cases h
      | error z =>
        rw [e2] at h
        cases h
        exact merge_err (rows_in D hx e1) e2
/-- what is told names names of dom -/
theorem told_in (D : Dag B ρ dom) {x : Str} (hx : x ∈ dom) : (∀ l, linR B ρ x = .ok l → ∀ y ∈ l, y ∈ dom) ∧ ∀ e, linR B ρ x = .error e → ∀ y ∈ e, y ∈ dom :=
  ⟨fun l h y hy => ((linR_mem D (ρ x + 1) hx (Nat.lt_succ_self _) h).2 y hy).1, fun e h => linR_err D (ρ x + 1) hx (Nat.lt_succ_self _) h⟩
theorem linAll_map {g g' : Str → Except Names Names} {f : Str → Str} : ∀ {xs : Names}, (∀ x ∈ xs, g' (f x) = mapE f (g x)) → linAll g' (xs.map f) = (match linAll g xs with
    | .ok ls => .ok (ls.map (List.map f))
    | .error e => .error (e.map f))
  | [], _ => rfl
  | x :: r, h => by
    have ih := linAll_map (xs := r) fun y hy => h y (List.mem_cons_of_mem _ hy)
    rw [List.map_cons]
    unfold linAll
    rw [h x List.mem_cons_self, ih]
    cases g x with
    | error e => rfl
    | ok l =>
      show (match (match linAll g r with
          | .ok ls => Except.ok (ls.map (List.map f))
          | .error e => .error (e.map f)) with
        | .error e => Except.error e
        | .ok ls => .ok (l.map f :: ls)) = _
      cases linAll g r <;> rfl
/-- a class by another name -/
theorem linR_map {B' : Str → Names} {ρ' : Str → Nat} {dom' : Names} {f : Str → Str} (D : Dag B ρ dom) (D' : Dag B' ρ' dom') (hf : InjOn f dom) (hd : ∀ x ∈ dom, f x ∈ dom' ∧ B' (f x) = (B x).map f) : ∀ (n : Nat) {x : Str}, x ∈ dom → ρ x < n → linR B' ρ' (f x) = mapE f (linR B ρ x)
  | 0, _, _, h => absurd h (Nat.not_lt_zero _)
  | n + 1, x, hx, hn => by
    rw [linR_eq D hx, linR_eq D' (hd x hx).1, (hd x hx).2]
    rw [linAll_map (g := linR B ρ) fun y hy => linR_map D D' hf hd n (D.sub x hx y hy).1 (by have := (D.sub x hx y hy).2; omega)]
    cases e1 : linAll (linR B ρ) (B x) with
    | error z => rfl
    | ok ls =>
      dsimp only
      have e2 : ls.map (List.map f) ++ [(B x).map f] = (ls ++ [B x]).map (List.map f) := by rw [List.map_append]; rfl
      rw [e2, merge_map hf (rows_in D hx e1)]
      cases merge (ls ++ [B x]) <;> rfl
end
end Ed

/-! heads that are told: each once -/
namespace Ed
open PySem PySem.Spec PyProof.Rows L2
theorem distF_nd : ∀ {xs acc : Names}, acc.Nodup → (distF acc xs).Nodup
  | [], acc, h => h
  | x :: r, acc, h => by
    unfold distF
    split
    · exact distF_nd h
    · rename_i hx
      refine distF_nd (List.nodup_append.mpr ⟨h, List.nodup_cons.mpr ⟨fun z => (by cases z), List.nodup_nil⟩, ?_⟩)
      intro a ha b hb e
      rw [List.mem_singleton.mp hb] at e
      exact hx (e ▸ ha)
theorem mergeN_nd : ∀ {n : Nat} {rows : List Names} {e : Names}, mergeN n rows = .error e → e.Nodup
  | 0, _, _, h => by cases h
  | n + 1, rows, e, h => by
    unfold mergeN at h
    split at h
    · cases h
    · split at h
      · cases h
        exact distF_nd List.nodup_nil
      · split at h
        · cases h
        · rename_i z hz
          cases h
          exact mergeN_nd hz
theorem linR_nd {B : Str → Names} {ρ : Str → Nat} {dom : Names} (D : Dag B ρ dom) : ∀ (n : Nat) {x : Str} {e : Names}, x ∈ dom → ρ x < n → linR B ρ x = .error e → e.Nodup
  | 0, _, _, _, h, _ => absurd h (Nat.not_lt_zero _)
  | n + 1, x, e, hx, hn, h => by
    rw [linR_eq D hx] at h
    cases q : linAll (linR B ρ) (B x) with
    | error z =>
      rw [q] at h
      cases h
      obtain ⟨y, hy, h2⟩ := linAll_errI q
      have := D.sub x hx y hy
      exact linR_nd D n this.1 (by omega) h2
    | ok ls =>
      rw [q] at h
      dsimp only at h
      split at h
      · rename_i z hz
        cases h
        exact mergeN_nd hz
      · cases h
theorem told_len {B : Str → Names} {ρ : Str → Nat} {dom : Names} (D : Dag B ρ dom) {x : Str} (hx : x ∈ dom) : (∀ l, linR B ρ x = .ok l → l.length ≤ dom.length) ∧ ∀ e, linR B ρ x = .error e → e.length ≤ dom.length :=
  ⟨fun l h => linR_len D hx h, fun e h => nodup_le (linR_nd D (ρ x + 1) hx (Nat.lt_succ_self _) h) ((told_in D hx).2 e h)⟩
def resV (r : Except Names Names) : Bool × Names := match r with
  | .ok l => (true, l)
  | .error e => (false, e)
end Ed

/-! ## Pu: programs over values. D: a value that is kept as it is; N: a value of which some containers are owned; an environment of slots; what a piece of text means over it. -/
namespace Pu
open PySem PySem.Spec PyProof.Rows L2 Ed
inductive D where
  | non
  | bl (b : Bool)
  | int (i : Int)
  | str (s : Str)
  | lst (xs : List D)
  | tup (xs : List D)
  | dic (kvs : List (Key × D))
  | obj (C : Str) (fs : List (Str × D))
  | exc (a : Addr) (cls : Value) (d : Option Addr) (C : Str) (fs : List (Str × D))
  | raw (v : V)
mutual
inductive Rp (K : PySem.W.Frag) (H : Hp) : V → D → Prop
  | non : Rp K H .non .non
  | bl (b : Bool) : Rp K H (.bl b) (.bl b)
  | int (i : Int) : Rp K H (.int i) (.int i)
  | str (x : Str) : Rp K H (.str x) (.str x)
  | lst {a : Addr} {xs : List V} {ds : List D} : H a = some (.lst xs) → RpAll K H xs ds → Rp K H (.ref a) (.lst ds)
  | tup {a : Addr} {xs : List V} {ds : List D} : SqT K H a xs → RpAll K H xs ds → Rp K H (.ref a) (.tup ds)
  | dic {a : Addr} {kvs : List (Key × V)} {ds : List (Key × D)} : H a = some (.dK kvs) → RpDic K H kvs ds → Rp K H (.ref a) (.dic ds)
  | obj {a dx : Addr} {C : Str} {fvs : List (Str × V)} {fs : List (Str × D)} : H a = some (.ins (He.ga K C) dx fvs) → RpFs K H fvs fs → Rp K H (.ref a) (.obj C fs)
  | exc {a d : Addr} {C : Str} {fvs : List (Str × V)} {fs : List (Str × D)} : H d = some (.xd fvs) → RpFs K H fvs fs → Rp K H (.ref a) (.exc a (.ref (He.ga K C)) (some d) C fs)
  | raw (v : V) : Rp K H v (.raw v)
inductive RpAll (K : PySem.W.Frag) (H : Hp) : List V → List D → Prop
  | nil : RpAll K H [] []
  | cons {v : V} {vs : List V} {d : D} {ds : List D} : Rp K H v d → RpAll K H vs ds → RpAll K H (v :: vs) (d :: ds)
inductive RpDic (K : PySem.W.Frag) (H : Hp) : List (Key × V) → List (Key × D) → Prop
  | nil : RpDic K H [] []
  | cons {k : Key} {v : V} {vs : List (Key × V)} {d : D} {ds : List (Key × D)} : Rp K H v d → RpDic K H vs ds → RpDic K H ((k, v) :: vs) ((k, d) :: ds)
inductive RpFs (K : PySem.W.Frag) (H : Hp) : List (Str × V) → List (Str × D) → Prop
  | nil : RpFs K H [] []
  | cons {k : Str} {v : V} {vs : List (Str × V)} {d : D} {ds : List (Str × D)} : Rp K H v d → RpFs K H vs ds → RpFs K H ((k, v) :: vs) ((k, d) :: ds)
end
mutual
theorem Rp.mono {K : PySem.W.Frag} {H H' : Hp} (s : Same H H') : ∀ {v : V} {d : D}, Rp K H v d → Rp K H' v d
  | _, _, .non => .non
  | _, _, .bl b => .bl b
  | _, _, .int i => .int i
  | _, _, .str x => .str x
  | _, _, .lst h a => .lst (s _ _ h) (RpAll.mono s a)
  | _, _, .tup h a => .tup (Same.tup s h) (RpAll.mono s a)
  | _, _, .dic h a => .dic (s _ _ h) (RpDic.mono s a)
  | _, _, .obj h a => .obj (s _ _ h) (RpFs.mono s a)
  | _, _, .exc h a => .exc (s _ _ h) (RpFs.mono s a)
  | _, _, .raw v => .raw v
theorem RpAll.mono {K : PySem.W.Frag} {H H' : Hp} (s : Same H H') : ∀ {v : List V} {d : List D}, RpAll K H v d → RpAll K H' v d
  | _, _, .nil => .nil
  | _, _, .cons h t => .cons (Rp.mono s h) (RpAll.mono s t)
theorem RpDic.mono {K : PySem.W.Frag} {H H' : Hp} (s : Same H H') : ∀ {v : List (Key × V)} {d : List (Key × D)}, RpDic K H v d → RpDic K H' v d
  | _, _, .nil => .nil
  | _, _, .cons h t => .cons (Rp.mono s h) (RpDic.mono s t)
theorem RpFs.mono {K : PySem.W.Frag} {H H' : Hp} (s : Same H H') : ∀ {v : List (Str × V)} {d : List (Str × D)}, RpFs K H v d → RpFs K H' v d
  | _, _, .nil => .nil
  | _, _, .cons h t => .cons (Rp.mono s h) (RpFs.mono s t)
end
/-! ### owned containers -/
inductive N where
  | f (d : D)
  | lst (a : Addr) (xs : List N)
  | tup (a : Addr) (xs : List N)
  | dic (a : Addr) (kvs : List (Key × N))
  | obj (a dx : Addr) (C : Str) (fs : List (Str × N))
mutual
def N.toD : N → D
  | .f d => d
  | .lst _ xs => .lst (toDs xs)
  | .tup _ xs => .tup (toDs xs)
  | .dic _ kvs => .dic (toDk kvs)
  | .obj _ _ C fs => .obj C (toDf fs)
def toDs : List N → List D
  | [] => []
  | n :: ns => n.toD :: toDs ns
def toDk : List (Key × N) → List (Key × D)
  | [] => []
  | (k, n) :: ns => (k, n.toD) :: toDk ns
def toDf : List (Str × N) → List (Str × D)
  | [] => []
  | (k, n) :: ns => (k, n.toD) :: toDf ns
end
mutual
inductive Ow (K : PySem.W.Frag) (F : Hp) : V → N → Cells → Prop
  | f {v : V} {d : D} : Rp K F v d → Ow K F v (.f d) []
  | lst {a : Addr} {vs : List V} {ns : List N} {S : Cells} : OwAll K F vs ns S → Ow K F (.ref a) (.lst a ns) ((a, .lst vs) :: S)
  | tup {a : Addr} {vs : List V} {ns : List N} {S : Cells} : F a = some (.tup vs) → OwAll K F vs ns S → Ow K F (.ref a) (.tup a ns) S
  | dic {a : Addr} {kvs : List (Key × V)} {ns : List (Key × N)} {S : Cells} : OwDic K F kvs ns S → Ow K F (.ref a) (.dic a ns) ((a, .dK kvs) :: S)
  | obj {a dx : Addr} {C : Str} {fvs : List (Str × V)} {ns : List (Str × N)} {S : Cells} : OwFs K F fvs ns S → Ow K F (.ref a) (.obj a dx C ns) ((a, .ins (He.ga K C) dx fvs) :: S)
inductive OwAll (K : PySem.W.Frag) (F : Hp) : List V → List N → Cells → Prop
  | nil : OwAll K F [] [] []
  | cons {v : V} {vs : List V} {n : N} {ns : List N} {S T : Cells} : Ow K F v n S → OwAll K F vs ns T → OwAll K F (v :: vs) (n :: ns) (S ++ T)
inductive OwDic (K : PySem.W.Frag) (F : Hp) : List (Key × V) → List (Key × N) → Cells → Prop
  | nil : OwDic K F [] [] []
  | cons {k : Key} {v : V} {vs : List (Key × V)} {n : N} {ns : List (Key × N)} {S T : Cells} : Ow K F v n S → OwDic K F vs ns T → OwDic K F ((k, v) :: vs) ((k, n) :: ns) (S ++ T)
inductive OwFs (K : PySem.W.Frag) (F : Hp) : List (Str × V) → List (Str × N) → Cells → Prop
  | nil : OwFs K F [] [] []
  | cons {k : Str} {v : V} {vs : List (Str × V)} {n : N} {ns : List (Str × N)} {S T : Cells} : Ow K F v n S → OwFs K F vs ns T → OwFs K F ((k, v) :: vs) ((k, n) :: ns) (S ++ T)
end
mutual
theorem Ow.mono {K : PySem.W.Frag} {H H' : Hp} (s : Same H H') : ∀ {v : V} {d : N} {S : Cells}, Ow K H v d S → Ow K H' v d S
  | _, _, _, .f h => .f (h.mono s)
  | _, _, _, .lst a => .lst (OwAll.mono s a)
  | _, _, _, .tup h a => .tup (s _ _ h) (OwAll.mono s a)
  | _, _, _, .dic a => .dic (OwDic.mono s a)
  | _, _, _, .obj a => .obj (OwFs.mono s a)
theorem OwAll.mono {K : PySem.W.Frag} {H H' : Hp} (s : Same H H') : ∀ {v : List V} {d : List N} {S : Cells}, OwAll K H v d S → OwAll K H' v d S
  | _, _, _, .nil => .nil
  | _, _, _, .cons h t => .cons (Ow.mono s h) (OwAll.mono s t)
theorem OwDic.mono {K : PySem.W.Frag} {H H' : Hp} (s : Same H H') : ∀ {v : List (Key × V)} {d : List (Key × N)} {S : Cells}, OwDic K H v d S → OwDic K H' v d S
  | _, _, _, .nil => .nil
  | _, _, _, .cons h t => .cons (Ow.mono s h) (OwDic.mono s t)
theorem OwFs.mono {K : PySem.W.Frag} {H H' : Hp} (s : Same H H') : ∀ {v : List (Str × V)} {d : List (Str × N)} {S : Cells}, OwFs K H v d S → OwFs K H' v d S
  | _, _, _, .nil => .nil
  | _, _, _, .cons h t => .cons (Ow.mono s h) (OwFs.mono s t)
end
/-- what stands in a heap that has the cells -/
def Has (H : Hp) (S : Cells) : Prop := ∀ c ∈ S, H c.1 = some c.2
theorem Has.left {H : Hp} {S T : Cells} (h : Has H (S ++ T)) : Has H S := fun c hc => h c (List.mem_append_left _ hc)
theorem Has.right {H : Hp} {S T : Cells} (h : Has H (S ++ T)) : Has H T := fun c hc => h c (List.mem_append_right _ hc)
mutual
theorem Ow.rp {K : PySem.W.Frag} {F H : Hp} (s : Same F H) : ∀ {v : V} {d : N} {S : Cells}, Ow K F v d S → Has H S → Rp K H v d.toD
  | _, _, _, .f h, _ => h.mono s
  | _, _, _, .lst a, c => .lst (c _ List.mem_cons_self) (OwAll.rp s a fun x hx => c x (List.mem_cons_of_mem _ hx))
  | _, _, _, .tup h a, c => .tup (SqT.of (s _ _ h)) (OwAll.rp s a c)
  | _, _, _, .dic a, c => .dic (c _ List.mem_cons_self) (OwDic.rp s a fun x hx => c x (List.mem_cons_of_mem _ hx))
  | _, _, _, .obj a, c => .obj (c _ List.mem_cons_self) (OwFs.rp s a fun x hx => c x (List.mem_cons_of_mem _ hx))
theorem OwAll.rp {K : PySem.W.Frag} {F H : Hp} (s : Same F H) : ∀ {v : List V} {d : List N} {S : Cells}, OwAll K F v d S → Has H S → RpAll K H v (toDs d)
  | _, _, _, .nil, _ => .nil
  | _, _, _, .cons h t, c => .cons (Ow.rp s h c.left) (OwAll.rp s t c.right)
theorem OwDic.rp {K : PySem.W.Frag} {F H : Hp} (s : Same F H) : ∀ {v : List (Key × V)} {d : List (Key × N)} {S : Cells}, OwDic K F v d S → Has H S → RpDic K H v (toDk d)
  | _, _, _, .nil, _ => .nil
  | _, _, _, .cons h t, c => .cons (Ow.rp s h c.left) (OwDic.rp s t c.right)
theorem OwFs.rp {K : PySem.W.Frag} {F H : Hp} (s : Same F H) : ∀ {v : List (Str × V)} {d : List (Str × N)} {S : Cells}, OwFs K F v d S → Has H S → RpFs K H v (toDf d)
  | _, _, _, .nil, _ => .nil
  | _, _, _, .cons h t, c => .cons (Ow.rp s h c.left) (OwFs.rp s t c.right)
end
/-- all cells S are kept from now on -/
def addC (F : Hp) : Cells → Hp
  | [] => F
  | c :: S => addC (upd F c.1 c.2) S
theorem fz_all {M : Cells} {H : Hp} : ∀ {S : Cells} {F : Hp}, Own F (S ++ M) H → Same F (addC F S) ∧ Own (addC F S) M H ∧ Has (addC F S) S
  | [], F, o => ⟨Same.refl _, o, fun _ h => (nomatch h)⟩
  | (p, x) :: S, F, o => by
    have n : F p = none := o.ap (p, x) List.mem_cons_self
    have o1 : Own (upd F p x) (S ++ M) H := o.fz 0
    obtain ⟨s2, o2, h2⟩ := fz_all o1
    refine ⟨(same_upd n).trans s2, o2, fun c hc => ?_⟩
    rcases List.mem_cons.mp hc with rfl | hc
    · exact s2 _ _ upd_same
    · exact h2 c hc
theorem ow_fz {K : PySem.W.Frag} {M S : Cells} {H F : Hp} {v : V} {n : N} (o : Own F (S ++ M) H) (h : Ow K F v n S) : ∃ F', Same F F' ∧ Own F' M H ∧ Rp K F' v n.toD := by
  obtain ⟨s, o2, c⟩ := fz_all o
  exact ⟨_, s, o2, h.rp s c⟩
/-! ### slots -/
structure Cu where
  R : Hp → Cells → Prop
  mono : ∀ {F F' : Hp} {S : Cells}, Same F F' → R F S → R F' S
inductive Sl where
  | fz (d : D)
  | ow (n : N)
  | cu (v : V) (c : Cu)
def SlotR (K : PySem.W.Frag) (F : Hp) (v : V) : Sl → Cells → Prop
  | .fz d, S => S = [] ∧ Rp K F v d
  | .ow n, S => Ow K F v n S
  | .cu u c, S => v = u ∧ c.R F S
theorem SlotR.mono {K : PySem.W.Frag} {F F' : Hp} {v : V} {s : Sl} {S : Cells} (e : Same F F') (h : SlotR K F v s S) : SlotR K F' v s S := by
  cases s with
  | fz d => exact ⟨h.1, h.2.mono e⟩
  | ow n => exact Ow.mono e h
  | cu u c => exact ⟨h.1, c.mono e h.2⟩
abbrev Env := List (Option Sl)
inductive Rep (K : PySem.W.Frag) (F : Hp) : L2.St → Env → Cells → Prop
  | nil : Rep K F [] [] []
  | non {o : Option V} {σ : L2.St} {e : Env} {M : Cells} : Rep K F σ e M → Rep K F (o :: σ) (none :: e) M
  | som {v : V} {s : Sl} {σ : L2.St} {e : Env} {S M : Cells} : SlotR K F v s S → Rep K F σ e M → Rep K F (some v :: σ) (some s :: e) (S ++ M)
theorem Rep.mono {K : PySem.W.Frag} {F F' : Hp} (s : Same F F') : ∀ {σ : L2.St} {e : Env} {M : Cells}, Rep K F σ e M → Rep K F' σ e M
  | _, _, _, .nil => .nil
  | _, _, _, .non h => .non (h.mono s)
  | _, _, _, .som r h => .som (r.mono s) (h.mono s)
theorem Rep.len {K : PySem.W.Frag} {F : Hp} : ∀ {σ : L2.St} {e : Env} {M : Cells}, Rep K F σ e M → σ.length = e.length
  | _, _, _, .nil => rfl
  | _, _, _, .non h => congrArg (· + 1) h.len
  | _, _, _, .som _ h => congrArg (· + 1) h.len
/-- a slot, and what may take its place -/
theorem Rep.at {K : PySem.W.Frag} {F : Hp} : ∀ {σ : L2.St} {e : Env} {M : Cells} {i : Nat} {s : Sl}, Rep K F σ e M → e[i]? = some (some s) →
    ∃ v A S B, σ[i]? = some (some v) ∧ SlotR K F v s S ∧ M = A ++ (S ++ B) ∧ ∀ F' s' v' S', Same F F' → SlotR K F' v' s' S' → Rep K F' (σ.set i (some v')) (e.set i (some s')) (A ++ (S' ++ B))
  | _, _, _, i, s, .nil, h => by cases h
  | _, _, _, 0, s, .non r, h => by cases h
  | _, _, _, i + 1, s, .non r, h => by
    obtain ⟨v, A, S, B, h1, h2, h3, h4⟩ := Rep.at r h
    exact ⟨v, A, S, B, h1, h2, h3, fun F' s' v' S' sm q => .non (h4 F' s' v' S' sm q)⟩
  | _, _, _, 0, s, .som (S := S) (M := M) q r, h => by
    cases h
    exact ⟨_, [], S, M, rfl, q, rfl, fun F' s' v' S' sm q' => Rep.som (S := S') q' (r.mono sm)⟩
  | _, _, _, i + 1, s, .som (S := S0) (M := M0) q r, h => by
    obtain ⟨v, A, S, B, h1, h2, h3, h4⟩ := Rep.at r h
    refine ⟨v, S0 ++ A, S, B, h1, h2, by rw [h3, List.append_assoc], fun F' s' v' S' sm q' => ?_⟩
    rw [List.append_assoc]
    exact .som (q.mono sm) (h4 F' s' v' S' sm q')
/-- a slot is set -/
theorem Rep.put {K : PySem.W.Frag} {F : Hp} : ∀ {σ : L2.St} {e : Env} {M : Cells} {i : Nat}, Rep K F σ e M → i < e.length →
    ∃ A S B, M = A ++ (S ++ B) ∧ ∀ F' s' v' S', Same F F' → SlotR K F' v' s' S' → Rep K F' (σ.set i (some v')) (e.set i (some s')) (A ++ (S' ++ B))
  | _, _, _, i, .nil, h => absurd h (Nat.not_lt_zero _)
  | _, _, _, 0, .non (M := M) r, h => ⟨[], [], M, rfl, fun F' s' v' S' sm q => Rep.som (S := S') q (r.mono sm)⟩
  | _, _, _, 0, .som (S := S) (M := M) q r, h => ⟨[], S, M, rfl, fun F' s' v' S' sm q' => Rep.som (S := S') q' (r.mono sm)⟩
  | _, _, _, i + 1, .non r, h => by
    obtain ⟨A, S, B, h3, h4⟩ := Rep.put r (Nat.lt_of_succ_lt_succ h)
    exact ⟨A, S, B, h3, fun F' s' v' S' sm q => .non (h4 F' s' v' S' sm q)⟩
  | _, _, _, i + 1, .som (S := S0) (M := M0) q r, h => by
    obtain ⟨A, S, B, h3, h4⟩ := Rep.put r (Nat.lt_of_succ_lt_succ h)
    refine ⟨S0 ++ A, S, B, by rw [h3, List.append_assoc], fun F' s' v' S' sm q' => ?_⟩
    rw [List.append_assoc]
    exact .som (q.mono sm) (h4 F' s' v' S' sm q')
theorem Rep.drop {K : PySem.W.Frag} {F : Hp} : ∀ {σ : L2.St} {e : Env} {M : Cells} (i : Nat), Rep K F σ e M → ∃ M', M'.Sublist M ∧ Rep K F (σ.set i none) (e.set i none) M'
  | _, _, _, _, .nil => ⟨[], .slnil, .nil⟩
  | _, _, _, 0, .non r => ⟨_, List.Sublist.refl _, .non r⟩
  | _, _, _, 0, .som (S := S) _ r => ⟨_, List.sublist_append_right S _, .non r⟩
  | _, _, _, i + 1, .non r => by
    obtain ⟨M', s, r'⟩ := r.drop i
    exact ⟨M', s, .non r'⟩
  | _, _, _, i + 1, .som (S := S) q r => by
    obtain ⟨M', s, r'⟩ := r.drop i
    exact ⟨S ++ M', (List.Sublist.refl S).append s, .som q r'⟩
/-! ### what is looked at -/
def Vw (K : PySem.W.Frag) (F : Hp) (M : Cells) (v : V) (n : N) : Prop := ∃ S, Ow K F v n S ∧ ∀ c ∈ S, c ∈ M
theorem Vw.mono {K : PySem.W.Frag} {F F' : Hp} {M : Cells} {v : V} {n : N} (s : Same F F') (h : Vw K F M v n) : Vw K F' M v n := let ⟨S, a, b⟩ := h; ⟨S, a.mono s, b⟩
theorem Vw.rp {K : PySem.W.Frag} {F H : Hp} {M M0 : Cells} {v : V} {n : N} (o : Own F (M ++ M0) H) (h : Vw K F M v n) : Rp K H v n.toD := by
  obtain ⟨S, a, b⟩ := h
  exact a.rp o.fr fun c hc => o.mu c (List.mem_append_left _ (b c hc))
theorem Vw.of {K : PySem.W.Frag} {F : Hp} {M : Cells} {v : V} {d : D} (h : Rp K F v d) : Vw K F M v (.f d) := ⟨[], .f h, fun _ z => (nomatch z)⟩
theorem Vw.f {K : PySem.W.Frag} {F : Hp} {M : Cells} {v : V} {d : D} (h : Vw K F M v (.f d)) : Rp K F v d := by
  obtain ⟨S, a, _⟩ := h
  cases a
  assumption
/-- the node in a slot -/
def Sl.node : Sl → Option N
  | .fz d => some (.f d)
  | .ow n => some n
  | .cu _ _ => none
def Env.node (e : Env) (i : Nat) : Option N := match e[i]? with
  | some (some s) => s.node
  | _ => none
theorem Rep.look {K : PySem.W.Frag} {F : Hp} {σ : L2.St} {e : Env} {M : Cells} {i : Nat} {n : N} (r : Rep K F σ e M) (h : e.node i = some n) : ∃ v, σ[i]? = some (some v) ∧ Vw K F M v n := by
  unfold Env.node at h
  cases q : e[i]? with
  | none =>
    rw [q] at h
    cases h
  | some o =>
    cases o with
    | none =>
      rw [q] at h
      cases h
    | some s =>
      rw [q] at h
      obtain ⟨v, A, S, B, h1, h2, h3, _⟩ := r.at q
      refine ⟨v, h1, ?_⟩
      have sub : ∀ c ∈ S, c ∈ M := fun c hc => by
        rw [h3]
        exact List.mem_append_right _ (List.mem_append_left _ hc)
      cases s with
      | fz d =>
        cases h
        exact Vw.of h2.2
      | ow n' =>
        cases h
        exact ⟨S, h2, sub⟩
      | cu u c => cases h
end Pu

/-! ## Pu: expressions without effects: their value is a function of the slots -/
namespace Pu
open PySem PySem.Spec PyProof.Rows L2 Ed
abbrev G := Env → Option N
def LG (K : PySem.W.Frag) (g : G) : TE := fun σ H Q => ∃ env F M M0 n, Rep K F σ env M ∧ Own F (M ++ M0) H ∧ g env = some n ∧ ∀ v F' H', Same F F' → Own F' (M ++ M0) H' → Vw K F' M v n → Q v H'
def PD (X : Cx) (K : PySem.W.Frag) (e : Expr) (g : G) : Prop := X.K = K → PE X e (LG K g)
theorem pe_imp {X : Cx} {e : Expr} {t t' : TE} (h : PE X e t) (i : ∀ σ H Q, t' σ H Q → t σ H Q) : PE X e t' := ⟨fun pins s σ H Q I q => h.run pins s σ H Q I (i σ H Q q)⟩
theorem pt_imp {X : Cx} {e : Expr} {t t' : TT} (h : PT X e t) (i : ∀ σ H Q, t' σ H Q → t σ H Q) : PT X e t' := ⟨fun pins s σ H Q I q => h.run pins s σ H Q I (i σ H Q q)⟩
theorem pa_imp {X : Cx} {e : List Expr} {t t' : TA} (h : PA X e t) (i : ∀ σ H Q, t' σ H Q → t σ H Q) : PA X e t' := ⟨fun pos pins s σ H Q I q => h.run pos pins s σ H Q I (i σ H Q q)⟩
theorem ps_imp {X : Cx} {e : Stmt} {t t' : TS} (h : PS X e t) (i : ∀ D σ H, t' D σ H → t D σ H) : PS X e t' := ⟨fun pins s σ H D I q => h.run pins s σ H D I (i D σ H q)⟩
theorem pss_imp {X : Cx} {e : List Stmt} {t t' : TS} (h : PSs X e t) (i : ∀ D σ H, t' D σ H → t D σ H) : PSs X e t' := ⟨fun pins s σ H D I q => h.run pins s σ H D I (i D σ H q)⟩
/-! ### names, constants -/
def gVar (i : Nat) : G := fun env => env.node i
def gC (d : D) : G := fun _ => some (.f d)
section
variable {X : Cx} {K : PySem.W.Frag} {e a b c : Expr} {ga gb gc : G} {pos : Pos}
theorem pd_var {i : Nat} (h : PE X e (tVar i)) : PD X K e (gVar i) := fun _ => pe_imp h fun σ H Q ⟨env, F, M, M0, n, r, o, hg, k⟩ => by
  obtain ⟨v, hv, w⟩ := r.look hg
  exact ⟨v, hv, k v F H (Same.refl _) o w⟩
theorem pd_c {v : V} {d : D} (h : PE X e (tC v)) (hr : ∀ F, Rp K F v d) : PD X K e (gC d) := fun _ => pe_imp h fun σ H Q ⟨env, F, M, M0, n, r, o, hg, k⟩ => by
  cases hg
  exact k v F H (Same.refl _) o (Vw.of (hr F))
theorem pd_int {i : Int} {j pos} : PD X K (.Constant (.int i) j pos) (gC (.int i)) := pd_c pe_int fun _ => .int i
theorem pd_str {i : Str} {j pos} : PD X K (.Constant (.str i) j pos) (gC (.str i)) := pd_c pe_str fun _ => .str i
theorem pd_bl {i : Bool} {j pos} : PD X K (.Constant (.bool i) j pos) (gC (.bl i)) := pd_c pe_bl fun _ => .bl i
theorem pd_non {j pos} : PD X K (.Constant .none j pos) (gC .non) := pd_c pe_non fun _ => .non
/-! ### operators -/
structure S2 (K : PySem.W.Frag) (r : R2) (o : N → N → Option N) : Prop where
  run : ∀ {F : Hp} {M M0 : Cells} {H : Hp} {v1 v2 : V} {n1 n2 n : N} {Q : VK}, Own F (M ++ M0) H → Vw K F M v1 n1 → Vw K F M v2 n2 → o n1 n2 = some n →
  (∀ v F' H', Same F F' → Own F' (M ++ M0) H' → Vw K F' M v n → Q v H') → r v1 v2 H Q
structure S1 (K : PySem.W.Frag) (r : V → Hp → VK → Prop) (o : N → Option N) : Prop where
  run : ∀ {F : Hp} {M M0 : Cells} {H : Hp} {v1 : V} {n1 n : N} {Q : VK}, Own F (M ++ M0) H → Vw K F M v1 n1 → o n1 = some n →
  (∀ v F' H', Same F F' → Own F' (M ++ M0) H' → Vw K F' M v n → Q v H') → r v1 H Q
def gOp (o : N → N → Option N) (a b : G) : G := fun env => match a env, b env with
  | some x, some y => o x y
  | _, _ => none
def gUn (o : N → Option N) (a : G) : G := fun env => match a env with
  | some x => o x
  | _ => none
theorem gOp_some {o : N → N → Option N} {a b : G} {env : Env} {n : N} (h : gOp o a b env = some n) : ∃ x y, a env = some x ∧ b env = some y ∧ o x y = some n := by
  unfold gOp at h
  cases ea : a env with
  | none =>
    rw [ea] at h
    cases h
  | some x =>
    cases eb : b env with
    | none =>
      rw [ea, eb] at h
      cases h
    | some y =>
      rw [ea, eb] at h
      exact ⟨x, y, rfl, rfl, h⟩
theorem gUn_some {o : N → Option N} {a : G} {env : Env} {n : N} (h : gUn o a env = some n) : ∃ x, a env = some x ∧ o x = some n := by
  unfold gUn at h
  cases ea : a env with
  | none =>
    rw [ea] at h
    cases h
  | some x =>
    rw [ea] at h
    exact ⟨x, rfl, h⟩
theorem lg_op {r : R2} {o : N → N → Option N} (s : S2 K r o) : ∀ σ H Q, LG K (gOp o ga gb) σ H Q → tOp r (LG K ga) (LG K gb) σ H Q := fun σ H Q ⟨env, F, M, M0, n, rp, o, hg, k⟩ => by
  obtain ⟨x, y, h1, h2, h3⟩ := gOp_some hg
  refine ⟨env, F, M, M0, x, rp, o, h1, fun v F1 H1 s1 o1 w1 => ⟨env, F1, M, M0, y, rp.mono s1, o1, h2, fun u F2 H2 s2 o2 w2 => ?_⟩⟩
  exact s.run o2 (w1.mono s2) w2 h3 fun z F' H' s' o' w' => k z F' H' (s1.trans (s2.trans s')) o' w'
theorem lg_un {r : V → Hp → VK → Prop} {o : N → Option N} (s : S1 K r o) : ∀ σ H Q, LG K (gUn o ga) σ H Q → tUn r (LG K ga) σ H Q := fun σ H Q ⟨env, F, M, M0, n, rp, o, hg, k⟩ => by
  obtain ⟨x, h1, h3⟩ := gUn_some hg
  refine ⟨env, F, M, M0, x, rp, o, h1, fun v F1 H1 s1 o1 w1 => ?_⟩
  exact s.run o1 w1 h3 fun z F' H' s' o' w' => k z F' H' (s1.trans s') o' w'
theorem pd_bin {op : Operator} {r : R2} {o : N → N → Option N} (h : OpR X (binaryOp op) r) (s : S2 K r o) (ha : PD X K a ga) (hb : PD X K b gb) : PD X K (.BinOp a op b pos) (gOp o ga gb) := fun hK => pe_imp (pe_op h (ha hK) (hb hK)) (lg_op s)
theorem pd_cmp {op : CmpOp} {r : R2} {o : N → N → Option N} (h : OpR X (compareOp op) r) (s : S2 K r o) (ha : PD X K a ga) (hb : PD X K b gb) (hm : behindInMarks op b = false) : PD X K (.Compare a [op] [b] pos) (gOp o ga gb) := fun hK => pe_imp (pe_cmpR h (ha hK) (hb hK) hm) (lg_op s)
theorem pd_un {op : UnaryOp} {r : V → Hp → VK → Prop} {o : N → Option N} (h : UnR X (unaryOp op) r) (s : S1 K r o) (ha : PD X K a ga) : PD X K (.UnaryOp op a pos) (gUn o ga) := fun hK => pe_imp (pe_un h (ha hK)) (lg_un s)
theorem pd_ix {r : R2} {o : N → N → Option N} (h : IxR X r) (s : S2 K r o) (ha : PD X K a ga) (hb : PD X K b gb) (hs : PlainIx b) : PD X K (.Subscript a b pos) (gOp o ga gb) := fun hK => pe_imp (pe_ix h (ha hK) (hb hK) hs) (lg_op s)
/-- of readings, either -/
theorem OpR.or {f : Value → Value → Sem Value} {r r' : R2} (h : OpR X f r) (h' : OpR X f r') : OpR X f (fun x y H Q => r x y H Q ∨ r' x y H Q) := fun pins s σ H x y v u Q I rx ry q => q.elim (h pins s σ H x y v u Q I rx ry) (h' pins s σ H x y v u Q I rx ry)
theorem IxR.or {r r' : R2} (h : IxR X r) (h' : IxR X r') : IxR X (fun x y H Q => r x y H Q ∨ r' x y H Q) := fun va sl pins s σ H x y v u Q I rx ry q z => q.elim (fun q => h va sl pins s σ H x y v u Q I rx ry q z) (fun q => h' va sl pins s σ H x y v u Q I rx ry q z)
end
/-! ### flat values -/
def flatD : D → Bool
  | .non => true
  | .bl _ => true
  | .int _ => true
  | .str _ => true
  | _ => false
def D.v : D → V
  | .bl b => .bl b
  | .int i => .int i
  | .str s => .str s
  | _ => .non
theorem flat_rp {K : PySem.W.Frag} {H : Hp} {v : V} {d : D} (h : Rp K H v d) (f : flatD d = true) : v = d.v := by
  cases h <;> first | rfl | cases f
theorem rp_flat {K : PySem.W.Frag} {H : Hp} {d : D} (f : flatD d = true) : Rp K H d.v d := by
  cases d <;> first | exact .non | exact .bl _ | exact .int _ | exact .str _ | cases f
theorem flatV_v {d : D} : flatV d.v = true := by cases d <;> rfl
/-- an operator on flat values whose result is flat -/
def fOp (o : D → D → Option D) : N → N → Option N := fun x y => (o x.toD y.toD).map N.f
def fUn (o : D → Option D) : N → Option N := fun x => (o x.toD).map N.f
theorem s2_flat {K : PySem.W.Frag} {r : R2} {o : D → D → Option D} (h : ∀ (H : Hp) (v1 v2 : V) (d1 d2 d : D) (Q : VK), Rp K H v1 d1 → Rp K H v2 d2 → o d1 d2 = some d → flatD d = true ∧ (Q d.v H → r v1 v2 H Q)) : S2 K r (fOp o) := by
  refine ⟨fun {F M M0 H v1 v2 n1 n2 n Q} ow w1 w2 ho k => ?_⟩
  unfold fOp at ho
  cases e : o n1.toD n2.toD with
  | none =>
    rw [e] at ho
    cases ho
  | some d =>
    rw [e] at ho
    cases ho
    obtain ⟨f, q⟩ := h H v1 v2 _ _ d Q (w1.rp ow) (w2.rp ow) e
    exact q (k d.v F H (Same.refl _) ow (Vw.of (rp_flat f)))
theorem s1_flat {K : PySem.W.Frag} {r : V → Hp → VK → Prop} {o : D → Option D} (h : ∀ (H : Hp) (v1 : V) (d1 d : D) (Q : VK), Rp K H v1 d1 → o d1 = some d → flatD d = true ∧ (Q d.v H → r v1 H Q)) : S1 K r (fUn o) := by
  refine ⟨fun {F M M0 H v1 n1 n Q} ow w1 ho k => ?_⟩
  unfold fUn at ho
  cases e : o n1.toD with
  | none =>
    rw [e] at ho
    cases ho
  | some d =>
    rw [e] at ho
    cases ho
    obtain ⟨f, q⟩ := h H v1 _ d Q (w1.rp ow) e
    exact q (k d.v F H (Same.refl _) ow (Vw.of (rp_flat f)))
/-! ints and texts -/
def iOp (g : Int → Int → D) : D → D → Option D
  | .int i, .int j => some (g i j)
  | _, _ => none
def iOpC (C : Int → Int → Prop) [∀ i j, Decidable (C i j)] (g : Int → Int → D) : D → D → Option D
  | .int i, .int j => if C i j then some (g i j) else none
  | _, _ => none
theorem iOp_some {g : Int → Int → D} {x y d : D} (h : iOp g x y = some d) : ∃ i j, x = .int i ∧ y = .int j ∧ d = g i j := by
  unfold iOp at h
  split at h
  · cases h
    exact ⟨_, _, rfl, rfl, rfl⟩
  · cases h
theorem iOpC_some {C : Int → Int → Prop} [∀ i j, Decidable (C i j)] {g : Int → Int → D} {x y d : D} (h : iOpC C g x y = some d) : ∃ i j, x = .int i ∧ y = .int j ∧ C i j ∧ d = g i j := by
  unfold iOpC at h
  split at h
  · split at h
    · cases h
      exact ⟨_, _, rfl, rfl, by assumption, rfl⟩
    · cases h
  · cases h
theorem s2_int {K : PySem.W.Frag} {g : Int → Int → D} (hf : ∀ i j, flatD (g i j) = true) : S2 K (rI0 fun i j => (g i j).v) (fOp (iOp g)) := s2_flat fun H v1 v2 d1 d2 d Q r1 r2 e => by
  obtain ⟨i, j, rfl, rfl, rfl⟩ := iOp_some e
  cases r1
  cases r2
  exact ⟨hf _ _, fun q => ⟨i, j, rfl, rfl, q⟩⟩
theorem s2_intC {K : PySem.W.Frag} {C : Int → Int → Prop} [∀ i j, Decidable (C i j)] {C' : Int → Int → Prop} (hC : ∀ i j, C i j → C' i j) {g : Int → Int → D} (hf : ∀ i j, flatD (g i j) = true) : S2 K (rI C' fun i j => (g i j).v) (fOp (iOpC C g)) := s2_flat fun H v1 v2 d1 d2 d Q r1 r2 e => by
  obtain ⟨i, j, rfl, rfl, c, rfl⟩ := iOpC_some e
  cases r1
  cases r2
  exact ⟨hf _ _, fun q => ⟨i, j, rfl, rfl, hC _ _ c, q⟩⟩
def addD : D → D → Option D
  | .int i, .int j => some (.int (i + j))
  | .str a, .str b => if a.length + b.length ≤ sizeLine then some (.str (a ++ b)) else none
  | _, _ => none
theorem s2_add {K : PySem.W.Frag} : S2 K (fun x y H Q => rI0 (fun i j => V.int (i + j)) x y H Q ∨ Ed.rCatS x y H Q) (fOp addD) := s2_flat fun H v1 v2 d1 d2 d Q r1 r2 e => by
  unfold addD at e
  split at e
  · cases e
    cases r1
    cases r2
    exact ⟨rfl, fun q => .inl ⟨_, _, rfl, rfl, q⟩⟩
  · split at e
    · rename_i hl
      cases e
      cases r1
      cases r2
      exact ⟨rfl, fun q => .inr ⟨_, _, rfl, rfl, hl, q⟩⟩
    · cases e
  · cases e
def ltD : D → D → Option D := iOp fun i j => .bl (decide (i < j))
def leD : D → D → Option D := iOp fun i j => .bl (decide (i ≤ j))
def gtD : D → D → Option D := iOp fun i j => .bl (decide (i > j))
def geD : D → D → Option D := iOp fun i j => .bl (decide (i ≥ j))
def subD : D → D → Option D := iOp fun i j => .int (i - j)
def mulD : D → D → Option D := iOpC (fun i j => (-(2 ^ 64) < i ∧ i < 2 ^ 64) ∨ (-(2 ^ 64) < j ∧ j < 2 ^ 64)) fun i j => .int (i * j)
def modD : D → D → Option D := iOpC (fun _ j => 0 < j) fun i j => .int (i % j)
def fdivD : D → D → Option D := iOpC (fun _ j => 0 < j ∧ j < 2 ^ 120) fun i j => .int (i / j)
def powD : D → D → Option D := iOpC (fun i j => 0 ≤ j ∧ j ≤ 1000000 ∧ i.natAbs < 2 ^ 64) fun i j => .int (i ^ j.toNat)
def shlD : D → D → Option D := iOpC (fun i j => 0 ≤ j ∧ j ≤ 1000000 ∧ i.natAbs < 2 ^ 64) fun i j => .int (i * 2 ^ j.toNat)
def andD : D → D → Option D := iOp fun i j => .int (Builtin.bitAnd i j)
def negD : D → Option D
  | .int i => some (.int (-i))
  | _ => none
section
variable {X : Cx} {K : PySem.W.Frag} {a b : Expr} {ga gb : G} {pos : Pos}
theorem pd_add (ha : PD X K a ga) (hb : PD X K b gb) : PD X K (.BinOp a .Add b pos) (gOp (fOp addD) ga gb) := pd_bin (OpR.or op_add o_catS) s2_add ha hb
theorem pd_sub (ha : PD X K a ga) (hb : PD X K b gb) : PD X K (.BinOp a .Sub b pos) (gOp (fOp subD) ga gb) := pd_bin op_sub (s2_int (g := fun i j => .int (i - j)) fun _ _ => rfl) ha hb
theorem pd_mul (ha : PD X K a ga) (hb : PD X K b gb) : PD X K (.BinOp a .Mult b pos) (gOp (fOp mulD) ga gb) := pd_bin op_mul (s2_intC (C := fun i j => (-(2 ^ 64) < i ∧ i < 2 ^ 64) ∨ (-(2 ^ 64) < j ∧ j < 2 ^ 64)) (g := fun i j => .int (i * j)) (fun i j h => h) fun _ _ => rfl) ha hb
theorem pd_mod (ha : PD X K a ga) (hb : PD X K b gb) : PD X K (.BinOp a .Mod b pos) (gOp (fOp modD) ga gb) := pd_bin op_mod (s2_intC (g := fun i j => .int (i % j)) (fun i j h => h) fun _ _ => rfl) ha hb
theorem pd_fdiv (ha : PD X K a ga) (hb : PD X K b gb) : PD X K (.BinOp a .FloorDiv b pos) (gOp (fOp fdivD) ga gb) := pd_bin op_fdivW (s2_intC (g := fun i j => .int (i / j)) (fun i j h => cdivW_of h.1 h.2) fun _ _ => rfl) ha hb
theorem pd_pow (ha : PD X K a ga) (hb : PD X K b gb) : PD X K (.BinOp a .Pow b pos) (gOp (fOp powD) ga gb) := pd_bin op_pow (s2_intC (C := fun i j => 0 ≤ j ∧ j ≤ 1000000 ∧ i.natAbs < 2 ^ 64) (g := fun i j => .int (i ^ j.toNat)) (fun i j h => h) fun _ _ => rfl) ha hb
theorem pd_shl (ha : PD X K a ga) (hb : PD X K b gb) : PD X K (.BinOp a .LShift b pos) (gOp (fOp shlD) ga gb) := pd_bin op_shl (s2_intC (C := fun i j => 0 ≤ j ∧ j ≤ 1000000 ∧ i.natAbs < 2 ^ 64) (g := fun i j => .int (i * 2 ^ j.toNat)) (fun i j h => h) fun _ _ => rfl) ha hb
theorem pd_and2 (ha : PD X K a ga) (hb : PD X K b gb) : PD X K (.BinOp a .BitAnd b pos) (gOp (fOp andD) ga gb) := pd_bin op_and (s2_int (g := fun i j => .int (Builtin.bitAnd i j)) fun _ _ => rfl) ha hb
theorem pd_neg (ha : PD X K a ga) : PD X K (.UnaryOp .USub a pos) (gUn (fUn negD) ga) := pd_un un_neg (s1_flat fun H v1 d1 d Q r1 e => by
  unfold negD at e
  split at e
  · cases e
    cases r1
    exact ⟨rfl, fun q => ⟨_, rfl, q⟩⟩
  · cases e) ha
theorem pd_lt (ha : PD X K a ga) (hb : PD X K b gb) : PD X K (.Compare a [.Lt] [b] pos) (gOp (fOp ltD) ga gb) := pd_cmp op_lt (s2_int (g := fun i j => .bl (decide (i < j))) fun _ _ => rfl) ha hb (nobehind _ (by decide) (by decide))
theorem pd_le (ha : PD X K a ga) (hb : PD X K b gb) : PD X K (.Compare a [.LtE] [b] pos) (gOp (fOp leD) ga gb) := pd_cmp op_le (s2_int (g := fun i j => .bl (decide (i ≤ j))) fun _ _ => rfl) ha hb (nobehind _ (by decide) (by decide))
theorem pd_gt (ha : PD X K a ga) (hb : PD X K b gb) : PD X K (.Compare a [.Gt] [b] pos) (gOp (fOp gtD) ga gb) := pd_cmp op_gt (s2_int (g := fun i j => .bl (decide (i > j))) fun _ _ => rfl) ha hb (nobehind _ (by decide) (by decide))
theorem pd_ge (ha : PD X K a ga) (hb : PD X K b gb) : PD X K (.Compare a [.GtE] [b] pos) (gOp (fOp geD) ga gb) := pd_cmp op_ge (s2_int (g := fun i j => .bl (decide (i ≥ j))) fun _ _ => rfl) ha hb (nobehind _ (by decide) (by decide))
end
end Pu

namespace Pu
open PySem PySem.Spec PyProof.Rows L2 Ed
/-! ### lists of values -/
section
variable {K : PySem.W.Frag} {F H : Hp} {M : Cells}
theorem RpAll.len : ∀ {vs : List V} {ds : List D}, RpAll K H vs ds → vs.length = ds.length
  | _, _, .nil => rfl
  | _, _, .cons _ t => congrArg (· + 1) t.len
theorem RpAll.get : ∀ {vs : List V} {ds : List D} {i : Nat} {d : D}, RpAll K H vs ds → ds[i]? = some d → ∃ v, vs[i]? = some v ∧ Rp K H v d
  | _, _, i, d, .nil, h => by cases h
  | _, _, 0, d, .cons a t, h => by
    cases h
    exact ⟨_, rfl, a⟩
  | _, _, i + 1, d, .cons a t, h => RpAll.get (i := i) t h
theorem RpAll.getV : ∀ {vs : List V} {ds : List D} {i : Nat} {v : V}, RpAll K H vs ds → vs[i]? = some v → ∃ d, ds[i]? = some d ∧ Rp K H v d
  | _, _, i, d, .nil, h => by cases h
  | _, _, 0, d, .cons a t, h => by
    cases h
    exact ⟨_, rfl, a⟩
  | _, _, i + 1, d, .cons a t, h => RpAll.getV (i := i) t h
theorem RpAll.app : ∀ {vs ws : List V} {ds es : List D}, RpAll K H vs ds → RpAll K H ws es → RpAll K H (vs ++ ws) (ds ++ es)
  | _, _, _, _, .nil, h => h
  | _, _, _, _, .cons a t, h => .cons a (t.app h)
theorem RpAll.drop : ∀ {vs : List V} {ds : List D} (n : Nat), RpAll K H vs ds → RpAll K H (vs.drop n) (ds.drop n)
  | _, _, 0, h => h
  | _, _, n + 1, .nil => .nil
  | _, _, n + 1, .cons a t => t.drop n
theorem RpAll.take : ∀ {vs : List V} {ds : List D} (n : Nat), RpAll K H vs ds → RpAll K H (vs.take n) (ds.take n)
  | _, _, 0, h => .nil
  | _, _, n + 1, .nil => .nil
  | _, _, n + 1, .cons a t => .cons a (t.take n)
theorem RpAll.erase : ∀ {vs : List V} {ds : List D} (n : Nat), RpAll K H vs ds → RpAll K H (vs.eraseIdx n) (ds.eraseIdx n)
  | _, _, 0, .nil => .nil
  | _, _, n + 1, .nil => .nil
  | _, _, 0, .cons a t => t
  | _, _, n + 1, .cons a t => .cons a (t.erase n)
theorem RpAll.set : ∀ {vs : List V} {ds : List D} (n : Nat) {v : V} {d : D}, RpAll K H vs ds → Rp K H v d → RpAll K H (vs.set n v) (ds.set n d)
  | _, _, 0, _, _, .nil, _ => .nil
  | _, _, n + 1, _, _, .nil, _ => .nil
  | _, _, 0, _, _, .cons a t, h => .cons h t
  | _, _, n + 1, _, _, .cons a t, h => .cons a (t.set n h)
theorem RpAll.rev : ∀ {vs : List V} {ds : List D}, RpAll K H vs ds → RpAll K H vs.reverse ds.reverse
  | _, _, .nil => .nil
  | _, _, .cons a t => by
    rw [List.reverse_cons, List.reverse_cons]
    exact t.rev.app (.cons a .nil)
theorem RpAll.cut {vs : List V} {ds : List D} (lo hi : Option Int) (h : RpAll K H vs ds) : RpAll K H (cutV vs lo hi) (cutL ds lo hi) := by
  rw [cutV_eq]
  unfold cutL
  rw [h.len]
  exact (h.drop _).take _
theorem RpAll.at {vs : List V} {ds : List D} {i : Int} {d : D} (h : RpAll K H vs ds) (e : atI ds i = some d) : ∃ v, atI vs i = some v ∧ Rp K H v d := by
  unfold atI at e ⊢
  rw [h.len]
  cases q : L2.ixN ds.length i with
  | none =>
    rw [q] at e
    cases e
  | some j =>
    rw [q] at e
    exact h.get e
/-- owned, the items kept -/
def ol (a : Addr) (ds : List D) : N := .lst a (ds.map N.f)
theorem toDs_f : ∀ (ds : List D), toDs (ds.map N.f) = ds
  | [] => rfl
  | d :: ds => by
    show d :: toDs (ds.map N.f) = _
    rw [toDs_f ds]
theorem ol_toD (a : Addr) (ds : List D) : (ol a ds).toD = .lst ds := congrArg D.lst (toDs_f ds)
theorem owAll_f : ∀ {vs : List V} {ds : List D}, RpAll K F vs ds → OwAll K F vs (ds.map N.f) []
  | _, _, .nil => .nil
  | _, _, .cons a t => OwAll.cons (S := []) (T := []) (.f a) (owAll_f t)
theorem owAll_inv : ∀ {vs : List V} {ds : List D} {S : Cells}, OwAll K F vs (ds.map N.f) S → S = [] ∧ RpAll K F vs ds
  | _, [], _, .nil => ⟨rfl, .nil⟩
  | _, d :: ds, _, .cons a t => by
    obtain ⟨rfl, r⟩ := owAll_inv t
    cases a with
    | f a => exact ⟨rfl, .cons a r⟩
theorem ow_ol {a : Addr} {vs : List V} {ds : List D} (h : RpAll K F vs ds) : Ow K F (.ref a) (ol a ds) [(a, .lst vs)] := .lst (owAll_f h)
theorem ol_inv {a : Addr} {v : V} {ds : List D} {S : Cells} (h : Ow K F v (ol a ds) S) : ∃ vs, v = .ref a ∧ S = [(a, .lst vs)] ∧ RpAll K F vs ds := by
  cases h with
  | lst h =>
    obtain ⟨rfl, r⟩ := owAll_inv h
    exact ⟨_, rfl, rfl, r⟩
theorem OwAll.get : ∀ {vs : List V} {ns : List N} {S : Cells} {i : Nat} {n : N}, OwAll K F vs ns S → ns[i]? = some n → ∃ v T, vs[i]? = some v ∧ Ow K F v n T ∧ ∀ c ∈ T, c ∈ S
  | _, _, _, i, n, .nil, h => by cases h
  | _, _, _, 0, n, .cons a t, h => by
    cases h
    exact ⟨_, _, rfl, a, fun c hc => List.mem_append_left _ hc⟩
  | _, _, _, i + 1, n, .cons a t, h => by
    obtain ⟨v, T, h1, h2, h3⟩ := OwAll.get t h
    exact ⟨v, T, h1, h2, fun c hc => List.mem_append_right _ (h3 c hc)⟩
theorem OwAll.len : ∀ {vs : List V} {ns : List N} {S : Cells}, OwAll K F vs ns S → vs.length = ns.length
  | _, _, _, .nil => rfl
  | _, _, _, .cons _ t => congrArg (· + 1) t.len
theorem toDs_len : ∀ (ns : List N), (toDs ns).length = ns.length
  | [] => rfl
  | _ :: ns => congrArg (· + 1) (toDs_len ns)
/-- the items of a list that may be kept -/
def kidsL : N → Option (List D)
  | .f (.lst ds) => some ds
  | .lst _ ns => fds ns
  | _ => none
where fds : List N → Option (List D)
  | [] => some []
  | .f d :: ns => (fds ns).map (d :: ·)
  | _ => none
theorem kids_ol (a : Addr) (ds : List D) : kidsL (ol a ds) = some ds := by
  show kidsL.fds (ds.map N.f) = some ds
  induction ds with
  | nil => rfl
  | cons d ds ih =>
    show (kidsL.fds (ds.map N.f)).map (d :: ·) = _
    rw [ih]
    rfl
theorem fds_inv : ∀ {ns : List N} {ds : List D}, kidsL.fds ns = some ds → ns = ds.map N.f
  | [], ds, h => by
    cases h
    rfl
  | .f d :: ns, ds, h => by
    unfold kidsL.fds at h
    cases e : kidsL.fds ns with
    | none =>
      rw [e] at h
      cases h
    | some r =>
      rw [e] at h
      cases h
      rw [fds_inv e]
      rfl
  | .lst _ _ :: ns, ds, h => by cases h
  | .tup _ _ :: ns, ds, h => by cases h
  | .dic _ _ :: ns, ds, h => by cases h
  | .obj _ _ _ _ :: ns, ds, h => by cases h
theorem Vw.kids {v : V} {n : N} {ds : List D} (o : Own F M H) {M1 : Cells} (hm : ∀ c ∈ M1, c ∈ M) (w : Vw K F M1 v n) (h : kidsL n = some ds) : ∃ a vs, v = .ref a ∧ H a = some (.lst vs) ∧ RpAll K F vs ds := by
  unfold kidsL at h
  split at h
  · cases h
    cases w.f with
    | lst h a => exact ⟨_, _, rfl, o.fr _ _ h, a⟩
  · obtain ⟨S, w, hs⟩ := w
    have e := fds_inv h
    subst e
    obtain ⟨vs, rfl, rfl, r⟩ := ol_inv w
    exact ⟨_, vs, rfl, o.mu (_, .lst vs) (hm _ (hs _ List.mem_cons_self)), r⟩
  · cases h
theorem rp_lst {v : V} {ds : List D} (h : Rp K H v (.lst ds)) : ∃ a vs, v = .ref a ∧ H a = some (.lst vs) ∧ RpAll K H vs ds := by
  cases h with
  | lst h a => exact ⟨_, _, rfl, h, a⟩
theorem rp_tup {v : V} {ds : List D} (h : Rp K H v (.tup ds)) : ∃ a vs, v = .ref a ∧ SqT K H a vs ∧ RpAll K H vs ds := by
  cases h with
  | tup h a => exact ⟨_, _, rfl, h, a⟩
end
/-! ### arguments -/
def gAll : List G → Env → Option (List N)
  | [], _ => some []
  | g :: gs, env => match g env, gAll gs env with
    | some n, some ns => some (n :: ns)
    | _, _ => none
inductive VwAll (K : PySem.W.Frag) (F : Hp) (M : Cells) : List V → List N → Prop
  | nil : VwAll K F M [] []
  | cons {v : V} {n : N} {vs : List V} {ns : List N} : Vw K F M v n → VwAll K F M vs ns → VwAll K F M (v :: vs) (n :: ns)
theorem VwAll.mono {K : PySem.W.Frag} {F F' : Hp} {M : Cells} (s : Same F F') : ∀ {vs : List V} {ns : List N}, VwAll K F M vs ns → VwAll K F' M vs ns
  | _, _, .nil => .nil
  | _, _, .cons a t => .cons (a.mono s) (t.mono s)
def LA (K : PySem.W.Frag) (gs : List G) : TA := fun σ H Q => ∃ env F M M0 ns, Rep K F σ env M ∧ Own F (M ++ M0) H ∧ gAll gs env = some ns ∧ ∀ vs F' H', Same F F' → Own F' (M ++ M0) H' → VwAll K F' M vs ns → Q vs H'
def PAs (X : Cx) (K : PySem.W.Frag) (es : List Expr) (gs : List G) : Prop := X.K = K → PA X es (LA K gs)
section
variable {X : Cx} {K : PySem.W.Frag} {e : Expr} {es : List Expr} {g ga gb : G} {gs : List G} {pos p : Pos}
theorem pas_nil : PAs X K [] [] := fun _ => pa_imp pa_nil fun σ H Q ⟨env, F, M, M0, ns, r, o, hg, k⟩ => by
  cases hg
  exact k [] F H (Same.refl _) o .nil
theorem pas_cons (h : PD X K e g) (t : PAs X K es gs) (hs : starEach (e :: es) X.env = (false, eval e X.env) :: starEach es X.env := by rfl) : PAs X K (e :: es) (g :: gs) := fun hK => pa_imp (pa_cons (h hK) (t hK) hs) fun σ H Q ⟨env, F, M, M0, ns, r, o, hg, k⟩ => by
  unfold gAll at hg
  cases e1 : g env with
  | none =>
    rw [e1] at hg
    cases hg
  | some n =>
    cases e2 : gAll gs env with
    | none =>
      rw [e1, e2] at hg
      cases hg
    | some ms =>
      rw [e1, e2] at hg
      cases hg
      exact ⟨env, F, M, M0, n, r, o, e1, fun v F1 H1 s1 o1 w1 => ⟨env, F1, M, M0, ms, r.mono s1, o1, e2, fun vs F2 H2 s2 o2 w2 => k (v :: vs) F2 H2 (s1.trans s2) o2 (.cons (w1.mono s2) w2)⟩⟩
def gArgs (o : List N → Option N) (gs : List G) : G := fun env => match gAll gs env with
  | some ns => o ns
  | none => none
theorem gArgs_some {o : List N → Option N} {env : Env} {n : N} (h : gArgs o gs env = some n) : ∃ ns, gAll gs env = some ns ∧ o ns = some n := by
  unfold gArgs at h
  cases e : gAll gs env with
  | none =>
    rw [e] at h
    cases h
  | some ns =>
    rw [e] at h
    exact ⟨ns, rfl, h⟩
structure SA (K : PySem.W.Frag) (r : List V → Hp → VK → Prop) (o : List N → Option N) : Prop where
  run : ∀ {F : Hp} {M M0 : Cells} {H : Hp} {vs : List V} {ns : List N} {n : N} {Q : VK}, Own F (M ++ M0) H → VwAll K F M vs ns → o ns = some n →
    (∀ v F' H', Same F F' → Own F' (M ++ M0) H' → Vw K F' M v n → Q v H') → r vs H Q
theorem lg_args {r : List V → Hp → VK → Prop} {o : List N → Option N} (s : SA K r o) : ∀ σ H Q, LG K (gArgs o gs) σ H Q → tCB r (LA K gs) σ H Q := fun σ H Q ⟨env, F, M, M0, n, rp, ow, hg, k⟩ => by
  obtain ⟨ns, h1, h2⟩ := gArgs_some hg
  exact ⟨env, F, M, M0, ns, rp, ow, h1, fun vs F1 H1 s1 o1 w1 => s.run o1 w1 h2 fun v F2 H2 s2 o2 w2 => k v F2 H2 (s1.trans s2) o2 w2⟩
theorem pd_callB {x : Str} {id : String} {r : List V → Hp → VK → Prop} {o : List N → Option N} (hc : CallR X (.builtin id) r) (s : SA K r o) (hg : Gl X x) (hm : X.mg x = none) (hv : bootBuiltins x = some (.builtin id)) (ha : PAs X K (e :: es) gs) (hn : x ≠ "__name__" := by decide) (hdb : (x == ("__debug__" : Str)) = false := by decide)
    (he : starEach (e :: es) X.env = (false, eval e X.env) :: starEach es X.env := by rfl) (hpl : (backTo pos (starEach es X.env)).any (·.1) = false := by rfl) : PD X K (.Call (.Name x p) (e :: es) [] pos) (gArgs o gs) := fun hK => pe_imp (pe_callB hc hg hm hv (ha hK) hn hdb he hpl) (lg_args s)
theorem pd_callT {x : Str} {T : String} {r : List V → Hp → VK → Prop} {o : List N → Option N} (hc : CallR X (.type T) r) (s : SA K r o) (hg : Gl X x) (hm : X.mg x = none) (hv : bootBuiltins x = some (.type T)) (ha : PAs X K (e :: es) gs) (hn : x ≠ "__name__" := by decide) (hdb : (x == ("__debug__" : Str)) = false := by decide)
    (he : starEach (e :: es) X.env = (false, eval e X.env) :: starEach es X.env := by rfl) (hpl : (backTo pos (starEach es X.env)).any (·.1) = false := by rfl) : PD X K (.Call (.Name x p) (e :: es) [] pos) (gArgs o gs) := fun hK => pe_imp (pe_callTy hc hg hm hv (ha hK) hn hdb he hpl) (lg_args s)
end
theorem CallR.or {X : Cx} {f : Value} {r r' : List V → Hp → VK → Prop} (h : CallR X f r) (h' : CallR X f r') : CallR X f (fun xs H Q => r xs H Q ∨ r' xs H Q) := fun pins s σ H vs us Q I rv q => q.elim (h pins s σ H vs us Q I rv) (h' pins s σ H vs us Q I rv)
def fA1 (o : D → Option D) : List N → Option N
  | [n] => (o n.toD).map N.f
  | _ => none
def fA2 (o : D → D → Option D) : List N → Option N
  | [n, m] => (o n.toD m.toD).map N.f
  | _ => none
theorem sa_flat1 {K : PySem.W.Frag} {r : List V → Hp → VK → Prop} {o : D → Option D} (h : ∀ (H : Hp) (v1 : V) (d1 d : D) (Q : VK), Rp K H v1 d1 → o d1 = some d → flatD d = true ∧ (Q d.v H → r [v1] H Q)) : SA K r (fA1 o) := by
  refine ⟨fun {F M M0 H vs ns n Q} ow w ho k => ?_⟩
  unfold fA1 at ho
  split at ho
  · rename_i m
    cases w with
    | cons w1 w2 =>
      cases w2
      cases e : o m.toD with
      | none =>
        rw [e] at ho
        cases ho
      | some d =>
        rw [e] at ho
        cases ho
        obtain ⟨f, q⟩ := h H _ _ d Q (w1.rp ow) e
        exact q (k d.v F H (Same.refl _) ow (Vw.of (rp_flat f)))
  · cases ho
theorem sa_flat2 {K : PySem.W.Frag} {r : List V → Hp → VK → Prop} {o : D → D → Option D} (h : ∀ (H : Hp) (v1 v2 : V) (d1 d2 d : D) (Q : VK), Rp K H v1 d1 → Rp K H v2 d2 → o d1 d2 = some d → flatD d = true ∧ (Q d.v H → r [v1, v2] H Q)) : SA K r (fA2 o) := by
  refine ⟨fun {F M M0 H vs ns n Q} ow w ho k => ?_⟩
  unfold fA2 at ho
  split at ho
  · rename_i m m'
    cases w with
    | cons w1 w2 =>
      cases w2 with
      | cons w2 w3 =>
        cases w3
        cases e : o m.toD m'.toD with
        | none =>
          rw [e] at ho
          cases ho
        | some d =>
          rw [e] at ho
          cases ho
          obtain ⟨f, q⟩ := h H _ _ _ _ d Q (w1.rp ow) (w2.rp ow) e
          exact q (k d.v F H (Same.refl _) ow (Vw.of (rp_flat f)))
  · cases ho
/-! ### len, int, str, min, max, abs -/
def lenD : D → Option D
  | .lst ds => some (.int ds.length)
  | .tup ds => some (.int ds.length)
  | .dic ds => some (.int ds.length)
  | .str a => if a.length ≤ sizeLine then some (.int a.length) else none
  | _ => none
theorem RpDic.len {K : PySem.W.Frag} {H : Hp} : ∀ {vs : List (Key × V)} {ds : List (Key × D)}, RpDic K H vs ds → vs.length = ds.length
  | _, _, .nil => rfl
  | _, _, .cons _ t => congrArg (· + 1) t.len
theorem c_lenD {X : Cx} : CallR X (.builtin "len") (fun xs H Q => ∃ a kvs, xs = [V.ref a] ∧ H a = some (.dK kvs) ∧ Q (.int kvs.length) H) := call_lenD
def intD : D → Option D
  | .int i => some (.int i)
  | .bl b => some (.int (if b then 1 else 0))
  | _ => none
def strD : D → Option D
  | .int i => if i.natAbs.log2 < 1920 then some (.str (toString i)) else none
  | _ => none
def minD : D → D → Option D
  | .int i, .int j => some (.int (if j < i then j else i))
  | _, _ => none
def maxD : D → D → Option D
  | .int i, .int j => some (.int (if j > i then j else i))
  | _, _ => none
def absD : D → Option D
  | .int i => some (.int (if i < 0 then -i else i))
  | _ => none
section
variable {X : Cx} {K : PySem.W.Frag} {e e' : Expr} {g g' : G} {pos p : Pos}
theorem sa_len : SA K (fun xs H Q => rLenQ K xs H Q ∨ (rLenS' xs H Q ∨ ∃ a kvs, xs = [V.ref a] ∧ H a = some (.dK kvs) ∧ Q (.int kvs.length) H)) (fA1 lenD) := sa_flat1 fun H v1 d1 d Q r1 e => by
  unfold lenD at e
  split at e
  · cases e
    obtain ⟨a, vs, rfl, h, r⟩ := rp_lst r1
    exact ⟨rfl, fun q => .inl ⟨a, vs, rfl, .inl (SqL.of h), by rw [r.len]; exact q⟩⟩
  · cases e
    obtain ⟨a, vs, rfl, h, r⟩ := rp_tup r1
    exact ⟨rfl, fun q => .inl ⟨a, vs, rfl, .inr h, by rw [r.len]; exact q⟩⟩
  · cases e
    cases r1 with
    | dic h r => exact ⟨rfl, fun q => .inr (.inr ⟨_, _, rfl, h, by rw [r.len]; exact q⟩)⟩
  · split at e
    · rename_i hl
      cases e
      cases r1
      exact ⟨rfl, fun q => .inr (.inl ⟨_, rfl, hl, q⟩)⟩
    · cases e
  · cases e
theorem pd_len (hm : X.mg "len" = none) (ha : PAs X K [e] [g]) (hg : Gl X "len" := by rfl) (he : starEach [e] X.env = (false, eval e X.env) :: starEach [] X.env := by rfl) : PD X K (.Call (.Name "len" p) [e] [] pos) (gArgs (fA1 lenD) [g]) := fun hK => by
  subst hK
  exact pd_callB (CallR.or c_len (CallR.or c_lenS c_lenD)) sa_len hg hm PySem.boot_len ha (by decide) (by decide) he rfl rfl
theorem pd_int1 (hm : X.mg "int" = none) (ha : PAs X K [e] [g]) (hg : Gl X "int" := by rfl) (he : starEach [e] X.env = (false, eval e X.env) :: starEach [] X.env := by rfl) : PD X K (.Call (.Name "int" p) [e] [] pos) (gArgs (fA1 intD) [g]) := pd_callT c_int1 (sa_flat1 fun H v1 d1 d Q r1 e => by
  unfold intD at e
  split at e
  · cases e
    cases r1
    exact ⟨rfl, fun q => .inl ⟨_, rfl, q⟩⟩
  · cases e
    cases r1
    exact ⟨rfl, fun q => .inr ⟨_, rfl, q⟩⟩
  · cases e) hg hm (by decide +kernel) ha (by decide) (by decide) he rfl
theorem pd_strI (hm : X.mg "str" = none) (ha : PAs X K [e] [g]) (hg : Gl X "str" := by rfl) (he : starEach [e] X.env = (false, eval e X.env) :: starEach [] X.env := by rfl) : PD X K (.Call (.Name "str" p) [e] [] pos) (gArgs (fA1 strD) [g]) := pd_callT c_strI (sa_flat1 fun H v1 d1 d Q r1 e => by
  unfold strD at e
  split at e
  · split at e
    · rename_i hl
      cases e
      cases r1
      exact ⟨rfl, fun q => ⟨_, rfl, hl, q⟩⟩
    · cases e
  · cases e) hg hm (by decide +kernel) ha (by decide) (by decide) he rfl
theorem pd_min (hc : X.calm = true) (hm : X.mg "min" = none) (ha : PAs X K [e, e'] [g, g']) (hg : Gl X "min" := by rfl) (he : starEach [e, e'] X.env = (false, eval e X.env) :: starEach [e'] X.env := by rfl) (hpl : (backTo pos (starEach [e'] X.env)).any (·.1) = false := by rfl) : PD X K (.Call (.Name "min" p) [e, e'] [] pos) (gArgs (fA2 minD) [g, g']) := pd_callB (c_min2 hc) (sa_flat2 fun H v1 v2 d1 d2 d Q r1 r2 e => by
  unfold minD at e
  split at e
  · cases e
    cases r1
    cases r2
    exact ⟨rfl, fun q => ⟨_, _, rfl, q⟩⟩
  · cases e) hg hm (by decide +kernel) ha (by decide) (by decide) he hpl
theorem pd_max (hc : X.calm = true) (hm : X.mg "max" = none) (ha : PAs X K [e, e'] [g, g']) (hg : Gl X "max" := by rfl) (he : starEach [e, e'] X.env = (false, eval e X.env) :: starEach [e'] X.env := by rfl) (hpl : (backTo pos (starEach [e'] X.env)).any (·.1) = false := by rfl) : PD X K (.Call (.Name "max" p) [e, e'] [] pos) (gArgs (fA2 maxD) [g, g']) := pd_callB (c_max2 hc) (sa_flat2 fun H v1 v2 d1 d2 d Q r1 r2 e => by
  unfold maxD at e
  split at e
  · cases e
    cases r1
    cases r2
    exact ⟨rfl, fun q => ⟨_, _, rfl, q⟩⟩
  · cases e) hg hm (by decide +kernel) ha (by decide) (by decide) he hpl
end
/-! ### == and != -/
mutual
def toP : D → Option PyData
  | .non => some .none
  | .bl b => some (.bool b)
  | .int i => some (.int i)
  | .str s => some (.str s)
  | .lst xs => (toPs xs).map .list
  | .tup xs => (toPs xs).map .tuple
  | _ => none
def toPs : List D → Option (List PyData)
  | [] => some []
  | d :: ds => match toP d, toPs ds with
    | some p, some ps => some (p :: ps)
    | _, _ => none
end
mutual
theorem rp_dp {K : PySem.W.Frag} {H : Hp} : ∀ {v : V} {d : D} {p : PyData}, Rp K H v d → toP d = some p → Dp K H v p
  | _, _, _, .non, h => by cases h; exact .non
  | _, _, _, .bl b, h => by cases h; exact .bl b
  | _, _, _, .int i, h => by cases h; exact .int i
  | _, _, _, .str s, h => by cases h; exact .str s
  | _, .lst ds, p, .lst h a, e => by
    unfold toP at e
    cases q : toPs ds with
    | none =>
      rw [q] at e
      cases e
    | some ps =>
      rw [q] at e
      cases e
      exact .lst (SqL.of h) (rpAll_dp a q)
  | _, .tup ds, p, .tup h a, e => by
    unfold toP at e
    cases q : toPs ds with
    | none =>
      rw [q] at e
      cases e
    | some ps =>
      rw [q] at e
      cases e
      exact .tup h (rpAll_dp a q)
  | _, _, _, .dic _ _, h => by cases h
  | _, _, _, .obj _ _, h => by cases h
  | _, _, _, .exc _ _, h => by cases h
  | _, _, _, .raw _, h => by cases h
theorem rpAll_dp {K : PySem.W.Frag} {H : Hp} : ∀ {v : List V} {d : List D} {p : List PyData}, RpAll K H v d → toPs d = some p → DpAll K H v p
  | _, _, _, .nil, h => by cases h; exact .nil
  | _, d :: ds, p, .cons a t, e => by
    unfold toPs at e
    cases q1 : toP d with
    | none =>
      rw [q1] at e
      cases e
    | some p1 =>
      cases q2 : toPs ds with
      | none =>
        rw [q1, q2] at e
        cases e
      | some ps =>
        rw [q1, q2] at e
        cases e
        exact .cons (rp_dp a q1) (rpAll_dp t q2)
end
def eqB (x y : D) : Option Bool := if flatD x = true ∧ flatD y = true ∧ scal x.v y.v = true then some (decide (x.v = y.v)) else match toP x, toP y with
  | some p, some q => if SeqAt.shaped p = true ∧ SeqAt.shaped q = true then some (PyData.eqv p q) else none
  | _, _ => none
def eqD : D → D → Option D := fun x y => (eqB x y).map D.bl
def neD : D → D → Option D := fun x y => (eqB x y).map fun b => .bl (!b)
theorem eqB_inv {K : PySem.W.Frag} {H : Hp} {v1 v2 : V} {d1 d2 : D} {b : Bool} (r1 : Rp K H v1 d1) (r2 : Rp K H v2 d2) (h : eqB d1 d2 = some b) :
    (scal v1 v2 = true ∧ b = decide (v1 = v2)) ∨ ∃ p q, Dp K H v1 p ∧ Dp K H v2 q ∧ SeqAt.shaped p = true ∧ SeqAt.shaped q = true ∧ b = PyData.eqv p q := by
  unfold eqB at h
  split at h
  · rename_i c
    cases h
    rw [flat_rp r1 c.1, flat_rp r2 c.2.1]
    exact .inl ⟨c.2.2, rfl⟩
  · split at h
    · rename_i p q e1 e2
      split at h
      · rename_i c
        cases h
        exact .inr ⟨p, q, rp_dp r1 e1, rp_dp r2 e2, c.1, c.2, rfl⟩
      · cases h
    · cases h
theorem s2_eq {K : PySem.W.Frag} : S2 K (fun x y H Q => rEq x y H Q ∨ rEqD K x y H Q) (fOp eqD) := s2_flat fun H v1 v2 d1 d2 d Q r1 r2 e => by
  unfold eqD at e
  cases q : eqB d1 d2 with
  | none =>
    rw [q] at e
    cases e
  | some b =>
    rw [q] at e
    cases e
    refine ⟨rfl, fun k => ?_⟩
    rcases eqB_inv r1 r2 q with ⟨c, rfl⟩ | ⟨p, z, h1, h2, h3, h4, rfl⟩
    · exact .inl ⟨c, k⟩
    · exact .inr ⟨p, z, h1, h2, h3, h4, k⟩
theorem s2_ne {K : PySem.W.Frag} : S2 K (fun x y H Q => rNe x y H Q ∨ rNeD K x y H Q) (fOp neD) := s2_flat fun H v1 v2 d1 d2 d Q r1 r2 e => by
  unfold neD at e
  cases q : eqB d1 d2 with
  | none =>
    rw [q] at e
    cases e
  | some b =>
    rw [q] at e
    cases e
    refine ⟨rfl, fun k => ?_⟩
    rcases eqB_inv r1 r2 q with ⟨c, rfl⟩ | ⟨p, z, h1, h2, h3, h4, rfl⟩
    · exact .inl ⟨c, k⟩
    · exact .inr ⟨p, z, h1, h2, h3, h4, k⟩
section
variable {X : Cx} {K : PySem.W.Frag} {a b : Expr} {ga gb : G} {pos : Pos}
theorem pd_eq (hu : X.A.units + 64 < cLine) (ha : PD X K a ga) (hb : PD X K b gb) : PD X K (.Compare a [.Eq] [b] pos) (gOp (fOp eqD) ga gb) := fun hK => by
  subst hK
  exact pd_cmp (OpR.or op_eq (op_eqD hu)) s2_eq ha hb (nobehind _ (by decide) (by decide)) rfl
theorem pd_ne (hu : X.A.units + 64 < cLine) (ha : PD X K a ga) (hb : PD X K b gb) : PD X K (.Compare a [.NotEq] [b] pos) (gOp (fOp neD) ga gb) := fun hK => by
  subst hK
  exact pd_cmp (OpR.or op_ne (op_neD hu)) s2_ne ha hb (nobehind _ (by decide) (by decide)) rfl
end
/-! ### in -/
def inL (x : D) (ds : List D) : Option Bool := if flatD x = true ∧ ds.all flatD = true then some (inV x.v (ds.map D.v)) else none
def kidsD : D → Option (List D)
  | .lst ds => some ds
  | .tup ds => some ds
  | _ => none
def inB : D → D → Option Bool
  | x, .lst ds => inL x ds
  | x, .tup ds => inL x ds
  | .str i, .str z => match i.cps.toList with
    | [c] => some (decide (c ∈ z.cps.toList))
    | _ => none
  | _, _ => none
def inD : D → D → Option D := fun x y => (inB x y).map D.bl
def ninD : D → D → Option D := fun x y => (inB x y).map fun b => .bl (!b)
theorem rpAll_flat {K : PySem.W.Frag} {H : Hp} : ∀ {vs : List V} {ds : List D}, RpAll K H vs ds → ds.all flatD = true → vs = ds.map D.v
  | _, _, .nil, _ => rfl
  | _, _, .cons a t, h => by
    rw [List.all_cons, Bool.and_eq_true] at h
    rw [flat_rp a h.1, rpAll_flat t h.2]
    rfl
theorem all_flatV : ∀ (ds : List D), (ds.map D.v).all flatV = true
  | [] => rfl
  | d :: ds => by
    rw [List.map_cons, List.all_cons, all_flatV ds, flatV_v]
    rfl
theorem rpDic_val {K : PySem.W.Frag} {H : Hp} (k : Key) : ∀ {vs : List (Key × V)} {ds : List (Key × D)}, RpDic K H vs ds → ((valV vs k = none ∧ (ds.find? fun kv => decide (kv.1 = k)) = none) ∨ ∃ v d, valV vs k = some v ∧ (ds.find? fun kv => decide (kv.1 = k)) = some (k, d) ∧ Rp K H v d)
  | _, _, .nil => .inl ⟨rfl, rfl⟩
  | (k', v) :: vs, (_, d) :: ds, .cons a t => by
    unfold valV
    rw [List.find?_cons, List.find?_cons]
    by_cases h : k' = k
    · subst h
      simp only [decide_true]
      exact .inr ⟨v, d, rfl, rfl, a⟩
    · simp only [h, decide_false]
      exact rpDic_val k t
theorem any_find {ds : List (Key × D)} {k : Key} : (ds.any fun kv => decide (kv.1 = k)) = (ds.find? fun kv => decide (kv.1 = k)).isSome := by
  induction ds with
  | nil => rfl
  | cons x xs ih =>
    rw [List.any_cons, List.find?_cons]
    cases decide (x.1 = k) with
    | true => rfl
    | false => exact ih
theorem inB_inv {K : PySem.W.Frag} {H : Hp} {v1 v2 : V} {d1 d2 : D} {b : Bool} (r1 : Rp K H v1 d1) (r2 : Rp K H v2 d2) (h : inB d1 d2 = some b) :
    (∃ p xs, v2 = .ref p ∧ (SqL K H p xs ∨ SqT K H p xs) ∧ flatV v1 = true ∧ xs.all flatV = true ∧ b = inV v1 xs) ∨ (∃ (c : Nat) (z : Str), v1 = .str ⟨#[c]⟩ ∧ v2 = .str z ∧ b = decide (c ∈ z.cps.toList)) := by
  unfold inB at h
  split at h
  · unfold inL at h
    split at h
    · rename_i c
      cases h
      obtain ⟨a, vs, rfl, hh, r⟩ := rp_lst r2
      obtain rfl := flat_rp r1 c.1
      obtain rfl := rpAll_flat r c.2
      exact .inl ⟨a, _, rfl, .inl (SqL.of hh), flatV_v, all_flatV _, rfl⟩
    · cases h
  · unfold inL at h
    split at h
    · rename_i c
      cases h
      obtain ⟨a, vs, rfl, hh, r⟩ := rp_tup r2
      obtain rfl := flat_rp r1 c.1
      obtain rfl := rpAll_flat r c.2
      exact .inl ⟨a, _, rfl, .inr hh, flatV_v, all_flatV _, rfl⟩
    · cases h
  · rename_i i z
    split at h
    · rename_i c ec
      cases h
      cases r1
      cases r2
      have e : i = ⟨#[c]⟩ := by
        cases i with
        | mk cps =>
          have : cps = #[c] := by
            rw [← Array.toList_inj]
            exact ec
          rw [this]
      exact .inr ⟨c, _, by rw [e], rfl, rfl⟩
    · cases h
  · cases h
/-- a key of a dict -/
def keyD : D → Option Key
  | .str i => some (.inr i)
  | .int i => some (.inl i)
  | _ => none
def dfind (kvs : List (Key × D)) (k : Key) : Option D := (kvs.find? fun kv => decide (kv.1 = k)).map Prod.snd
theorem key_get {K : PySem.W.Frag} {H : Hp} {a : Addr} {v : V} {d : D} {k : Key} {vs : List (Key × V)} (r : Rp K H v d) (hk : keyD d = some k) (h : H a = some (.dK vs)) : DGet H a v (valV vs k) := by
  unfold keyD at hk
  split at hk
  · cases hk
    cases r
    exact DGet.k (k := .inr _) h
  · cases hk
    cases r
    exact DGet.k (k := .inl _) h
  · cases hk
theorem rpDic_find {K : PySem.W.Frag} {H : Hp} {k : Key} {vs : List (Key × V)} {ds : List (Key × D)} (r : RpDic K H vs ds) : (valV vs k = none ∧ dfind ds k = none) ∨ ∃ v d, valV vs k = some v ∧ dfind ds k = some d ∧ Rp K H v d := by
  unfold dfind
  rcases rpDic_val k r with ⟨e1, e2⟩ | ⟨v, d, e1, e2, r⟩
  · exact .inl ⟨e1, by rw [e2]; rfl⟩
  · exact .inr ⟨v, d, e1, by rw [e2]; rfl, r⟩
def dinB : D → D → Option Bool
  | x, .dic kvs => (keyD x).map fun k => (dfind kvs k).isSome
  | _, _ => none
theorem dinB_inv {K : PySem.W.Frag} {H : Hp} {v1 v2 : V} {d1 d2 : D} {b : Bool} (r1 : Rp K H v1 d1) (r2 : Rp K H v2 d2) (h : dinB d1 d2 = some b) : ∃ a o, v2 = .ref a ∧ DGet H a v1 o ∧ b = o.isSome := by
  unfold dinB at h
  split at h
  · cases q : keyD d1 with
    | none =>
      rw [q] at h
      cases h
    | some k =>
      rw [q] at h
      cases h
      cases r2 with
      | dic hh r =>
        refine ⟨_, _, rfl, key_get r1 q hh, ?_⟩
        rcases rpDic_find (k := k) r with ⟨e1, e2⟩ | ⟨v, d, e1, e2, _⟩
        · show (dfind _ k).isSome = _
          rw [e1, e2]
          rfl
        · show (dfind _ k).isSome = _
          rw [e1, e2]
          rfl
  · cases h
end Pu

namespace Pu
open PySem PySem.Spec PyProof.Rows L2 Ed
/-! ### in -/
def rInS (neg : Bool) : R2 := fun x y H Q => ∃ (c : Nat) (z : Str), x = .str ⟨#[c]⟩ ∧ y = .str z ∧ Q (.bl (if neg then !decide (c ∈ z.cps.toList) else decide (c ∈ z.cps.toList))) H
theorem s2_in {K : PySem.W.Frag} : S2 K (fun x y H Q => rIn K false x y H Q ∨ rInS false x y H Q) (fOp inD) := s2_flat fun H v1 v2 d1 d2 d Q r1 r2 e => by
  unfold inD at e
  cases q : inB d1 d2 with
  | none =>
    rw [q] at e
    cases e
  | some b =>
    rw [q] at e
    cases e
    refine ⟨rfl, fun k => ?_⟩
    rcases inB_inv r1 r2 q with ⟨p, xs, rfl, q1, q2, q3, rfl⟩ | ⟨c, z, rfl, rfl, rfl⟩
    · exact .inl ⟨p, xs, rfl, q1, q2, q3, k⟩
    · exact .inr ⟨c, z, rfl, rfl, k⟩
theorem s2_nin {K : PySem.W.Frag} : S2 K (fun x y H Q => rIn K true x y H Q ∨ rInS true x y H Q) (fOp ninD) := s2_flat fun H v1 v2 d1 d2 d Q r1 r2 e => by
  unfold ninD at e
  cases q : inB d1 d2 with
  | none =>
    rw [q] at e
    cases e
  | some b =>
    rw [q] at e
    cases e
    refine ⟨rfl, fun k => ?_⟩
    rcases inB_inv r1 r2 q with ⟨p, xs, rfl, q1, q2, q3, rfl⟩ | ⟨c, z, rfl, rfl, rfl⟩
    · exact .inl ⟨p, xs, rfl, q1, q2, q3, k⟩
    · exact .inr ⟨c, z, rfl, rfl, k⟩
theorem op_inS {X : Cx} : OpR X (compareOp .In) (rInS false) := op_in_sign
theorem op_ninS {X : Cx} : OpR X (compareOp .NotIn) (rInS true) := op_notIn_sign
def dinD : D → D → Option D := fun x y => (dinB x y).map D.bl
def dninD : D → D → Option D := fun x y => (dinB x y).map fun b => .bl (!b)
def ixD : N → N → Option N
  | .f (.lst ds), .f (.int i) => (atI ds i).map N.f
  | .f (.tup ds), .f (.int i) => (atI ds i).map N.f
  | .f (.str z), .f (.int i) => if z.length ≤ sizeLine then (atI z.cps.toList i).map fun c => N.f (.str ⟨#[c]⟩) else none
  | .lst _ ns, .f (.int i) => atI ns i
  | .tup _ ns, .f (.int i) => atI ns i
  | _, _ => none
section
variable {X : Cx} {K : PySem.W.Frag} {a b : Expr} {ga gb : G} {pos : Pos}
theorem pd_in (ha : PD X K a ga) (hb : PD X K b gb) (hm : behindInMarks .In b = false := by rfl) : PD X K (.Compare a [.In] [b] pos) (gOp (fOp inD) ga gb) := fun hK => by
  subst hK
  exact pd_cmp (OpR.or op_in_seq op_inS) s2_in ha hb hm rfl
theorem pd_nin (ha : PD X K a ga) (hb : PD X K b gb) (hm : behindInMarks .NotIn b = false := by rfl) : PD X K (.Compare a [.NotIn] [b] pos) (gOp (fOp ninD) ga gb) := fun hK => by
  subst hK
  exact pd_cmp (OpR.or op_notIn_seq op_ninS) s2_nin ha hb hm rfl
theorem pd_din (hu : X.A.units + 1 < cLine) (ha : PD X K a ga) (hb : PD X K b gb) (hm : behindInMarks .In b = false := by rfl) : PD X K (.Compare a [.In] [b] pos) (gOp (fOp dinD) ga gb) := fun hK =>
  pe_imp (pe_cmp (pc_din hu (ha hK) (hb hK)) hm) fun σ H Q h => lg_op (r := fun y x H2 Q => ∃ a o, x = .ref a ∧ DGet H2 a y o ∧ Q (.bl o.isSome) H2) (s2_flat fun H v1 v2 d1 d2 d Q r1 r2 e => by
    unfold dinD at e
    cases q : dinB d1 d2 with
    | none =>
      rw [q] at e
      cases e
    | some b =>
      rw [q] at e
      cases e
      obtain ⟨a, o, h1, h2, rfl⟩ := dinB_inv r1 r2 q
      exact ⟨rfl, fun k => ⟨a, o, h1, h2, k⟩⟩) σ H Q h
theorem pd_dnin (hu : X.A.units + 1 < cLine) (ha : PD X K a ga) (hb : PD X K b gb) (hm : behindInMarks .NotIn b = false := by rfl) : PD X K (.Compare a [.NotIn] [b] pos) (gOp (fOp dninD) ga gb) := fun hK =>
  pe_imp (pe_cmp (pc_dnotin hu (ha hK) (hb hK)) hm) fun σ H Q h => lg_op (r := fun y x H2 Q => ∃ a o, x = .ref a ∧ DGet H2 a y o ∧ Q (.bl (!o.isSome)) H2) (s2_flat fun H v1 v2 d1 d2 d Q r1 r2 e => by
    unfold dninD at e
    cases q : dinB d1 d2 with
    | none =>
      rw [q] at e
      cases e
    | some b =>
      rw [q] at e
      cases e
      obtain ⟨a, o, h1, h2, rfl⟩ := dinB_inv r1 r2 q
      exact ⟨rfl, fun k => ⟨a, o, h1, h2, k⟩⟩) σ H Q h
/-! ### o[i] -/
theorem OwAll.at {F : Hp} {vs : List V} {ns : List N} {S : Cells} {i : Int} {n : N} (h : OwAll K F vs ns S) (e : atI ns i = some n) : ∃ v T, atI vs i = some v ∧ Ow K F v n T ∧ ∀ c ∈ T, c ∈ S := by
  unfold atI at e ⊢
  rw [h.len]
  cases q : L2.ixN ns.length i with
  | none =>
    rw [q] at e
    cases e
  | some j =>
    rw [q] at e
    exact h.get e
theorem s2_ix : S2 K (fun x y H Q => rIxL K x y H Q ∨ (rIxT K x y H Q ∨ rIxS x y H Q)) ixD := by
  refine ⟨fun {F M M0 H v1 v2 n1 n2 n Q} ow w1 w2 ho k => ?_⟩
  unfold ixD at ho
  split at ho
  · rename_i ds i
    cases w2.f
    obtain ⟨a, vs, rfl, h, r⟩ := rp_lst w1.f
    cases q : atI ds i with
    | none =>
      rw [q] at ho
      cases ho
    | some d =>
      rw [q] at ho
      cases ho
      obtain ⟨v, hv, rv⟩ := r.at q
      exact .inl ⟨a, vs, i, v, rfl, rfl, SqL.of (ow.fr _ _ h), hv, k v F H (Same.refl _) ow (Vw.of rv)⟩
  · rename_i ds i
    cases w2.f
    obtain ⟨a, vs, rfl, h, r⟩ := rp_tup w1.f
    cases q : atI ds i with
    | none =>
      rw [q] at ho
      cases ho
    | some d =>
      rw [q] at ho
      cases ho
      obtain ⟨v, hv, rv⟩ := r.at q
      exact .inr (.inl ⟨a, vs, i, v, rfl, rfl, Same.tup ow.fr h, hv, k v F H (Same.refl _) ow (Vw.of rv)⟩)
  · rename_i z i
    cases w2.f
    cases w1.f
    split at ho
    · rename_i hl
      cases q : atI z.cps.toList i with
      | none =>
        rw [q] at ho
        cases ho
      | some c =>
        rw [q] at ho
        cases ho
        exact .inr (.inr ⟨z, i, c, rfl, rfl, hl, q, k _ F H (Same.refl _) ow (Vw.of (.str _))⟩)
    · cases ho
  · rename_i ns i
    cases w2.f
    obtain ⟨S, w1, hs⟩ := w1
    cases w1 with
    | lst wa =>
      obtain ⟨v, T', hv, wv, ht⟩ := wa.at ho
      have hm := ow.mu _ (List.mem_append_left _ (hs _ List.mem_cons_self))
      exact .inl ⟨_, _, i, v, rfl, rfl, SqL.of hm, hv, k v F H (Same.refl _) ow ⟨T', wv, fun c hc => hs c (List.mem_cons_of_mem _ (ht c hc))⟩⟩
  · rename_i ns i
    cases w2.f
    obtain ⟨S, w1, hs⟩ := w1
    cases w1 with
    | tup hT wa =>
      obtain ⟨v, T', hv, wv, ht⟩ := wa.at ho
      exact .inr (.inl ⟨_, _, i, v, rfl, rfl, SqT.of (ow.fr _ _ hT), hv, k v F H (Same.refl _) ow ⟨T', wv, fun c hc => hs c (ht c hc)⟩⟩)
  · cases ho
theorem pd_idx (ha : PD X K a ga) (hb : PD X K b gb) (hs : PlainIx b) : PD X K (.Subscript a b pos) (gOp ixD ga gb) := fun hK => by
  subst hK
  exact pd_ix (IxR.or ix_list (IxR.or ix_tup ix_str)) s2_ix ha hb hs rfl
def nfind (kvs : List (Key × N)) (k : Key) : Option N := (kvs.find? fun kv => decide (kv.1 = k)).map Prod.snd
def dgetD : N → N → Option N
  | .f (.dic kvs), n => match keyD n.toD with
    | some k => (dfind kvs k).map N.f
    | none => none
  | .dic _ kvs, n => match keyD n.toD with
    | some k => nfind kvs k
    | none => none
  | _, _ => none
theorem owDic_find {F : Hp} {k : Key} : ∀ {vs : List (Key × V)} {ns : List (Key × N)} {S : Cells} {n : N}, OwDic K F vs ns S → nfind ns k = some n → ∃ v T, valV vs k = some v ∧ Ow K F v n T ∧ ∀ c ∈ T, c ∈ S
  | _, _, _, n, .nil, h => by cases h
  | (k', v) :: vs, (_, n') :: ns, _, n, .cons a t, h => by
    unfold nfind at h
    unfold valV
    rw [List.find?_cons] at h ⊢
    by_cases hk : k' = k
    · subst hk
      simp only [decide_true] at h ⊢
      cases h
      exact ⟨v, _, rfl, a, fun c hc => List.mem_append_left _ hc⟩
    · simp only [hk, decide_false] at h ⊢
      obtain ⟨u, T, h1, h2, h3⟩ := owDic_find t h
      exact ⟨u, T, h1, h2, fun c hc => List.mem_append_right _ (h3 c hc)⟩
theorem s2_dget : S2 K (fun x y H2 Q => ∃ a v, x = .ref a ∧ DGet H2 a y (some v) ∧ Q v H2) dgetD := by
  refine ⟨fun {F M M0 H v1 v2 n1 n2 n Q} ow w1 w2 ho k => ?_⟩
  unfold dgetD at ho
  split at ho
  · split at ho
    · rename_i kk hk
      cases w1.f with
      | dic h r =>
        rcases rpDic_find (k := kk) r with ⟨e1, e2⟩ | ⟨v, d, e1, e2, rv⟩
        · rw [e2] at ho
          cases ho
        · rw [e2] at ho
          cases ho
          refine ⟨_, v, rfl, ?_, k v F H (Same.refl _) ow (Vw.of rv)⟩
          rw [← e1]
          exact key_get (w2.rp ow) hk (ow.fr _ _ h)
    · cases ho
  · split at ho
    · rename_i kk hk
      obtain ⟨S, w1, hs⟩ := w1
      cases w1 with
      | dic wa =>
        obtain ⟨v, T', hv, wv, ht⟩ := owDic_find wa ho
        have hm := ow.mu _ (List.mem_append_left _ (hs _ List.mem_cons_self))
        refine ⟨_, v, rfl, ?_, k v F H (Same.refl _) ow ⟨T', wv, fun c hc => hs c (List.mem_cons_of_mem _ (ht c hc))⟩⟩
        rw [← hv]
        exact key_get (w2.rp ow) hk hm
    · cases ho
  · cases ho
theorem pd_dget (hu : X.A.units + 1 < cLine) (ha : PD X K a ga) (hb : PD X K b gb) (hs : NoSl b) : PD X K (.Subscript a b pos) (gOp dgetD ga gb) := fun hK =>
  pe_imp (pe_dget hu (ha hK) (hb hK) hs) fun σ H Q h => lg_op s2_dget σ H Q h
end
/-! ### truth, tests -/
abbrev B := Env → Option Bool
def LB (K : PySem.W.Frag) (b : B) : TT := fun σ H Q => ∃ env F M M0 c, Rep K F σ env M ∧ Own F (M ++ M0) H ∧ b env = some c ∧ ∀ F' H', Same F F' → Own F' (M ++ M0) H' → Q c H'
def PB (X : Cx) (K : PySem.W.Frag) (e : Expr) (b : B) : Prop := X.K = K → PT X e (LB K b)
def PBW (X : Cx) (K : PySem.W.Frag) (e : Expr) (b : B) : Prop := X.K = K → PW X e (LB K b)
theorem pw_imp {X : Cx} {e : Expr} {t t' : TT} (h : PW X e t) (i : ∀ σ H Q, t' σ H Q → t σ H Q) : PW X e t' := ⟨fun w pins s σ H Q I q => h.run w pins s σ H Q I (i σ H Q q)⟩
def bV (g : G) : B := fun env => match g env with
  | some (.f (.bl b)) => some b
  | _ => none
def truD : D → Option Bool
  | .non => some false
  | .bl b => some b
  | .int i => some (i != 0)
  | .str y => if y.length ≤ sizeLine then some ((y.length : Int) != 0) else none
  | .lst xs => some (!xs.isEmpty)
  | .tup xs => some (!xs.isEmpty)
  | .dic xs => some (!xs.isEmpty)
  | _ => none
def bT (g : G) : B := fun env => match g env with
  | some n => truD n.toD
  | _ => none
def bAnd (b c : B) : B := fun env => match b env with
  | some true => c env
  | some false => some false
  | none => none
def bOr (b c : B) : B := fun env => match b env with
  | some true => some true
  | some false => c env
  | none => none
def bNot (b : B) : B := fun env => (b env).map not
theorem bV_some {g : G} {env : Env} {c : Bool} (h : bV g env = some c) : g env = some (.f (.bl c)) := by
  unfold bV at h
  split at h
  · cases h
    assumption
  · cases h
section
variable {X : Cx} {K : PySem.W.Frag} {a b e : Expr} {rest : List Expr} {g ga gb : G} {ba bb : B} {pos : Pos}
theorem lb_val : ∀ σ H Q, LB K (bV g) σ H Q → tB (LG K g) σ H Q := fun σ H Q ⟨env, F, M, M0, c, rp, o, hg, k⟩ => by
  refine ⟨env, F, M, M0, _, rp, o, bV_some hg, fun v F' H' s' o' w => ?_⟩
  cases w.f
  exact ⟨c, rfl, k F' H' s' o'⟩
theorem pb_val (h : PD X K e g) (he : ∀ whole, isTrue e X.env whole = (do let v ← whole; standAt e.pos; holding [v] (truthy v)) := by intro _; rfl) : PB X K e (bV g) := fun hK => pt_imp (pt_val (h hK) he) lb_val
theorem tru_of {H : Hp} {v : V} {d : D} {c : Bool} (r : Rp K H v d) (h : truD d = some c) : TruV K v H c := by
  unfold truD at h
  split at h
  · cases h; cases r; rfl
  · cases h; cases r; rfl
  · cases h; cases r; rfl
  · split at h
    · cases h; cases r; exact ⟨by assumption, rfl⟩
    · cases h
  · cases h
    obtain ⟨a, vs, rfl, hh, ra⟩ := rp_lst r
    refine .inl ⟨vs, SqL.of hh, ?_⟩
    cases ra <;> rfl
  · cases h
    obtain ⟨a, vs, rfl, hh, ra⟩ := rp_tup r
    refine .inr (.inl ⟨vs, hh, ?_⟩)
    cases ra <;> rfl
  · cases h
    cases r with
    | dic hh ra =>
      refine .inr (.inr ⟨_, hh, ?_⟩)
      cases ra <;> rfl
  · cases h
theorem pb_tru (h : PD X K e g) (he : ∀ whole, isTrue e X.env whole = (do let v ← whole; standAt e.pos; holding [v] (truthy v)) := by intro _; rfl) : PB X K e (bT g) := fun hK => by
  subst hK
  refine pt_imp (pt_truth (h rfl) he) fun σ H Q ⟨env, F, M, M0, c, rp, o, hg, k⟩ => ?_
  unfold bT at hg
  split at hg
  · rename_i n hn
    exact ⟨env, F, M, M0, n, rp, o, hn, fun v F' H' s' o' w => ⟨c, tru_of (w.rp o') hg, k F' H' s' o'⟩⟩
  · cases hg
theorem lb_test {r : R2} {o : N → N → Option N} (s : S2 K r o) : ∀ σ H Q, LB K (bV (gOp o ga gb)) σ H Q → tTest (tOp r (LG K ga) (LG K gb)) σ H Q := fun σ H Q h => by
  obtain ⟨env, F, M, M0, c, rp, o, hg, k⟩ := h
  refine lg_op s σ H _ ⟨env, F, M, M0, _, rp, o, bV_some hg, fun v F' H' s' o' w => ?_⟩
  cases w.f
  exact ⟨c, rfl, k F' H' s' o'⟩
theorem pb_cmp {op : CmpOp} {r : R2} {o : N → N → Option N} (h : OpR X (compareOp op) r) (s : S2 K r o) (ha : PD X K a ga) (hb : PD X K b gb) (hm : behindInMarks op b = false) : PB X K (.Compare a [op] [b] pos) (bV (gOp o ga gb)) := fun hK => pt_imp (pt_cmpR h (ha hK) (hb hK) hm) (lb_test s)
theorem pb_not (h : PB X K a ba) : PB X K (.UnaryOp .Not a pos) (bNot ba) := fun hK => pt_imp (pt_not (h hK)) fun σ H Q ⟨env, F, M, M0, c, rp, o, hg, k⟩ => by
  unfold bNot at hg
  cases q : ba env with
  | none =>
    rw [q] at hg
    cases hg
  | some d =>
    rw [q] at hg
    cases hg
    exact ⟨env, F, M, M0, d, rp, o, q, k⟩
theorem pbw_and1 (h : PB X K a ba) : PBW X K (.BoolOp .And [a] pos) ba := fun hK => pw_and1 (h hK)
theorem pbw_or1 (h : PB X K a ba) : PBW X K (.BoolOp .Or [a] pos) ba := fun hK => pw_or1 (h hK)
theorem pbw_and (h : PB X K a ba) (t : PBW X K (.BoolOp .And (b :: rest) pos) bb) : PBW X K (.BoolOp .And (a :: b :: rest) pos) (bAnd ba bb) := fun hK => pw_imp (pw_and (h hK) (t hK)) fun σ H Q ⟨env, F, M, M0, c, rp, o, hg, k⟩ => by
  unfold bAnd at hg
  split at hg
  · exact ⟨env, F, M, M0, true, rp, o, by assumption, fun F' H' s' o' => ⟨env, F', M, M0, c, rp.mono s', o', hg, fun F2 H2 s2 o2 => k F2 H2 (s'.trans s2) o2⟩⟩
  · cases hg
    exact ⟨env, F, M, M0, false, rp, o, by assumption, fun F' H' s' o' => k F' H' s' o'⟩
  · cases hg
theorem pbw_or (h : PB X K a ba) (t : PBW X K (.BoolOp .Or (b :: rest) pos) bb) : PBW X K (.BoolOp .Or (a :: b :: rest) pos) (bOr ba bb) := fun hK => pw_imp (pw_or (h hK) (t hK)) fun σ H Q ⟨env, F, M, M0, c, rp, o, hg, k⟩ => by
  unfold bOr at hg
  split at hg
  · cases hg
    exact ⟨env, F, M, M0, true, rp, o, by assumption, fun F' H' s' o' => k F' H' s' o'⟩
  · exact ⟨env, F, M, M0, false, rp, o, by assumption, fun F' H' s' o' => ⟨env, F', M, M0, c, rp.mono s', o', hg, fun F2 H2 s2 o2 => k F2 H2 (s'.trans s2) o2⟩⟩
  · cases hg
theorem pb_w (h : PBW X K e ba) : PB X K e ba := fun hK => (h hK).pt
/-! as values -/
def gAnd (a b : G) : G := fun env => match a env with
  | some (.f (.bl true)) => b env
  | some (.f (.bl false)) => some (.f (.bl false))
  | _ => none
def gOr (a b : G) : G := fun env => match a env with
  | some (.f (.bl true)) => some (.f (.bl true))
  | some (.f (.bl false)) => b env
  | _ => none
def gNot (a : G) : G := fun env => match a env with
  | some (.f (.bl b)) => some (.f (.bl (!b)))
  | _ => none
theorem pd_one {op} (h : PD X K a ga) : PD X K (.BoolOp op [a] pos) ga := fun hK => pe_one (h hK)
theorem pd_andV (ha : PD X K a ga) (hb : PD X K (.BoolOp .And (b :: rest) pos) gb) : PD X K (.BoolOp .And (a :: b :: rest) pos) (gAnd ga gb) := fun hK => pe_imp (pe_and (ha hK) (hb hK)) fun σ H Q ⟨env, F, M, M0, n, rp, o, hg, k⟩ => by
  unfold gAnd at hg
  split at hg
  · rename_i q
    refine ⟨env, F, M, M0, _, rp, o, q, fun v F' H' s' o' w => ?_⟩
    cases w.f
    exact ⟨true, rfl, ⟨env, F', M, M0, n, rp.mono s', o', hg, fun v F2 H2 s2 o2 w2 => k v F2 H2 (s'.trans s2) o2 w2⟩⟩
  · rename_i q
    cases hg
    refine ⟨env, F, M, M0, _, rp, o, q, fun v F' H' s' o' w => ?_⟩
    cases w.f
    exact ⟨false, rfl, k _ F' H' s' o' w⟩
  · cases hg
theorem pd_orV (ha : PD X K a ga) (hb : PD X K (.BoolOp .Or (b :: rest) pos) gb) : PD X K (.BoolOp .Or (a :: b :: rest) pos) (gOr ga gb) := fun hK => pe_imp (pe_or (ha hK) (hb hK)) fun σ H Q ⟨env, F, M, M0, n, rp, o, hg, k⟩ => by
  unfold gOr at hg
  split at hg
  · rename_i q
    cases hg
    refine ⟨env, F, M, M0, _, rp, o, q, fun v F' H' s' o' w => ?_⟩
    cases w.f
    exact ⟨true, rfl, k _ F' H' s' o' w⟩
  · rename_i q
    refine ⟨env, F, M, M0, _, rp, o, q, fun v F' H' s' o' w => ?_⟩
    cases w.f
    exact ⟨false, rfl, ⟨env, F', M, M0, n, rp.mono s', o', hg, fun v F2 H2 s2 o2 w2 => k v F2 H2 (s'.trans s2) o2 w2⟩⟩
  · cases hg
theorem pd_notV (ha : PD X K a ga) : PD X K (.UnaryOp .Not a pos) (gNot ga) := fun hK => pe_imp (pe_not (ha hK)) fun σ H Q ⟨env, F, M, M0, n, rp, o, hg, k⟩ => by
  unfold gNot at hg
  split at hg
  · rename_i c q
    cases hg
    refine ⟨env, F, M, M0, _, rp, o, q, fun v F' H' s' o' w => ?_⟩
    cases w.f
    exact ⟨c, rfl, k _ F' H' s' o' (Vw.of (.bl _))⟩
  · cases hg
def gIf (c : B) (a b : G) : G := fun env => match c env with
  | some true => a env
  | some false => b env
  | none => none
theorem pd_if (hc : PB X K e ba) (ha : PD X K a ga) (hb : PD X K b gb) : PD X K (.IfExp e a b pos) (gIf ba ga gb) := fun hK => pe_imp (pe_ifExp (hc hK) (ha hK) (hb hK)) fun σ H Q ⟨env, F, M, M0, n, rp, o, hg, k⟩ => by
  unfold gIf at hg
  split at hg
  · exact ⟨env, F, M, M0, true, rp, o, by assumption, fun F' H' s' o' => ⟨env, F', M, M0, n, rp.mono s', o', hg, fun v F2 H2 s2 o2 w => k v F2 H2 (s'.trans s2) o2 w⟩⟩
  · exact ⟨env, F, M, M0, false, rp, o, by assumption, fun F' H' s' o' => ⟨env, F', M, M0, n, rp.mono s', o', hg, fun v F2 H2 s2 o2 w => k v F2 H2 (s'.trans s2) o2 w⟩⟩
  · cases hg
end
end Pu

namespace Pu
open PySem PySem.Spec PyProof.Rows L2 Ed
/-! ### new containers -/
/-- a new container with kept items, laid at a -/
def ownD (a : Addr) : D → N
  | .lst ds => ol a ds
  | .dic kvs => .dic a (kvs.map fun kv => (kv.1, .f kv.2))
  | d => .f d
theorem toDk_f : ∀ (ds : List (Key × D)), toDk (ds.map fun kv => (kv.1, N.f kv.2)) = ds
  | [] => rfl
  | (k, d) :: ds => by
    show (k, d) :: toDk (ds.map fun kv => (kv.1, N.f kv.2)) = _
    rw [toDk_f ds]
theorem ownD_toD (a : Addr) (d : D) : (ownD a d).toD = d := by
  cases d with
  | lst ds => exact ol_toD a ds
  | dic kvs => exact congrArg D.dic (toDk_f kvs)
  | _ => rfl
def LN (K : PySem.W.Frag) (g : G) : TE := fun σ H Q => ∃ env F M M0 d, Rep K F σ env M ∧ Own F (M ++ M0) H ∧ g env = some (.f d) ∧ ∀ a v S F' H', Same F F' → Own F' (S ++ (M ++ M0)) H' → Ow K F' v (ownD a d) S → Q v H'
def PN (X : Cx) (K : PySem.W.Frag) (e : Expr) (g : G) : Prop := X.K = K → PE X e (LN K g)
section
variable {X : Cx} {K : PySem.W.Frag} {e a b : Expr} {es : List Expr} {g ga gb : G} {gs : List G} {pos p : Pos}
def gFz (g : G) : G := fun env => match g env with
  | some (.f d) => some (.f d)
  | _ => none
theorem pn_pd (h : PN X K e g) : PD X K e (gFz g) := fun hK => pe_imp (h hK) fun σ H Q ⟨env, F, M, M0, n, rp, o, hg, k⟩ => by
  unfold gFz at hg
  split at hg
  · rename_i d hd
    cases hg
    refine ⟨env, F, M, M0, d, rp, o, hd, fun a v S F' H' s' o' w => ?_⟩
    obtain ⟨F2, s2, o2, r2⟩ := ow_fz o' w
    rw [ownD_toD] at r2
    exact k v F2 H' (s'.trans s2) o2 (Vw.of r2)
  · cases hg
/-- the values of kept nodes -/
def fds : List N → Option (List D) := kidsL.fds
theorem vwAll_fds {F : Hp} {M : Cells} : ∀ {vs : List V} {ns : List N} {ds : List D}, VwAll K F M vs ns → fds ns = some ds → RpAll K F vs ds
  | _, _, ds, .nil, h => by
    cases h
    exact .nil
  | _, n :: ns, ds, .cons a t, h => by
    have e := fds_inv h
    cases ds with
    | nil => cases e
    | cons d ds =>
      have e1 := (List.cons.inj e).1
      subst e1
      have e2 := (List.cons.inj e).2
      refine .cons a.f (vwAll_fds t ?_)
      rw [e2]
      exact kids_ol 0 ds
def mkT (ns : List N) : Option N := match fds ns with
  | some ds => if ds.length ≤ 1000 then some (.f (.tup ds)) else none
  | none => none
def mkL (ns : List N) : Option N := match fds ns with
  | some ds => if ds.length ≤ 1000 then some (.f (.lst ds)) else none
  | none => none
theorem pd_tup {x1} (h : PAs X K es gs) : PD X K (.Tuple es x1 pos) (gArgs mkT gs) := fun hK => pe_imp (pe_tup (h hK)) fun σ H Q ⟨env, F, M, M0, n, rp, o, hg, k⟩ => by
  obtain ⟨ns, h1, h2⟩ := gArgs_some hg
  unfold mkT at h2
  split at h2
  · rename_i ds hd
    split at h2
    · rename_i hl
      cases h2
      refine ⟨env, F, M, M0, ns, rp, o, h1, fun vs F' H' s' o' w => ?_⟩
      have r := vwAll_fds w hd
      refine ⟨by rw [r.len]; exact sz1 hl, fun p hp => ?_⟩
      have n := o'.free hp
      exact k _ _ _ (s'.trans (same_upd n)) (o'.newF hp) (Vw.of (.tup (SqT.of upd_same) (r.mono (same_upd n))))
    · cases h2
  · cases h2
theorem pn_lst (h : PAs X K es gs) : PN X K (.List es pos) (gArgs mkL gs) := fun hK => pe_imp (pe_lst (h hK)) fun σ H Q ⟨env, F, M, M0, n, rp, o, hg, k⟩ => by
  obtain ⟨ns, h1, h2⟩ := gArgs_some hg
  unfold mkL at h2
  split at h2
  · rename_i ds hd
    split at h2
    · rename_i hl
      cases h2
      refine ⟨env, F, M, M0, ns, rp, o, h1, fun vs F' H' s' o' w => ?_⟩
      have r := vwAll_fds w hd
      refine ⟨by rw [r.len]; exact sz1 hl, fun p hp => ?_⟩
      exact k p _ [_] _ _ s' (o'.newM hp) (ow_ol r)
    · cases h2
  · cases h2
/-- a new list of vs -/
theorem new_ol {F F' : Hp} {M : Cells} {H : Hp} {vs : List V} {ds : List D} {Q : VK} (o : Own F' M H) (s : Same F F') (r : RpAll K F' vs ds) (k : ∀ a v S F' H', Same F F' → Own F' (S ++ M) H' → Ow K F' v (ownD a (.lst ds)) S → Q v H') : ∀ p, H p = none → Q (.ref p) (upd H p (.lst vs)) := fun p hp =>
  k p _ [_] _ _ s (o.newM hp) (ow_ol r)
/-! operators that make a list -/
def gcat : N → N → Option N := fun x y => match kidsL x, kidsL y with
  | some ds, some es => if ds.length + es.length ≤ sizeLine then some (.f (.lst (ds ++ es))) else none
  | _, _ => none
theorem pn_cat (ha : PD X K a ga) (hb : PD X K b gb) : PN X K (.BinOp a .Add b pos) (gOp gcat ga gb) := fun hK => pe_imp (pe_op op_cat (ha hK) (hb hK)) fun σ H Q ⟨env, F, M, M0, n, rp, o, hg, k⟩ => by
  obtain ⟨x, y, h1, h2, h3⟩ := gOp_some hg
  unfold gcat at h3
  split at h3
  · rename_i ds es q1 q2
    split at h3
    · rename_i hl
      cases h3
      refine ⟨env, F, M, M0, x, rp, o, h1, fun v F1 H1 s1 o1 w1 => ⟨env, F1, M, M0, y, rp.mono s1, o1, h2, fun u F2 H2 s2 o2 w2 => ?_⟩⟩
      obtain ⟨a1, vs, rfl, e1, r1⟩ := (w1.mono s2).kids o2 (fun c hc => List.mem_append_left _ hc) q1
      obtain ⟨a2, us, rfl, e2, r2⟩ := w2.kids o2 (fun c hc => List.mem_append_left _ hc) q2
      exact ⟨a1, a2, vs, us, rfl, rfl, e1, e2, by rw [r1.len, r2.len]; exact hl, new_ol o2 (s1.trans s2) (r1.app r2) k⟩
    · cases h3
  · cases h3
def glist : List N → Option N
  | [n] => match kidsL n with
    | some ds => some (.f (.lst ds))
    | none => match n with
      | .f (.tup ds) => some (.f (.lst ds))
      | _ => none
  | _ => none
theorem pn_list (hm : X.mg "list" = none) (ha : PAs X K [e] [g]) (hg : Gl X "list" := by rfl) (he : starEach [e] X.env = (false, eval e X.env) :: starEach [] X.env := by rfl) : PN X K (.Call (.Name "list" p) [e] [] pos) (gArgs glist [g]) := fun hK => by
  subst hK
  refine pe_imp (pe_callTy c_listOf hg hm (by decide +kernel) (ha rfl) (by decide) (by decide) he rfl) fun σ H Q ⟨env, F, M, M0, n, rp, o, hg, k⟩ => ?_
  obtain ⟨ns, h1, h2⟩ := gArgs_some hg
  refine ⟨env, F, M, M0, ns, rp, o, h1, fun vs F' H' s' o' w => ?_⟩
  unfold glist at h2
  split at h2
  · cases w with
    | cons w1 w2 =>
      cases w2
      split at h2
      · rename_i ds q
        cases h2
        obtain ⟨a1, vs, rfl, e1, r1⟩ := w1.kids o' (fun c hc => List.mem_append_left _ hc) q
        exact ⟨a1, vs, rfl, .inl (SqL.of e1), new_ol o' s' r1 k⟩
      · split at h2
        · cases h2
          obtain ⟨a1, vs, rfl, e1, r1⟩ := rp_tup w1.f
          exact ⟨a1, vs, rfl, .inr (Same.tup o'.fr e1), new_ol o' s' r1 k⟩
        · cases h2
  · cases h2
def gtuple : List N → Option N
  | [n] => match kidsL n with
    | some ds => some (.f (.tup ds))
    | none => match n with
      | .f (.tup ds) => some (.f (.tup ds))
      | _ => none
  | _ => none
theorem pd_tuple (hm : X.mg "tuple" = none) (ha : PAs X K [e] [g]) (hg : Gl X "tuple" := by rfl) (he : starEach [e] X.env = (false, eval e X.env) :: starEach [] X.env := by rfl) : PD X K (.Call (.Name "tuple" p) [e] [] pos) (gArgs gtuple [g]) := fun hK => by
  subst hK
  refine pe_imp (pe_callTy c_tupleOf hg hm (by decide +kernel) (ha rfl) (by decide) (by decide) he rfl) fun σ H Q ⟨env, F, M, M0, n, rp, o, hg, k⟩ => ?_
  obtain ⟨ns, h1, h2⟩ := gArgs_some hg
  refine ⟨env, F, M, M0, ns, rp, o, h1, fun vs F' H' s' o' w => ?_⟩
  unfold gtuple at h2
  split at h2
  · cases w with
    | cons w1 w2 =>
      cases w2
      split at h2
      · rename_i ds q
        cases h2
        obtain ⟨a1, vs, rfl, e1, r1⟩ := w1.kids o' (fun c hc => List.mem_append_left _ hc) q
        refine ⟨a1, vs, rfl, .inl ⟨SqL.of e1, fun l hl => ?_⟩⟩
        have n := o'.free hl
        exact k _ _ _ (s'.trans (same_upd n)) (o'.newF hl) (Vw.of (.tup (SqT.of upd_same) (r1.mono (same_upd n))))
      · split at h2
        · cases h2
          have w := w1
          obtain ⟨a1, vs, rfl, e1, r1⟩ := rp_tup w1.f
          exact ⟨a1, vs, rfl, .inr ⟨Same.tup o'.fr e1, k _ _ _ s' o' w⟩⟩
        · cases h2
  · cases h2
/-! ### slices -/
abbrev GO := Env → Option (Option Int)
def LO (K : PySem.W.Frag) (g : GO) : TO := fun σ H Q => ∃ env F M M0 n, Rep K F σ env M ∧ Own F (M ++ M0) H ∧ g env = some n ∧ ∀ F' H', Same F F' → Own F' (M ++ M0) H' → Q n H'
def POp (X : Cx) (K : PySem.W.Frag) (e : Option Expr) (g : GO) : Prop := X.K = K → PO X e (LO K g)
def goN : GO := fun _ => some none
def goS (g : G) : GO := fun env => match g env with
  | some (.f (.int i)) => some (some i)
  | _ => none
theorem po_imp {e : Option Expr} {t t' : TO} (h : PO X e t) (i : ∀ σ H Q, t' σ H Q → t σ H Q) : PO X e t' := ⟨fun pins s σ H Q I q => h.run pins s σ H Q I (i σ H Q q)⟩
theorem po_n : POp X K none goN := fun _ => po_imp po_none fun σ H Q ⟨env, F, M, M0, n, rp, o, hg, k⟩ => by
  cases hg
  exact k F H (Same.refl _) o
theorem po_s (h : PD X K e g) : POp X K (some e) (goS g) := fun hK => po_imp (po_some (h hK)) fun σ H Q ⟨env, F, M, M0, n, rp, o, hg, k⟩ => by
  unfold goS at hg
  split at hg
  · rename_i i q
    cases hg
    refine ⟨env, F, M, M0, _, rp, o, q, fun v F' H' s' o' w => ?_⟩
    cases w.f
    exact ⟨i, rfl, k F' H' s' o'⟩
  · cases hg
def gSl (o : N → Option Int → Option Int → Option N) (g : G) (lo hi : GO) : G := fun env => match g env, lo env, hi env with
  | some n, some l, some h => o n l h
  | _, _, _ => none
theorem gSl_some {o : N → Option Int → Option Int → Option N} {lo hi : GO} {env : Env} {n : N} (h : gSl o g lo hi env = some n) : ∃ m l u, g env = some m ∧ lo env = some l ∧ hi env = some u ∧ o m l u = some n := by
  unfold gSl at h
  split at h
  · exact ⟨_, _, _, by assumption, by assumption, by assumption, h⟩
  · cases h
def slL (n : N) (lo hi : Option Int) : Option N := (kidsL n).map fun ds => .f (.lst (cutL ds lo hi))
def slS (n : N) (lo hi : Option Int) : Option N := match n with
  | .f (.str z) => if z.length ≤ sizeLine then some (.f (.str (cutS z lo hi))) else none
  | _ => none
theorem pn_sl {lo hi : Option Expr} {gl gh : GO} {p2 : Pos} (ha : PD X K a ga) (h1 : POp X K lo gl) (h2 : POp X K hi gh) : PN X K (.Subscript a (.Slice lo hi none p2) pos) (gSl slL ga gl gh) := fun hK => by
  subst hK
  refine pe_imp (pe_slice sl_list (ha rfl) (h1 rfl) (h2 rfl)) fun σ H Q ⟨env, F, M, M0, n, rp, o, hg, k⟩ => ?_
  obtain ⟨m, l, u, q1, q2, q3, q4⟩ := gSl_some hg
  unfold slL at q4
  cases q5 : kidsL m with
  | none =>
    rw [q5] at q4
    cases q4
  | some ds =>
    rw [q5] at q4
    cases q4
    refine ⟨env, F, M, M0, m, rp, o, q1, fun v F1 H1 s1 o1 w1 => ⟨env, F1, M, M0, l, rp.mono s1, o1, q2, fun F2 H2 s2 o2 => ⟨env, F2, M, M0, u, rp.mono (s1.trans s2), o2, q3, fun F3 H3 s3 o3 => ?_⟩⟩⟩
    obtain ⟨a1, vs, rfl, e1, r1⟩ := (w1.mono (s2.trans s3)).kids o3 (fun c hc => List.mem_append_left _ hc) q5
    exact ⟨a1, vs, rfl, SqL.of e1, new_ol o3 (s1.trans (s2.trans s3)) (r1.cut l u) k⟩
theorem pd_slS {lo hi : Option Expr} {gl gh : GO} {p2 : Pos} (ha : PD X K a ga) (h1 : POp X K lo gl) (h2 : POp X K hi gh) : PD X K (.Subscript a (.Slice lo hi none p2) pos) (gSl slS ga gl gh) := fun hK => by
  refine pe_imp (pe_slice sl_str (ha hK) (h1 hK) (h2 hK)) fun σ H Q ⟨env, F, M, M0, n, rp, o, hg, k⟩ => ?_
  obtain ⟨m, l, u, q1, q2, q3, q4⟩ := gSl_some hg
  unfold slS at q4
  split at q4
  · split at q4
    · rename_i z hl
      cases q4
      refine ⟨env, F, M, M0, _, rp, o, q1, fun v F1 H1 s1 o1 w1 => ⟨env, F1, M, M0, l, rp.mono s1, o1, q2, fun F2 H2 s2 o2 => ⟨env, F2, M, M0, u, rp.mono (s1.trans s2), o2, q3, fun F3 H3 s3 o3 => ?_⟩⟩⟩
      cases w1.f
      exact ⟨z, rfl, hl, k _ F3 H3 (s1.trans (s2.trans s3)) o3 (Vw.of (.str _))⟩
    · cases q4
  · cases q4
/-- xs[::-1] -/
def gRev : N → Option N := fun n => (kidsL n).map fun ds => .f (.lst ds.reverse)
end
end Pu

/-! ## Pu: expressions with effects on the slots, calls -/
namespace Pu
open PySem PySem.Spec PyProof.Rows L2 Ed
abbrev WP := Str → List (Str × D) → Env → Prop
abbrev FX := Env → (Sl → Env → Prop) → WP → Prop
def XRep (K : PySem.W.Frag) (F : Hp) (cls : Value) (d : Option Addr) (C : Str) (fs : List (Str × D)) : Prop := cls = .ref (He.ga K C) ∧ ∃ a fvs, d = some a ∧ F a = some (.xd fvs) ∧ RpFs K F fvs fs
def WFit (K : PySem.W.Frag) (F : Hp) (M0 : Cells) (W : WX) (w : WP) : Prop := ∀ C fs env' cls d σ' F' M' H', w C fs env' → Same F F' → XRep K F' cls d C fs → Rep K F' σ' env' M' → Own F' (M' ++ M0) H' → W cls d σ' H'
theorem WFit.up {K : PySem.W.Frag} {F F' : Hp} {M0 : Cells} {W : WX} {w : WP} (s : Same F F') (h : WFit K F M0 W w) : WFit K F' M0 W w := fun C fs env' cls d σ' F2 M' H' a b c e f => h C fs env' cls d σ' F2 M' H' a (s.trans b) c e f
/-- more is owned beside -/
theorem WFit.more {K : PySem.W.Frag} {F : Hp} {M0 S : Cells} {W : WX} {w : WP} (h : WFit K F M0 W w) : WFit K F (S ++ M0) W w := fun C fs env' cls d σ' F2 M' H' a b c e f => h C fs env' cls d σ' F2 M' H' a b c e (f.sub ((List.Sublist.refl M').append (List.sublist_append_right S M0)))
def XFit (K : PySem.W.Frag) (F : Hp) (M0 : Cells) (σ : L2.St) (Q : VK) (q : Sl → Env → Prop) : Prop := ∀ r env' v S F' M' H', q r env' → Same F F' → SlotR K F' v r S → Rep K F' σ env' M' → Own F' (S ++ (M' ++ M0)) H' → Q v H'
def LX (K : PySem.W.Frag) (W : WX) (f : FX) : TE := fun σ H Q => ∃ env F M M0 q w, Rep K F σ env M ∧ Own F (M ++ M0) H ∧ f env q w ∧ XFit K F M0 σ Q q ∧ WFit K F M0 W w
def PX (X : Cx) (K : PySem.W.Frag) (W : WX) (e : Expr) (f : FX) : Prop := X.K = K → PE X e (LX K W f)
def Sl.fzD : Sl → Option D
  | .fz d => some d
  | .ow n => some n.toD
  | .cu _ _ => none
theorem slot_fz {K : PySem.W.Frag} {F H : Hp} {S M : Cells} {v : V} {r : Sl} {d : D} (o : Own F (S ++ M) H) (h : SlotR K F v r S) (hd : r.fzD = some d) : ∃ F', Same F F' ∧ Own F' M H ∧ Rp K F' v d := by
  cases r with
  | fz d' =>
    cases hd
    obtain ⟨rfl, h⟩ := h
    exact ⟨F, Same.refl _, o, h⟩
  | ow n =>
    cases hd
    exact ow_fz o h
  | cu u c => cases hd
def xP (g : G) : FX := fun env q _ => ∃ d, g env = some (.f d) ∧ q (.fz d) env
def xN (g : G) : FX := fun env q _ => ∃ d, g env = some (.f d) ∧ ∀ a, q (.ow (ownD a d)) env
section
variable {X : Cx} {K : PySem.W.Frag} {W : WX} {e a b : Expr} {es : List Expr} {g ga gb : G} {f fa fb : FX} {pos p : Pos}
theorem px_p (h : PD X K e g) : PX X K W e (xP g) := fun hK => pe_imp (h hK) fun σ H Q ⟨env, F, M, M0, q, w, rp, o, ⟨d, hg, hq⟩, k, kw⟩ =>
  ⟨env, F, M, M0, _, rp, o, hg, fun v F' H' s' o' w' => k _ env v [] F' M H' hq s' ⟨rfl, w'.f⟩ (rp.mono s') o'⟩
theorem px_n (h : PN X K e g) : PX X K W e (xN g) := fun hK => pe_imp (h hK) fun σ H Q ⟨env, F, M, M0, q, w, rp, o, ⟨n, hg, hq⟩, k, kw⟩ =>
  ⟨env, F, M, M0, _, rp, o, hg, fun a v S F' H' s' o' w' => k _ env v S F' M H' (hq a) s' w' (rp.mono s') o'⟩
/-- then, with the value frozen -/
def xD (f : FX) (env : Env) (w : WP) (k : D → Env → Prop) : Prop := f env (fun r env' => ∃ d, r.fzD = some d ∧ k d env') w
def xOp (o : N → N → Option N) (fa fb : FX) : FX := fun env q w => xD fa env w fun d1 env1 => xD fb env1 w fun d2 env2 => ∃ d, o (.f d1) (.f d2) = some (.f d) ∧ q (.fz d) env2
/-- the left side a name, looked at behind the right side -/
def xOpV (o : N → N → Option N) (i : Nat) (fb : FX) : FX := fun env q w => (∃ n0, env.node i = some n0) ∧ xD fb env w fun d2 env2 => ∃ n d, env2.node i = some n ∧ o n (.f d2) = some (.f d) ∧ q (.fz d) env2
def xUn (o : N → Option N) (fa : FX) : FX := fun env q w => xD fa env w fun d1 env1 => ∃ d, o (.f d1) = some (.f d) ∧ q (.fz d) env1
theorem lx_d {σ : L2.St} {H : Hp} {env : Env} {F : Hp} {M M0 : Cells} {w : WP} {R : VK} {k : D → Env → Prop} (rp : Rep K F σ env M) (o : Own F (M ++ M0) H) (h : xD f env w k) (kw : WFit K F M0 W w)
    (hk : ∀ d env' v F' M' H', k d env' → Same F F' → Rp K F' v d → Rep K F' σ env' M' → Own F' (M' ++ M0) H' → R v H') : LX K W f σ H R :=
  ⟨env, F, M, M0, _, w, rp, o, h, fun r env' v S F' M' H' ⟨d, hd, q⟩ s' sl rp' o' => by
    obtain ⟨F2, s2, o2, r2⟩ := slot_fz o' sl hd
    exact hk d env' v F2 M' H' q (s'.trans s2) r2 (rp'.mono s2) o2, kw⟩
theorem lx_op {r : R2} {o : N → N → Option N} (s : S2 K r o) : ∀ σ H Q, LX K W (xOp o fa fb) σ H Q → tOp r (LX K W fa) (LX K W fb) σ H Q := fun σ H Q ⟨env, F, M, M0, q, w, rp, ow, h, k, kw⟩ =>
  lx_d rp ow h kw fun d1 env1 v1 F1 M1 H1 h1 s1 r1 rp1 o1 => lx_d rp1 o1 h1 (kw.up s1) fun d2 env2 v2 F2 M2 H2 ⟨d, hd, hq⟩ s2 r2 rp2 o2 =>
    s.run (M := M2) (M0 := M0) o2 (Vw.of (r1.mono s2)) (Vw.of r2) hd fun v F' H' s' o' w' => k _ env2 v [] F' M2 H' hq (s1.trans (s2.trans s')) ⟨rfl, w'.f⟩ (rp2.mono s') o'
theorem lx_opV {r : R2} {o : N → N → Option N} {i : Nat} (s : S2 K r o) : ∀ σ H Q, LX K W (xOpV o i fb) σ H Q → tOp r (tVar i) (LX K W fb) σ H Q := fun σ H Q ⟨env, F, M, M0, q, w, rp, ow, ⟨⟨n0, hn0⟩, h⟩, k, kw⟩ => by
  obtain ⟨v1, hv1, _⟩ := rp.look hn0
  refine ⟨v1, hv1, lx_d rp ow h kw fun d2 env2 v2 F2 M2 H2 ⟨n, d, hn, hd, hq⟩ s2 r2 rp2 o2 => ?_⟩
  obtain ⟨u, hu, wu⟩ := rp2.look hn
  rw [hv1] at hu
  cases hu
  exact s.run (M := M2) (M0 := M0) o2 wu (Vw.of r2) hd fun v F' H' s' o' w' => k _ env2 v [] F' M2 H' hq (s2.trans s') ⟨rfl, w'.f⟩ (rp2.mono s') o'
theorem lx_un {r : V → Hp → VK → Prop} {o : N → Option N} (s : S1 K r o) : ∀ σ H Q, LX K W (xUn o fa) σ H Q → tUn r (LX K W fa) σ H Q := fun σ H Q ⟨env, F, M, M0, q, w, rp, ow, h, k, kw⟩ =>
  lx_d rp ow h kw fun d1 env1 v1 F1 M1 H1 ⟨d, hd, hq⟩ s1 r1 rp1 o1 => s.run (M := M1) (M0 := M0) o1 (Vw.of r1) hd fun v F' H' s' o' w' => k _ env1 v [] F' M1 H' hq (s1.trans s') ⟨rfl, w'.f⟩ (rp1.mono s') o'
theorem px_bin {op : Operator} {r : R2} {o : N → N → Option N} (h : OpR X (binaryOp op) r) (s : S2 K r o) (ha : PX X K W a fa) (hb : PX X K W b fb) : PX X K W (.BinOp a op b pos) (xOp o fa fb) := fun hK => pe_imp (pe_op h (ha hK) (hb hK)) (lx_op s)
theorem px_cmp {op : CmpOp} {r : R2} {o : N → N → Option N} (h : OpR X (compareOp op) r) (s : S2 K r o) (ha : PX X K W a fa) (hb : PX X K W b fb) (hm : behindInMarks op b = false) : PX X K W (.Compare a [op] [b] pos) (xOp o fa fb) := fun hK => pe_imp (pe_cmpR h (ha hK) (hb hK) hm) (lx_op s)
theorem px_add (ha : PX X K W a fa) (hb : PX X K W b fb) : PX X K W (.BinOp a .Add b pos) (xOp (fOp addD) fa fb) := px_bin (OpR.or op_add o_catS) s2_add ha hb
theorem px_sub (ha : PX X K W a fa) (hb : PX X K W b fb) : PX X K W (.BinOp a .Sub b pos) (xOp (fOp subD) fa fb) := px_bin op_sub (s2_int (g := fun i j => .int (i - j)) fun _ _ => rfl) ha hb
theorem px_mul (ha : PX X K W a fa) (hb : PX X K W b fb) : PX X K W (.BinOp a .Mult b pos) (xOp (fOp mulD) fa fb) := px_bin op_mul (s2_intC (C := fun i j => (-(2 ^ 64) < i ∧ i < 2 ^ 64) ∨ (-(2 ^ 64) < j ∧ j < 2 ^ 64)) (g := fun i j => .int (i * j)) (fun i j h => h) fun _ _ => rfl) ha hb
theorem px_mod (ha : PX X K W a fa) (hb : PX X K W b fb) : PX X K W (.BinOp a .Mod b pos) (xOp (fOp modD) fa fb) := px_bin op_mod (s2_intC (g := fun i j => .int (i % j)) (fun i j h => h) fun _ _ => rfl) ha hb
theorem px_eq (hu : X.A.units + 64 < cLine) (ha : PX X K W a fa) (hb : PX X K W b fb) : PX X K W (.Compare a [.Eq] [b] pos) (xOp (fOp eqD) fa fb) := fun hK => by
  subst hK
  exact px_cmp (OpR.or op_eq (op_eqD hu)) s2_eq ha hb (nobehind _ (by decide) (by decide)) rfl
theorem px_ne (hu : X.A.units + 64 < cLine) (ha : PX X K W a fa) (hb : PX X K W b fb) : PX X K W (.Compare a [.NotEq] [b] pos) (xOp (fOp neD) fa fb) := fun hK => by
  subst hK
  exact px_cmp (OpR.or op_ne (op_neD hu)) s2_ne ha hb (nobehind _ (by decide) (by decide)) rfl
theorem px_lt (ha : PX X K W a fa) (hb : PX X K W b fb) : PX X K W (.Compare a [.Lt] [b] pos) (xOp (fOp ltD) fa fb) := px_cmp op_lt (s2_int (g := fun i j => .bl (decide (i < j))) fun _ _ => rfl) ha hb (nobehind _ (by decide) (by decide))
theorem px_gt (ha : PX X K W a fa) (hb : PX X K W b fb) : PX X K W (.Compare a [.Gt] [b] pos) (xOp (fOp gtD) fa fb) := px_cmp op_gt (s2_int (g := fun i j => .bl (decide (i > j))) fun _ _ => rfl) ha hb (nobehind _ (by decide) (by decide))
theorem px_in (ha : PX X K W a fa) (hb : PX X K W b fb) (hm : behindInMarks .In b = false := by rfl) : PX X K W (.Compare a [.In] [b] pos) (xOp (fOp inD) fa fb) := fun hK => by
  subst hK
  exact px_cmp (OpR.or op_in_seq op_inS) s2_in ha hb hm rfl
theorem px_nin (ha : PX X K W a fa) (hb : PX X K W b fb) (hm : behindInMarks .NotIn b = false := by rfl) : PX X K W (.Compare a [.NotIn] [b] pos) (xOp (fOp ninD) fa fb) := fun hK => by
  subst hK
  exact px_cmp (OpR.or op_notIn_seq op_ninS) s2_nin ha hb hm rfl
theorem px_idx (ha : PX X K W a fa) (hb : PX X K W b fb) (hs : PlainIx b) : PX X K W (.Subscript a b pos) (xOp ixD fa fb) := fun hK => by
  subst hK
  exact pe_imp (pe_ix (IxR.or ix_list (IxR.or ix_tup ix_str)) (ha rfl) (hb rfl) hs) (lx_op s2_ix)
theorem px_idxV {i : Nat} (ha : PE X a (tVar i)) (hb : PX X K W b fb) (hs : PlainIx b) : PX X K W (.Subscript a b pos) (xOpV ixD i fb) := fun hK => by
  subst hK
  exact pe_imp (pe_ix (IxR.or ix_list (IxR.or ix_tup ix_str)) ha (hb rfl) hs) (lx_opV s2_ix)
end
/-! ### tests with effects -/
abbrev FT := Env → (Bool → Env → Prop) → WP → Prop
def LT (K : PySem.W.Frag) (W : WX) (f : FT) : TT := fun σ H Q => ∃ env F M M0 q w, Rep K F σ env M ∧ Own F (M ++ M0) H ∧ f env q w ∧ (∀ c env' F' M' H', q c env' → Same F F' → Rep K F' σ env' M' → Own F' (M' ++ M0) H' → Q c H') ∧ WFit K F M0 W w
def PXT (X : Cx) (K : PySem.W.Frag) (W : WX) (e : Expr) (f : FT) : Prop := X.K = K → PT X e (LT K W f)
def PXW (X : Cx) (K : PySem.W.Frag) (W : WX) (e : Expr) (f : FT) : Prop := X.K = K → PW X e (LT K W f)
def tP (b : B) : FT := fun env q _ => ∃ c, b env = some c ∧ q c env
def tX (f : FX) : FT := fun env q w => xD f env w fun d env' => ∃ c, truD d = some c ∧ q c env'
def tXb (f : FX) : FT := fun env q w => xD f env w fun d env' => ∃ c, d = .bl c ∧ q c env'
def tAndX (f g : FT) : FT := fun env q w => f env (fun c env' => if c = true then g env' q w else q false env') w
def tOrX (f g : FT) : FT := fun env q w => f env (fun c env' => if c = true then q true env' else g env' q w) w
def tNotX (f : FT) : FT := fun env q w => f env (fun c env' => q (!c) env') w
section
variable {X : Cx} {K : PySem.W.Frag} {W : WX} {e a b : Expr} {rest : List Expr} {g : G} {f : FX} {ba : B} {fa fb : FT} {pos p : Pos}
theorem pxt_p (h : PB X K e ba) : PXT X K W e (tP ba) := fun hK => pt_imp (h hK) fun σ H Q ⟨env, F, M, M0, q, w, rp, o, ⟨c, hg, hq⟩, k, kw⟩ =>
  ⟨env, F, M, M0, c, rp, o, hg, fun F' H' s' o' => k c env F' M H' hq s' (rp.mono s') o'⟩
theorem pxt_x (h : PX X K W e f) (he : ∀ whole, isTrue e X.env whole = (do let v ← whole; standAt e.pos; holding [v] (truthy v)) := by intro _; rfl) : PXT X K W e (tX f) := fun hK => by
  subst hK
  exact pt_imp (pt_truth (h rfl) he) fun σ H Q ⟨env, F, M, M0, q, w, rp, o, h, k, kw⟩ => lx_d rp o h kw fun d env' v F' M' H' ⟨c, hc, hq⟩ s' r' rp' o' => ⟨c, tru_of (r'.mono o'.fr) hc, k c env' F' M' H' hq s' rp' o'⟩
theorem pxt_op {op : CmpOp} {r : R2} {o : N → N → Option N} {f1 f2 : FX} (h : OpR X (compareOp op) r) (s : S2 K r o) (ha : PX X K W a f1) (hb : PX X K W b f2) (hm : behindInMarks op b = false) : PXT X K W (.Compare a [op] [b] pos) (tXb (xOp o f1 f2)) := fun hK =>
  pt_imp (pt_cmpR h (ha hK) (hb hK) hm) fun σ H Q ⟨env, F, M, M0, q, w, rp, ow, h, k, kw⟩ => lx_op s σ H _ ⟨env, F, M, M0, (fun r env' => ∃ d, r.fzD = some d ∧ ∃ c, d = .bl c ∧ q c env'), w, rp, ow, h, fun r env' v S F' M' H' ⟨d, hd, c, hc, hq⟩ s' sl rp' o' => by
    obtain ⟨F2, s2, o2, r2⟩ := slot_fz o' sl hd
    subst hc
    cases r2
    exact ⟨c, rfl, k c env' F2 M' H' hq (s'.trans s2) (rp'.mono s2) o2⟩, kw⟩
theorem pxt_not (h : PXT X K W a fa) : PXT X K W (.UnaryOp .Not a pos) (tNotX fa) := fun hK => pt_imp (pt_not (h hK)) fun σ H Q ⟨env, F, M, M0, q, w, rp, o, h, k, kw⟩ =>
  ⟨env, F, M, M0, _, w, rp, o, h, fun c env' F' M' H' hq s' rp' o' => k (!c) env' F' M' H' hq s' rp' o', kw⟩
theorem pxw_and1 (h : PXT X K W a fa) : PXW X K W (.BoolOp .And [a] pos) fa := fun hK => pw_and1 (h hK)
theorem pxw_or1 (h : PXT X K W a fa) : PXW X K W (.BoolOp .Or [a] pos) fa := fun hK => pw_or1 (h hK)
theorem pxw_and (h : PXT X K W a fa) (t : PXW X K W (.BoolOp .And (b :: rest) pos) fb) : PXW X K W (.BoolOp .And (a :: b :: rest) pos) (tAndX fa fb) := fun hK => pw_imp (pw_and (h hK) (t hK)) fun σ H Q ⟨env, F, M, M0, q, w, rp, o, h, k, kw⟩ =>
  ⟨env, F, M, M0, _, w, rp, o, h, fun c env' F' M' H' hq s' rp' o' => by
    cases c with
    | true =>
      rw [if_pos rfl] at hq ⊢
      exact ⟨env', F', M', M0, q, w, rp', o', hq, fun c2 env2 F2 M2 H2 q2 s2 => k c2 env2 F2 M2 H2 q2 (s'.trans s2), kw.up s'⟩
    | false =>
      rw [if_neg Bool.false_ne_true] at hq ⊢
      exact k false env' F' M' H' hq s' rp' o', kw⟩
theorem pxw_or (h : PXT X K W a fa) (t : PXW X K W (.BoolOp .Or (b :: rest) pos) fb) : PXW X K W (.BoolOp .Or (a :: b :: rest) pos) (tOrX fa fb) := fun hK => pw_imp (pw_or (h hK) (t hK)) fun σ H Q ⟨env, F, M, M0, q, w, rp, o, h, k, kw⟩ =>
  ⟨env, F, M, M0, _, w, rp, o, h, fun c env' F' M' H' hq s' rp' o' => by
    cases c with
    | true =>
      rw [if_pos rfl] at hq ⊢
      exact k true env' F' M' H' hq s' rp' o'
    | false =>
      rw [if_neg Bool.false_ne_true] at hq ⊢
      exact ⟨env', F', M', M0, q, w, rp', o', hq, fun c2 env2 F2 M2 H2 q2 s2 => k c2 env2 F2 M2 H2 q2 (s'.trans s2), kw.up s'⟩, kw⟩
theorem pxt_w (h : PXW X K W e fa) : PXT X K W e fa := fun hK => (h hK).pt
end
end Pu

/-! ## Pu: calls of defs -/
namespace Pu
open PySem PySem.Spec PyProof.Rows L2 Ed
/-- a promise over slots: the arguments; the result and the arguments behind; what is raised -/
abbrev FS := List Sl → (Sl → List Sl → Prop) → (Str → List (Str × D) → List Sl → Prop) → Prop
inductive SlAll (K : PySem.W.Frag) (F : Hp) : List V → List Sl → Cells → Prop
  | nil : SlAll K F [] [] []
  | cons {v : V} {s : Sl} {vs : List V} {ss : List Sl} {S M : Cells} : SlotR K F v s S → SlAll K F vs ss M → SlAll K F (v :: vs) (s :: ss) (S ++ M)
theorem SlAll.mono {K : PySem.W.Frag} {F F' : Hp} (e : Same F F') : ∀ {vs : List V} {ss : List Sl} {M : Cells}, SlAll K F vs ss M → SlAll K F' vs ss M
  | _, _, _, .nil => .nil
  | _, _, _, .cons a t => .cons (a.mono e) (t.mono e)
theorem SlAll.len {K : PySem.W.Frag} {F : Hp} : ∀ {vs : List V} {ss : List Sl} {M : Cells}, SlAll K F vs ss M → vs.length = ss.length
  | _, _, _, .nil => rfl
  | _, _, _, .cons _ t => congrArg (· + 1) t.len
def spP (K : PySem.W.Frag) (n : Nat) (C : FS) : Sp := fun vs H Q E => ∃ ss F Ms M0 q w, ss.length = n ∧ SlAll K F vs ss Ms ∧ Own F (Ms ++ M0) H ∧ C ss q w ∧
  (∀ r ss' v S F' Ms' H', q r ss' → Same F F' → SlotR K F' v r S → SlAll K F' vs ss' Ms' → Own F' (S ++ (Ms' ++ M0)) H' → Q v H') ∧
  ∀ c fs ss' cls d F' Ms' H', w c fs ss' → Same F F' → XRep K F' cls d c fs → SlAll K F' vs ss' Ms' → Own F' (Ms' ++ M0) H' → E cls d H'
theorem spP_len {K : PySem.W.Frag} {n : Nat} {C : FS} {vs : List V} {H : Hp} {Q : VK} {E : XK} (h : spP K n C vs H Q E) : vs.length = n := by
  obtain ⟨ss, F, Ms, M0, q, w, hn, hs, _⟩ := h
  rw [hs.len, hn]
/-! ### arguments -/
inductive PArg where
  | v (d : D)
  | b (i : Nat)
abbrev FA := Env → (List PArg → Env → Prop) → WP → Prop
inductive ArgR (K : PySem.W.Frag) (F : Hp) (σ : L2.St) : List PArg → List V → Prop
  | nil : ArgR K F σ [] []
  | v {d : D} {v : V} {as : List PArg} {vs : List V} : Rp K F v d → ArgR K F σ as vs → ArgR K F σ (.v d :: as) (v :: vs)
  | b {i : Nat} {v : V} {as : List PArg} {vs : List V} : σ[i]? = some (some v) → ArgR K F σ as vs → ArgR K F σ (.b i :: as) (v :: vs)
theorem ArgR.mono {K : PySem.W.Frag} {F F' : Hp} {σ : L2.St} (e : Same F F') : ∀ {as : List PArg} {vs : List V}, ArgR K F σ as vs → ArgR K F' σ as vs
  | _, _, .nil => .nil
  | _, _, .v a t => .v (a.mono e) (t.mono e)
  | _, _, .b a t => .b a (t.mono e)
def LAX (K : PySem.W.Frag) (W : WX) (f : FA) : TA := fun σ H Q => ∃ env F M M0 q w, Rep K F σ env M ∧ Own F (M ++ M0) H ∧ f env q w ∧ (∀ as env' vs F' M' H', q as env' → Same F F' → ArgR K F' σ as vs → Rep K F' σ env' M' → Own F' (M' ++ M0) H' → Q vs H') ∧ WFit K F M0 W w
def PAX (X : Cx) (K : PySem.W.Frag) (W : WX) (es : List Expr) (f : FA) : Prop := X.K = K → PA X es (LAX K W f)
def aNil : FA := fun env q _ => q [] env
def aV (f : FX) (t : FA) : FA := fun env q w => xD f env w fun d env1 => t env1 (fun as env2 => q (.v d :: as) env2) w
def aB (i : Nat) (t : FA) : FA := fun env q w => (∃ s, env[i]? = some (some s)) ∧ t env (fun as env2 => q (.b i :: as) env2) w
section
variable {X : Cx} {K : PySem.W.Frag} {W : WX} {e : Expr} {es : List Expr} {f : FX} {t : FA} {i : Nat} {pos p : Pos}
theorem pax_nil : PAX X K W [] aNil := fun _ => pa_imp pa_nil fun σ H Q ⟨env, F, M, M0, q, w, rp, o, h, k, kw⟩ => k [] env [] F M H h (Same.refl _) .nil rp o
theorem pax_v (h : PX X K W e f) (ht : PAX X K W es t) (hs : starEach (e :: es) X.env = (false, eval e X.env) :: starEach es X.env := by rfl) : PAX X K W (e :: es) (aV f t) := fun hK => pa_imp (pa_cons (h hK) (ht hK) hs) fun σ H Q ⟨env, F, M, M0, q, w, rp, o, h, k, kw⟩ =>
  lx_d rp o h kw fun d env1 v F1 M1 H1 h1 s1 r1 rp1 o1 => ⟨env1, F1, M1, M0, _, w, rp1, o1, h1, fun as env2 vs F2 M2 H2 q2 s2 a2 rp2 o2 => k _ env2 _ F2 M2 H2 q2 (s1.trans s2) (.v (r1.mono s2) a2) rp2 o2, kw.up s1⟩
theorem pax_b (h : PE X e (tVar i)) (ht : PAX X K W es t) (hs : starEach (e :: es) X.env = (false, eval e X.env) :: starEach es X.env := by rfl) : PAX X K W (e :: es) (aB i t) := fun hK => pa_imp (pa_cons h (ht hK) hs) fun σ H Q ⟨env, F, M, M0, q, w, rp, o, ⟨⟨s, hs⟩, h⟩, k, kw⟩ => by
  obtain ⟨v, _, _, _, hv, _⟩ := rp.at hs
  exact ⟨v, hv, ⟨env, F, M, M0, _, w, rp, o, h, fun as env2 vs F2 M2 H2 q2 s2 a2 rp2 o2 => k _ env2 _ F2 M2 H2 q2 s2 (.b hv a2) rp2 o2, kw⟩⟩
end
/-! ### the arguments' slots, out and back -/
def slots (env : Env) : List PArg → Option (List Sl)
  | [] => some []
  | .v d :: as => (slots env as).map (.fz d :: ·)
  | .b i :: as => match env[i]?, slots env as with
    | some (some s), some ss => some (s :: ss)
    | _, _ => none
def back (env : Env) : List PArg → List Sl → Env
  | .v _ :: as, _ :: ss => back env as ss
  | .b i :: as, s :: ss => (back env as ss).set i (some s)
  | _, _ => env
def inA (i : Nat) : List PArg → Bool
  | [] => false
  | .v _ :: as => inA i as
  | .b j :: as => i == j || inA i as
def ndA : List PArg → Bool
  | [] => true
  | .v _ :: as => ndA as
  | .b i :: as => !inA i as && ndA as
theorem slots_set {env : Env} {i : Nat} {o : Option Sl} : ∀ {as : List PArg}, inA i as = false → slots (env.set i o) as = slots env as
  | [], _ => rfl
  | .v d :: as, h => by
    unfold slots
    rw [slots_set (as := as) h]
  | .b j :: as, h => by
    unfold inA at h
    rw [Bool.or_eq_false_iff] at h
    unfold slots
    have hj : i ≠ j := fun z => by
      rw [z] at h
      simp at h
    rw [slots_set (as := as) h.2, List.getElem?_set_ne hj]
theorem back_set {i : Nat} {o : Option Sl} : ∀ {env : Env} {as : List PArg} {ss : List Sl}, inA i as = false → back (env.set i o) as ss = (back env as ss).set i o
  | _, [], _, _ => rfl
  | _, .v d :: as, [], _ => rfl
  | _, .b d :: as, [], _ => rfl
  | _, .v d :: as, s :: ss, h => back_set (as := as) h
  | _, .b j :: as, s :: ss, h => by
    unfold inA at h
    rw [Bool.or_eq_false_iff] at h
    have hj : i ≠ j := fun z => by
      rw [z] at h
      simp at h
    unfold back
    rw [back_set (as := as) h.2, List.set_comm _ _ hj]
/-- a slot is taken out -/
theorem Rep.out {K : PySem.W.Frag} {F : Hp} : ∀ {σ : L2.St} {e : Env} {M : Cells} {i : Nat} {s : Sl}, Rep K F σ e M → e[i]? = some (some s) → ∃ v S M', σ[i]? = some (some v) ∧ SlotR K F v s S ∧ M.Perm (S ++ M') ∧ Rep K F σ (e.set i none) M'
  | _, _, _, i, s, .nil, h => by cases h
  | _, _, _, 0, s, .non r, h => by cases h
  | _, _, _, i + 1, s, .non r, h => by
    obtain ⟨v, S, M', h1, h2, h3, h4⟩ := Rep.out r h
    exact ⟨v, S, M', h1, h2, h3, .non h4⟩
  | _, _, _, 0, s, .som (S := S) (M := M) q r, h => by
    cases h
    exact ⟨_, S, M, rfl, q, .refl _, .non r⟩
  | _, _, _, i + 1, s, .som (S := S0) (M := M0) q r, h => by
    obtain ⟨v, S, M', h1, h2, h3, h4⟩ := Rep.out r h
    exact ⟨v, S, S0 ++ M', h1, h2, (h3.append_left S0).trans (perm_mid S0 S M'), .som q h4⟩
/-- .. and laid back -/
theorem Rep.lay {K : PySem.W.Frag} {F : Hp} : ∀ {σ : L2.St} {e : Env} {M : Cells} {i : Nat} {s : Sl} {v : V} {S : Cells}, Rep K F σ e M → e[i]? = some none → σ[i]? = some (some v) → SlotR K F v s S → ∃ M', M'.Perm (S ++ M) ∧ Rep K F σ (e.set i (some s)) M'
  | _, _, _, i, s, v, S, .nil, h, _, _ => by cases h
  | _, _, _, 0, s, v, S, .non (M := M) r, h, hv, q => by
    cases hv
    exact ⟨S ++ M, .refl _, .som q r⟩
  | _, _, _, i + 1, s, v, S, .non r, h, hv, q => by
    obtain ⟨M', p, r'⟩ := Rep.lay r h hv q
    exact ⟨M', p, .non r'⟩
  | _, _, _, 0, s, v, S, .som q r, h, _, _ => by cases h
  | _, _, _, i + 1, s, v, S, .som (S := S0) (M := M0) q0 r, h, hv, q => by
    obtain ⟨M', p, r'⟩ := Rep.lay r h hv q
    exact ⟨S0 ++ M', (p.append_left S0).trans (perm_mid S0 S M0), .som q0 r'⟩
theorem back_none {i : Nat} : ∀ {env : Env} {as : List PArg} {ss : List Sl}, inA i as = false → (back env as ss)[i]? = env[i]?
  | _, [], _, _ => rfl
  | _, .v d :: as, [], _ => rfl
  | _, .b d :: as, [], _ => rfl
  | _, .v d :: as, s :: ss, h => back_none (as := as) h
  | _, .b j :: as, s :: ss, h => by
    unfold inA at h
    rw [Bool.or_eq_false_iff] at h
    have hj : i ≠ j := fun z => by
      rw [z] at h
      simp at h
    unfold back
    rw [List.getElem?_set_ne (Ne.symm hj)]
    exact back_none h.2
theorem call_split {K : PySem.W.Frag} {F : Hp} {σ : L2.St} : ∀ {as : List PArg} {vs : List V} {env : Env} {M : Cells} {ss : List Sl}, ArgR K F σ as vs → Rep K F σ env M → slots env as = some ss → ndA as = true →
    ∃ Ms R, SlAll K F vs ss Ms ∧ M.Perm (Ms ++ R) ∧ ∀ F' ss' Ms', Same F F' → SlAll K F' vs ss' Ms' → ∃ M' T, (Ms' ++ R).Perm (T ++ M') ∧ Rep K F' σ (back env as ss') M'
  | _, _, env, M, ss, .nil, rp, h, _ => by
    cases h
    refine ⟨[], M, .nil, .refl _, fun F' ss' Ms' s q => ?_⟩
    cases q
    exact ⟨M, [], .refl _, rp.mono s⟩
  | .v d :: as, v :: vs, env, M, ss, .v a t, rp, h, nd => by
    unfold slots at h
    cases e : slots env as with
    | none =>
      rw [e] at h
      cases h
    | some ss0 =>
      rw [e] at h
      cases h
      obtain ⟨Ms, R, h1, h2, h3⟩ := call_split t rp e nd
      refine ⟨Ms, R, SlAll.cons (S := []) ⟨rfl, a⟩ h1, h2, fun F' ss' Ms' s q => ?_⟩
      cases q with
      | cons q1 q2 =>
        rename_i s' ss'' S' M'
        obtain ⟨M2, T, p2, r2⟩ := h3 F' _ _ s q2
        refine ⟨M2, S' ++ T, ?_, r2⟩
        rw [List.append_assoc, List.append_assoc]
        exact p2.append_left S'
  | .b i :: as, v :: vs, env, M, ss, .b hv t, rp, h, nd => by
    unfold slots at h
    split at h
    · rename_i s0 ss0 e1 e2
      cases h
      unfold ndA at nd
      rw [Bool.and_eq_true] at nd
      have ni : inA i as = false := by
        have := nd.1
        cases q : inA i as
        · rfl
        · rw [q] at this
          cases this
      obtain ⟨u, S, M1, g1, g2, g3, g4⟩ := rp.out e1
      rw [hv] at g1
      cases g1
      obtain ⟨Ms, R, h1, h2, h3⟩ := call_split t g4 ((slots_set ni).trans e2) nd.2
      refine ⟨S ++ Ms, R, .cons g2 h1, ?_, fun F' ss' Ms' s q => ?_⟩
      · rw [List.append_assoc]
        exact g3.trans (h2.append_left S)
      · cases q with
        | cons q1 q2 =>
          rename_i s' ss'' S' M'
          obtain ⟨M2, T, p2, r2⟩ := h3 F' _ _ s q2
          have hi : i < env.length := (List.getElem?_eq_some_iff.mp e1).1
          have hn : (back (env.set i none) as ss'')[i]? = some none := by
            rw [back_none ni, List.getElem?_set_self hi]
          obtain ⟨M3, p3, r3⟩ := r2.lay hn hv q1
          refine ⟨M3, T, ?_, ?_⟩
          · rw [List.append_assoc]
            exact (p2.append_left S').trans ((perm_mid S' T M2).trans (p3.symm.append_left T))
          · rw [back_set ni, List.set_set] at r3
            exact r3
    · cases h
/-! ### calls -/
def xCall (n : Nat) (C : FS) (fa : FA) : FX := fun env q w => fa env (fun as env1 => ndA as = true ∧ ∃ ss, slots env1 as = some ss ∧ ss.length = n ∧ C ss (fun r ss' => q r (back env1 as ss')) (fun c fs ss' => w c fs (back env1 as ss'))) w
/-- of a def that raises nothing -/
def xCall0 (n : Nat) (C : FS) (fa : FA) : FX := fun env q w => fa env (fun as env1 => ndA as = true ∧ ∃ ss, slots env1 as = some ss ∧ ss.length = n ∧ C ss (fun r ss' => q r (back env1 as ss')) (fun _ _ _ => False)) w
theorem perm_tail {A B : Cells} {X : Cells} (h : A.Perm B) : (A ++ X).Perm (B ++ X) := h.append_right X
section
variable {X : Cx} {K : PySem.W.Frag} {W : WX} {e : Expr} {es : List Expr} {fa : FA} {pos p : Pos} {k n : Nat} {C : FS} {x : Str}
/-- what a call asks: the promise of the callee -/
theorem call_core {E : XK} {σ : L2.St} {Q : VK} {F F1 : Hp} {M1 M0 : Cells} {H1 : Hp} {as : List PArg} {vs : List V} {env1 : Env} {ss : List Sl} {q : Sl → Env → Prop} {w' : WP} (k : XFit K F M0 σ Q q) (s1 : Same F F1) (ar : ArgR K F1 σ as vs) (rp1 : Rep K F1 σ env1 M1) (o1 : Own F1 (M1 ++ M0) H1)
    (nd : ndA as = true) (hss : slots env1 as = some ss) (hn : ss.length = n) (hC : C ss (fun r ss' => q r (back env1 as ss')) (fun c fs ss' => w' c fs (back env1 as ss')))
    (hE : ∀ c fs env' cls d F' M' H', w' c fs env' → Same F F' → XRep K F' cls d c fs → Rep K F' σ env' M' → Own F' (M' ++ M0) H' → E cls d H') : spP K n C vs H1 Q E := by
  obtain ⟨Ms, R, h1, h2, h3⟩ := call_split ar rp1 hss nd
  have o2 : Own F1 (Ms ++ (R ++ M0)) H1 := by
    rw [← List.append_assoc]
    exact o1.perm (perm_tail h2)
  refine ⟨ss, F1, Ms, R ++ M0, _, _, hn, h1, o2, hC, fun r ss' v S F' Ms' H' hq s' sr sa o' => ?_, fun c fs ss' cls d F' Ms' H' hw s' xr sa o' => ?_⟩
  · obtain ⟨M2, T, p2, r2⟩ := h3 F' ss' Ms' s' sa
    refine k r _ v S F' M2 H' hq (s1.trans s') sr r2 ?_
    have pp : (S ++ (Ms' ++ (R ++ M0))).Perm (T ++ (S ++ (M2 ++ M0))) := by
      have a : (Ms' ++ (R ++ M0)).Perm (T ++ (M2 ++ M0)) := by
        rw [← List.append_assoc, ← List.append_assoc]
        exact perm_tail p2
      exact (a.append_left S).trans (perm_mid S T (M2 ++ M0))
    exact (o'.perm pp).sub (List.sublist_append_right T _)
  · obtain ⟨M2, T, p2, r2⟩ := h3 F' ss' Ms' s' sa
    refine hE c fs _ cls d F' M2 H' hw (s1.trans s') xr r2 ?_
    have a : (Ms' ++ (R ++ M0)).Perm (T ++ (M2 ++ M0)) := by
      rw [← List.append_assoc, ← List.append_assoc]
      exact perm_tail p2
    exact (o'.perm a).sub (List.sublist_append_right T _)
theorem px_call (G : Ok1x X.prog X.w X.K X.mg X.base x k (spP K n C)) (hr : Room k X.A) (hg : Gl X x) (tk : Takes X W) (ha : PAX X K W (e :: es) fa) (hdb : (x == ("__debug__" : Str)) = false := by decide) (he : starEach (e :: es) X.env = (false, eval e X.env) :: starEach es X.env := by rfl) (hpl : (backTo pos (starEach es X.env)).any (·.1) = false := by rfl) :
    PX X K W (.Call (.Name x p) (e :: es) [] pos) (xCall n C fa) := fun hK => pe_imp (pe_ownW G hr hg tk (ha hK) hdb he hpl) fun σ H Q ⟨env, F, M, M0, q, w, rp, o, h, k, kw⟩ =>
  ⟨env, F, M, M0, _, w, rp, o, h, fun as env1 vs F1 M1 H1 ⟨nd, ss, hss, hn, hC⟩ s1 ar rp1 o1 => call_core (w' := w) k s1 ar rp1 o1 nd hss hn hC fun c fs env' cls d F' M' H' a b c' d' e' => kw c fs env' cls d σ F' M' H' a b c' d' e', kw⟩
theorem px_call0 (G : Ok1 X.prog X.w X.K X.mg X.base x k (spP K n C)) (hr : Room k X.A) (hg : Gl X x) (ha : PAX X K W (e :: es) fa) (hdb : (x == ("__debug__" : Str)) = false := by decide) (he : starEach (e :: es) X.env = (false, eval e X.env) :: starEach es X.env := by rfl) (hpl : (backTo pos (starEach es X.env)).any (·.1) = false := by rfl) :
    PX X K W (.Call (.Name x p) (e :: es) [] pos) (xCall0 n C fa) := fun hK => pe_imp (pe_own G hr hg (ha hK) hdb he hpl) fun σ H Q ⟨env, F, M, M0, q, w, rp, o, h, k, kw⟩ =>
  ⟨env, F, M, M0, _, w, rp, o, h, fun as env1 vs F1 M1 H1 ⟨nd, ss, hss, hn, hC⟩ s1 ar rp1 o1 => call_core (w' := fun _ _ _ => False) k s1 ar rp1 o1 nd hss hn hC fun c fs env' cls d F' M' H' a _ _ _ _ => a.elim, kw⟩
end
/-! ### statements -/
structure EP' where
  nx : Env → Prop
  rt : Sl → Env → Prop
  bk : Env → Prop
  ct : Env → Prop
  ex : WP
abbrev FSt := Env → EP' → Prop
structure Fits (K : PySem.W.Frag) (F : Hp) (M0 : Cells) (E : Ends) (W : WX) (e : EP') : Prop where
  nx : ∀ env' σ' F' M' H', e.nx env' → Same F F' → Rep K F' σ' env' M' → Own F' (M' ++ M0) H' → E.nx σ' H'
  rt : ∀ r env' v S σ' F' M' H', e.rt r env' → Same F F' → SlotR K F' v r S → Rep K F' σ' env' M' → Own F' (S ++ (M' ++ M0)) H' → E.rt v H'
  bk : ∀ env' σ' F' M' H', e.bk env' → Same F F' → Rep K F' σ' env' M' → Own F' (M' ++ M0) H' → E.bk σ' H'
  ct : ∀ env' σ' F' M' H', e.ct env' → Same F F' → Rep K F' σ' env' M' → Own F' (M' ++ M0) H' → E.ct σ' H'
  ex : WFit K F M0 W e.ex
theorem Fits.up {K : PySem.W.Frag} {F F' : Hp} {M0 : Cells} {E : Ends} {W : WX} {e : EP'} (h : Fits K F M0 E W e) (s : Same F F') : Fits K F' M0 E W e :=
  ⟨fun a b c d f g i => h.nx a b c d f g (s.trans i), fun a b c d f g i j k l => h.rt a b c d f g i j k (s.trans l), fun a b c d f g i => h.bk a b c d f g (s.trans i), fun a b c d f g i => h.ct a b c d f g (s.trans i), h.ex.up s⟩
def LS (K : PySem.W.Frag) (W : WX) (f : FSt) : TS := fun E σ H => ∃ env F M M0 e, Rep K F σ env M ∧ Own F (M ++ M0) H ∧ f env e ∧ Fits K F M0 E W e
def PP (X : Cx) (K : PySem.W.Frag) (W : WX) (st : Stmt) (f : FSt) : Prop := X.K = K → PS X st (LS K W f)
def PPs (X : Cx) (K : PySem.W.Frag) (W : WX) (st : List Stmt) (f : FSt) : Prop := X.K = K → PSs X st (LS K W f)
def sSeq (f g : FSt) : FSt := fun env e => f env { e with nx := fun env' => g env' e }
/-- with a word between -/
def sCut (f g : FSt) : FSt := fun env e => ∃ Mid : Env → Prop, f env { e with nx := Mid } ∧ ∀ env', Mid env' → g env' e
def sNil : FSt := fun env e => e.nx env
def sSet (i : Nat) (f : FX) : FSt := fun env e => f env (fun r env' => i < env'.length ∧ e.nx (env'.set i (some r))) e.ex
def sDrop (f : FX) : FSt := fun env e => f env (fun _ env' => e.nx env') e.ex
def sRet (f : FX) : FSt := fun env e => f env (fun r env' => e.rt r env') e.ex
def sRetN : FSt := fun env e => e.rt (.fz .non) env
def sIf (t : FT) (f g : FSt) : FSt := fun env e => t env (fun c env' => if c = true then f env' e else g env' e) e.ex
def sBrk : FSt := fun env e => e.bk env
def sCont : FSt := fun env e => e.ct env
/-- a slot is kept from now on -/
def Env.fz (env : Env) (i : Nat) : Env := match env[i]? with
  | some (some s) => match s.fzD with
    | some d => env.set i (some (.fz d))
    | none => env
  | _ => env
def sFz (i : Nat) (f : FSt) : FSt := fun env e => f (env.fz i) e
section
variable {X : Cx} {K : PySem.W.Frag} {W : WX} {e : Expr} {st : Stmt} {sts body els : List Stmt} {f g : FSt} {fx : FX} {ft : FT} {pos p : Pos} {i : Nat} {x : Str}
theorem pps_cons (h1 : PP X K W st f) (h2 : PPs X K W sts g) : PPs X K W (st :: sts) (sSeq f g) := fun hK => pss_imp (pss_cons (h1 hK) (h2 hK)) fun E σ H ⟨env, F, M, M0, e, rp, o, h, ft⟩ =>
  ⟨env, F, M, M0, _, rp, o, h, ⟨fun env' σ' F' M' H' hg s' rp' o' => ⟨env', F', M', M0, e, rp', o', hg, ft.up s'⟩, ft.rt, ft.bk, ft.ct, ft.ex⟩⟩
theorem pps_cut (h1 : PP X K W st f) (h2 : PPs X K W sts g) : PPs X K W (st :: sts) (sCut f g) := fun hK => pss_imp (pss_cons (h1 hK) (h2 hK)) fun E σ H ⟨env, F, M, M0, e, rp, o, ⟨Mid, h, hm⟩, ft⟩ =>
  ⟨env, F, M, M0, _, rp, o, h, ⟨fun env' σ' F' M' H' hg s' rp' o' => ⟨env', F', M', M0, e, rp', o', hm env' hg, ft.up s'⟩, ft.rt, ft.bk, ft.ct, ft.ex⟩⟩
theorem pps_nil : PPs X K W [] sNil := fun _ => pss_imp pss_nil fun E σ H ⟨env, F, M, M0, e, rp, o, h, ft⟩ => ft.nx env σ F M H h (Same.refl _) rp o
theorem pps_one (h : PP X K W st f) : PPs X K W [st] f := fun hK => pss_one (h hK)
theorem own_put {F' H' : Hp} {A S0 B S M0 : Cells} (o : Own F' (S ++ ((A ++ (S0 ++ B)) ++ M0)) H') : Own F' ((A ++ (S ++ B)) ++ M0) H' := by
  have p : (S ++ ((A ++ (S0 ++ B)) ++ M0)).Perm (S0 ++ ((A ++ (S ++ B)) ++ M0)) := by
    rw [List.append_assoc, List.append_assoc, List.append_assoc, List.append_assoc]
    exact (perm_mid S A _).trans (((perm_mid S S0 _).append_left A).trans (perm_mid A S0 _))
  exact (o.perm p).sub (List.sublist_append_right S0 _)
theorem pp_set {pos' : Pos} (hN : X.N.Nodup) (hi : X.N[i]? = some x) (hx : Loc X.env.scope x) (he : PX X K W e fx) (hs : swapsWith e (some (.Name x pos')) pos.line X.env = pure false := by rfl) (hf : X.fn x = true ∨ X.env.scope.names.lookup x = some .local := by first | exact .inl rfl | exact .inr rfl | assumption) :
    PP X K W (.Assign [.Name x pos'] e pos) (sSet i fx) := fun hK => ps_imp (ps_set hN hi hx (he hK) hs hf) fun E σ H ⟨env, F, M, M0, e, rp, o, h, ft⟩ =>
  ⟨env, F, M, M0, _, _, rp, o, h, fun r env' v S F' M' H' ⟨hi, hq⟩ s' sl rp' o' => by
    obtain ⟨A, S0, B, hM, put⟩ := rp'.put hi
    subst hM
    exact ft.nx _ _ F' _ H' hq s' (put F' r v S (Same.refl _) sl) (own_put o'), ft.ex⟩
theorem pp_drop (he : PX X K W e fx) (hs : swapsWith e none pos.line X.env = pure false := by rfl) : PP X K W (.Expr e pos) (sDrop fx) := fun hK => ps_imp (ps_expr (he hK) hs) fun E σ H ⟨env, F, M, M0, e, rp, o, h, ft⟩ =>
  ⟨env, F, M, M0, _, _, rp, o, h, fun r env' v S F' M' H' hq s' sl rp' o' => ft.nx _ _ F' M' H' hq s' rp' (o'.sub (List.sublist_append_right S _)), ft.ex⟩
theorem pp_ret (he : PX X K W e fx) : PP X K W (.Return (some e) pos) (sRet fx) := fun hK => ps_imp (ps_ret (he hK)) fun E σ H ⟨env, F, M, M0, e, rp, o, h, ft⟩ =>
  ⟨env, F, M, M0, _, _, rp, o, h, fun r env' v S F' M' H' hq s' sl rp' o' => ft.rt r env' v S σ F' M' H' hq s' sl rp' o', ft.ex⟩
theorem pp_retN : PP X K W (.Return none pos) sRetN := fun hK => ps_imp ps_retN fun E σ H ⟨env, F, M, M0, e, rp, o, h, ft⟩ => ft.rt _ env .non [] σ F M H h (Same.refl _) ⟨rfl, .non⟩ rp o
theorem pp_if (ht : PXT X K W e ft) (h1 : PPs X K W body f) (h2 : PPs X K W els g) : PP X K W (.If e body els pos) (sIf ft f g) := fun hK => ps_imp (ps_if (ht hK) (h1 hK) (h2 hK)) fun E σ H ⟨env, F, M, M0, e, rp, o, h, ft⟩ =>
  ⟨env, F, M, M0, _, _, rp, o, h, fun c env' F' M' H' hq s' rp' o' => by
    cases c with
    | true =>
      rw [if_pos rfl] at hq ⊢
      exact ⟨env', F', M', M0, e, rp', o', hq, ft.up s'⟩
    | false =>
      rw [if_neg Bool.false_ne_true] at hq ⊢
      exact ⟨env', F', M', M0, e, rp', o', hq, ft.up s'⟩, ft.ex⟩
theorem pp_brk : PP X K W (.Break pos) sBrk := fun hK => ps_imp ps_break fun E σ H ⟨env, F, M, M0, e, rp, o, h, ft⟩ => ft.bk env σ F M H h (Same.refl _) rp o
theorem pp_cont : PP X K W (.Continue pos) sCont := fun hK => ps_imp ps_continue fun E σ H ⟨env, F, M, M0, e, rp, o, h, ft⟩ => ft.ct env σ F M H h (Same.refl _) rp o
theorem pp_pass : PP X K W (.Pass pos) sNil := fun hK => ps_imp ps_pass fun E σ H ⟨env, F, M, M0, e, rp, o, h, ft⟩ => ft.nx env σ F M H h (Same.refl _) rp o
theorem set_same {α : Type} : ∀ {l : List α} {i : Nat} {a : α}, l[i]? = some a → l.set i a = l
  | [], _, _, h => by cases h
  | b :: l, 0, a, h => by
    cases h
    rfl
  | b :: l, i + 1, a, h => congrArg (b :: ·) (set_same (l := l) h)
theorem rep_fz {F H : Hp} {σ : L2.St} {env : Env} {M M0 : Cells} (rp : Rep K F σ env M) (o : Own F (M ++ M0) H) (i : Nat) : ∃ F' M', Same F F' ∧ Rep K F' σ (env.fz i) M' ∧ Own F' (M' ++ M0) H := by
  unfold Env.fz
  split
  · rename_i s hs
    split
    · rename_i d hd
      obtain ⟨v, A, S, B, hv, sl, rfl, put⟩ := rp.at hs
      have o1 : Own F (S ++ ((A ++ B) ++ M0)) H := by
        refine o.perm ?_
        rw [List.append_assoc, List.append_assoc, List.append_assoc]
        exact perm_mid A S _
      obtain ⟨F', s', o', r'⟩ := slot_fz o1 sl hd
      have z := put F' (.fz d) v [] s' ⟨rfl, r'⟩
      rw [set_same hv] at z
      exact ⟨F', _, s', z, o'⟩
    · exact ⟨F, M, Same.refl _, rp, o⟩
  · exact ⟨F, M, Same.refl _, rp, o⟩
theorem pps_fz (i : Nat) (h : PPs X K W sts f) : PPs X K W sts (sFz i f) := fun hK => pss_imp (h hK) fun E σ H ⟨env, F, M, M0, e, rp, o, h, ft⟩ => by
  obtain ⟨F', M', s', rp', o'⟩ := rep_fz rp o i
  exact ⟨_, F', M', M0, e, rp', o', h, ft.up s'⟩
end
end Pu

/-! ## Pu: stores, loops, bodies -/
namespace Pu
open PySem PySem.Spec PyProof.Rows L2 Ed
theorem own_upd {F H : Hp} {A B : Cells} {a : Addr} {x y : HO} (o : Own F (A ++ ((a, x) :: B)) H) : Own F (A ++ ((a, y) :: B)) (upd H a y) := by
  have h : (A ++ ((a, x) :: B))[A.length]? = some (a, x) := by
    rw [List.getElem?_append_right (Nat.le_refl _), Nat.sub_self]
    rfl
  have z := o.set (y := y) A.length h
  rw [List.set_append_right _ _ (Nat.le_refl _), Nat.sub_self] at z
  exact z
section
variable {K : PySem.W.Frag} {F H : Hp} {σ : L2.St} {env : Env} {M M0 : Cells} {i : Nat} {v : V} {ad : Addr} {ds : List D}
/-- an owned list in a slot, and what it may become -/
theorem mut_l (rp : Rep K F σ env M) (o : Own F (M ++ M0) H) (h : env[i]? = some (some (.ow (ol ad ds)))) : ∃ vs, σ[i]? = some (some (.ref ad)) ∧ H ad = some (.lst vs) ∧ RpAll K F vs ds ∧
    ∀ vs' ds', RpAll K F vs' ds' → ∃ M', Rep K F σ (env.set i (some (.ow (ol ad ds')))) M' ∧ Own F (M' ++ M0) (upd H ad (.lst vs')) := by
  obtain ⟨u, A, S, B, hv, sl, rfl, put⟩ := rp.at h
  obtain ⟨vs, rfl, rfl, r⟩ := ol_inv sl
  have o1 : Own F (A ++ ((ad, .lst vs) :: (B ++ M0))) H := by
    rw [List.append_assoc] at o
    exact o
  refine ⟨vs, hv, o1.mu (ad, .lst vs) (List.mem_append_right _ List.mem_cons_self), r, fun vs' ds' r' => ⟨A ++ ([(ad, .lst vs')] ++ B), ?_, ?_⟩⟩
  · have z := put F (.ow (ol ad ds')) (.ref ad) [(ad, .lst vs')] (Same.refl _) (ow_ol r')
    rw [set_same hv] at z
    exact z
  · rw [List.append_assoc]
    exact own_upd o1
/-- a dict whose values are kept -/
def od (a : Addr) (kvs : List (Key × D)) : N := .dic a (kvs.map fun kv => (kv.1, .f kv.2))
theorem owDic_f : ∀ {vs : List (Key × V)} {ds : List (Key × D)}, RpDic K F vs ds → OwDic K F vs (ds.map fun kv => (kv.1, .f kv.2)) []
  | _, _, .nil => .nil
  | _, _, .cons a t => OwDic.cons (S := []) (T := []) (.f a) (owDic_f t)
theorem owDic_inv : ∀ {vs : List (Key × V)} {ds : List (Key × D)} {S : Cells}, OwDic K F vs (ds.map fun kv => (kv.1, .f kv.2)) S → S = [] ∧ RpDic K F vs ds
  | _, [], _, .nil => ⟨rfl, .nil⟩
  | _, (_, d) :: ds, _, .cons a t => by
    obtain ⟨rfl, r⟩ := owDic_inv t
    cases a with
    | f a => exact ⟨rfl, .cons a r⟩
theorem od_toD (a : Addr) (ds : List (Key × D)) : (od a ds).toD = .dic ds := congrArg D.dic (toDk_f ds)
theorem mut_d {kds : List (Key × D)} (rp : Rep K F σ env M) (o : Own F (M ++ M0) H) (h : env[i]? = some (some (.ow (od ad kds)))) : ∃ vs, σ[i]? = some (some (.ref ad)) ∧ H ad = some (.dK vs) ∧ RpDic K F vs kds ∧
    ∀ vs' ds', RpDic K F vs' ds' → ∃ M', Rep K F σ (env.set i (some (.ow (od ad ds')))) M' ∧ Own F (M' ++ M0) (upd H ad (.dK vs')) := by
  obtain ⟨u, A, S, B, hv, sl, rfl, put⟩ := rp.at h
  cases sl with
  | dic sl =>
    rename_i vs S'
    obtain ⟨rfl, r⟩ := owDic_inv sl
    have o1 : Own F (A ++ ((ad, .dK vs) :: (B ++ M0))) H := by
      rw [List.append_assoc] at o
      exact o
    refine ⟨vs, hv, o1.mu (ad, .dK vs) (List.mem_append_right _ List.mem_cons_self), r, fun vs' ds' r' => ⟨A ++ ([(ad, .dK vs')] ++ B), ?_, ?_⟩⟩
    · have z := put F (.ow (od ad ds')) (.ref ad) [(ad, .dK vs')] (Same.refl _) (.dic (owDic_f r'))
      rw [set_same hv] at z
      exact z
    · rw [List.append_assoc]
      exact own_upd o1
end
/-! ### methods that change a list in a slot -/
def isOl (env : Env) (i : Nat) : Prop := ∃ v ds, env[i]? = some (some (.ow (ol v ds)))
def xApp (i : Nat) (fa : FX) : FX := fun env q w => isOl env i ∧ xD fa env w fun d env1 => ∃ v ds, env1[i]? = some (some (.ow (ol v ds))) ∧ ds.length < sizeLine ∧ q (.fz .non) (env1.set i (some (.ow (ol v (ds ++ [d])))))
def xPopA (i : Nat) (fa : FX) : FX := fun env q w => isOl env i ∧ xD fa env w fun d env1 => ∃ v ds k y, env1[i]? = some (some (.ow (ol v ds))) ∧ d = .int (Int.ofNat k) ∧ k < 2 ^ 63 ∧ ds[k]? = some y ∧ q (.fz y) (env1.set i (some (.ow (ol v (ds.eraseIdx k)))))
def xPop (i : Nat) : FX := fun env q w => ∃ v ds y, env[i]? = some (some (.ow (ol v (ds ++ [y])))) ∧ q (.fz y) (env.set i (some (.ow (ol v ds))))
def xIns (i : Nat) (fa fb : FX) : FX := fun env q w => isOl env i ∧ xD fa env w fun d1 env1 => xD fb env1 w fun d2 env2 => ∃ v ds k, env2[i]? = some (some (.ow (ol v ds))) ∧ d1 = .int (Int.ofNat k) ∧ k ≤ 1000 ∧ ds.length < sizeLine ∧ q (.fz .non) (env2.set i (some (.ow (ol v (ds.take k ++ [d2] ++ ds.drop k)))))
section
variable {X : Cx} {K : PySem.W.Frag} {W : WX} {e a b : Expr} {fa fb : FX} {pos p apos cpos : Pos} {i : Nat}
theorem ty_ol {F H : Hp} {σ : L2.St} {env : Env} {M M0 : Cells} (rp : Rep K F σ env M) (o : Own F (M ++ M0) H) (h : isOl env i) : ∃ v, σ[i]? = some (some v) ∧ tyV K "list" v H := by
  obtain ⟨v, ds, h⟩ := h
  obtain ⟨vs, hv, ha, _⟩ := mut_l rp o h
  exact ⟨_, hv, .inl ⟨rfl, vs, SqL.of ha⟩⟩
theorem px_app {c : Expr} (h : PE X c (tBM X.K "list" rAppend (tVar i) (tCons (LX K W fa) tNil))) : PX X K W c (xApp i fa) := fun hK => by
  subst hK
  refine pe_imp h fun σ H Q ⟨env, F, M, M0, q, w, rp, o, ⟨hl, h⟩, k, kw⟩ => ?_
  obtain ⟨v0, hv0, ty⟩ := ty_ol rp o hl
  refine ⟨v0, hv0, ty, lx_d rp o h kw fun d env1 y F1 M1 H1 ⟨v, ds, h1, h2, hq⟩ s1 r1 rp1 o1 => ?_⟩
  obtain ⟨vs, hv, ha1, r, upd'⟩ := mut_l rp1 o1 h1
  rw [hv0] at hv
  cases hv
  obtain ⟨M2, rp2, o2⟩ := upd' (vs ++ [y]) (ds ++ [d]) (r.app (.cons r1 .nil))
  exact ⟨_, vs, y, rfl, rfl, ha1, by rw [r.len]; exact h2, k _ _ .non [] F1 M2 _ hq s1 ⟨rfl, .non⟩ rp2 o2⟩
theorem px_popA {c : Expr} (h : PE X c (tBM X.K "list" rPopAt (tVar i) (tCons (LX K W fa) tNil))) : PX X K W c (xPopA i fa) := fun hK => by
  subst hK
  refine pe_imp h fun σ H Q ⟨env, F, M, M0, q, w, rp, o, ⟨hl, h⟩, k, kw⟩ => ?_
  obtain ⟨v0, hv0, ty⟩ := ty_ol rp o hl
  refine ⟨v0, hv0, ty, lx_d rp o h kw fun d env1 y F1 M1 H1 ⟨v, ds, j, z, h1, h2, h3, h4, hq⟩ s1 r1 rp1 o1 => ?_⟩
  subst h2
  cases r1
  obtain ⟨vs, hv, ha1, r, upd'⟩ := mut_l rp1 o1 h1
  rw [hv0] at hv
  cases hv
  obtain ⟨M2, rp2, o2⟩ := upd' (vs.eraseIdx j) (ds.eraseIdx j) (r.erase j)
  obtain ⟨u, hu, ru⟩ := r.get h4
  have hj : j < vs.length := (List.getElem?_eq_some_iff.mp hu).1
  refine ⟨_, vs, _, j, u, rfl, rfl, ha1, ?_, ?_, six rfl hj, hu, k _ _ u [] F1 M2 _ hq s1 ⟨rfl, ru⟩ rp2 o2⟩
  · show -(2 ^ 63) ≤ (j : Int)
    omega
  · show (j : Int) < 2 ^ 63
    omega
theorem px_pop {c : Expr} (h : PE X c (tBM0 X.K "list" rPop (tVar i))) : PX X K W c (xPop i) := fun hK => by
  subst hK
  refine pe_imp h fun σ H Q ⟨env, F, M, M0, q, w, rp, o, ⟨v, ds, y, h1, hq⟩, k, kw⟩ => ?_
  obtain ⟨v0, hv0, ty⟩ := ty_ol rp o ⟨v, _, h1⟩
  refine ⟨v0, hv0, ty, ?_⟩
  obtain ⟨vs, hv, ha1, r, upd'⟩ := mut_l rp o h1
  rw [hv0] at hv
  cases hv
  have hl := r.len
  rw [List.length_append] at hl
  have hl : vs.length = ds.length + 1 := hl
  have hy : (ds ++ [y])[vs.length - 1]? = some y := by
    rw [hl, Nat.add_sub_cancel, List.getElem?_append_right (Nat.le_refl _), Nat.sub_self]
    rfl
  obtain ⟨u, hu, ru⟩ := r.get hy
  have e1 : vs.dropLast = vs.take ds.length := by rw [List.dropLast_eq_take, hl, Nat.add_sub_cancel]
  have e2 : (ds ++ [y]).take ds.length = ds := List.take_left
  have rt := r.take ds.length
  rw [e2] at rt
  obtain ⟨M2, rp2, o2⟩ := upd' (vs.take ds.length) ds rt
  refine ⟨_, vs, u, rfl, rfl, ha1, hu, ?_⟩
  rw [e1]
  exact k _ _ u [] F M2 _ hq (Same.refl _) ⟨rfl, ru⟩ rp2 o2
theorem px_ins {c : Expr} (h : PE X c (tBM X.K "list" rInsert (tVar i) (tCons (LX K W fa) (tCons (LX K W fb) tNil)))) : PX X K W c (xIns i fa fb) := fun hK => by
  subst hK
  refine pe_imp h fun σ H Q ⟨env, F, M, M0, q, w, rp, o, ⟨hl, h⟩, k, kw⟩ => ?_
  obtain ⟨v0, hv0, ty⟩ := ty_ol rp o hl
  refine ⟨v0, hv0, ty, lx_d rp o h kw fun d env1 y F1 M1 H1 h1 s1 r1 rp1 o1 => lx_d rp1 o1 h1 (kw.up s1) fun d2 env2 y2 F2 M2 H2 ⟨v, ds, j, h2, h3, h4, h5, hq⟩ s2 r2 rp2 o2 => ?_⟩
  subst h3
  cases r1
  obtain ⟨vs, hv, ha1, r, upd'⟩ := mut_l rp2 o2 h2
  rw [hv0] at hv
  cases hv
  obtain ⟨M3, rp3, o3⟩ := upd' (vs.take j ++ [y2] ++ vs.drop j) _ (((r.take j).app (.cons r2 .nil)).app (r.drop j))
  exact ⟨_, vs, _, y2, rfl, rfl, ha1, by rw [r.len]; exact h5, Int.natCast_nonneg j, by show (j : Int) < 2 ^ 63; omega, k _ _ .non [] F2 M3 _ hq (s1.trans s2) ⟨rfl, .non⟩ rp3 o3⟩
/-! d[k] = v, xs[i] = v -/
def putD (kvs : List (Key × D)) (k : Key) (d : D) : List (Key × D) := if (kvs.any fun kv => decide (kv.1 = k)) = true then kvs.map (fun kv => if kv.1 = k then (kv.1, d) else kv) else kvs ++ [(k, d)]
theorem RpDic.any {F : Hp} {k : Key} : ∀ {vs : List (Key × V)} {ds : List (Key × D)}, RpDic K F vs ds → (vs.any fun kv => decide (kv.1 = k)) = (ds.any fun kv => decide (kv.1 = k))
  | _, _, .nil => rfl
  | _, _, .cons a t => by
    rw [List.any_cons, List.any_cons, t.any]
theorem RpDic.repl {F : Hp} {k : Key} {v : V} {d : D} (r : Rp K F v d) : ∀ {vs : List (Key × V)} {ds : List (Key × D)}, RpDic K F vs ds → RpDic K F (vs.map fun kv => if kv.1 = k then (kv.1, v) else kv) (ds.map fun kv => if kv.1 = k then (kv.1, d) else kv)
  | _, _, .nil => .nil
  | (k', u) :: vs, (_, e) :: ds, .cons a t => by
    rw [List.map_cons, List.map_cons]
    by_cases h : k' = k
    · rw [if_pos h, if_pos h]
      exact .cons r (RpDic.repl r t)
    · rw [if_neg h, if_neg h]
      exact .cons a (RpDic.repl r t)
theorem RpDic.app {F : Hp} : ∀ {vs us : List (Key × V)} {ds es : List (Key × D)}, RpDic K F vs ds → RpDic K F us es → RpDic K F (vs ++ us) (ds ++ es)
  | _, _, _, _, .nil, h => h
  | _, _, _, _, .cons a t, h => .cons a (t.app h)
theorem RpDic.put {F : Hp} {k : Key} {v : V} {d : D} {vs : List (Key × V)} {ds : List (Key × D)} (h : RpDic K F vs ds) (r : Rp K F v d) : RpDic K F (putK vs k v) (putD ds k d) := by
  unfold putK putD
  rw [h.any]
  split
  · exact h.repl r
  · exact h.app (.cons r .nil)
theorem key_v {F : Hp} {v : V} {d : D} {k : Key} (r : Rp K F v d) (h : keyD d = some k) : v = kV k := by
  unfold keyD at h
  split at h
  · cases h
    cases r
    rfl
  · cases h
    cases r
    rfl
  · cases h
theorem key_put {H : Hp} {a : Addr} {v u : V} {k : Key} {vs : List (Key × V)} (hv : v = kV k) (h : H a = some (.dK vs)) (hl : vs.length < sizeLine) : DPut H a v u (upd H a (.dK (putK vs k u))) := by
  subst hv
  cases k with
  | inl i => exact DPut.k (k := .inl i) h hl
  | inr i => exact DPut.k (k := .inr i) h hl
def sDput (i : Nat) (fk fv : FX) : FSt := fun env e => xD fv env e.ex fun d env1 => (∃ n, env1.node i = some n) ∧ xD fk env1 e.ex fun dk env2 => ∃ v kvs k, env2[i]? = some (some (.ow (od v kvs))) ∧ keyD dk = some k ∧ kvs.length < sizeLine ∧ e.nx (env2.set i (some (.ow (od v (putD kvs k d)))))
theorem pp_dput {st : Stmt} (h : PS X st (sDPut (tVar i) (LX K W fb) (LX K W fa))) : PP X K W st (sDput i fb fa) := fun hK => ps_imp h fun E σ H ⟨env, F, M, M0, e, rp, o, h, ft⟩ =>
  lx_d rp o h ft.ex fun d env1 y F1 M1 H1 ⟨⟨n0, hn0⟩, h1⟩ s1 r1 rp1 o1 => by
    obtain ⟨v0, hv0, _⟩ := rp1.look hn0
    refine ⟨v0, hv0, lx_d rp1 o1 h1 (ft.ex.up s1) fun dk env2 yk F2 M2 H2 ⟨v, kvs, k, h2, h3, h4, hq⟩ s2 r2 rp2 o2 => ?_⟩
    obtain ⟨vs, hv, ha1, r, upd'⟩ := mut_d rp2 o2 h2
    rw [hv0] at hv
    cases hv
    obtain ⟨M3, rp3, o3⟩ := upd' _ _ (r.put (k := k) (r1.mono s2))
    exact ⟨_, _, rfl, key_put (key_v r2 h3) ha1 (by rw [r.len]; exact h4), ft.nx _ _ F2 M3 _ hq (s1.trans s2) rp3 o3⟩
def sSetI (i : Nat) (fk fv : FX) : FSt := fun env e => xD fv env e.ex fun d env1 => (∃ n, env1.node i = some n) ∧ xD fk env1 e.ex fun dk env2 => ∃ v ds j k, env2[i]? = some (some (.ow (ol v ds))) ∧ dk = .int j ∧ L2.ixN ds.length j = some k ∧ e.nx (env2.set i (some (.ow (ol v (ds.set k d)))))
theorem pp_setI {st : Stmt} (h : PS X st (tAsg (LX K W fa) (gSub (tVar i) (LX K W fb) rSetL))) : PP X K W st (sSetI i fb fa) := fun hK => ps_imp h fun E σ H ⟨env, F, M, M0, e, rp, o, h, ft⟩ =>
  lx_d rp o h ft.ex fun d env1 y F1 M1 H1 ⟨⟨n0, hn0⟩, h1⟩ s1 r1 rp1 o1 => by
    obtain ⟨v0, hv0, _⟩ := rp1.look hn0
    refine ⟨v0, hv0, lx_d rp1 o1 h1 (ft.ex.up s1) fun dk env2 yk F2 M2 H2 ⟨v, ds, j, k, h2, h3, h4, hq⟩ s2 r2 rp2 o2 => ?_⟩
    subst h3
    cases r2
    obtain ⟨vs, hv, ha1, r, upd'⟩ := mut_l rp2 o2 h2
    rw [hv0] at hv
    cases hv
    obtain ⟨M3, rp3, o3⟩ := upd' _ _ (r.set k (r1.mono s2))
    exact ⟨_, vs, j, k, rfl, rfl, ha1, by rw [r.len]; exact h4, ft.nx _ _ F2 M3 _ hq (s1.trans s2) rp3 o3⟩
/-- {} -/
def xDnew : FX := fun env q _ => ∀ v, q (.ow (od v [])) env
theorem px_dnew {c : Expr} (h : PE X c tDNewK) : PX X K W c xDnew := fun hK => pe_imp h fun σ H Q ⟨env, F, M, M0, q, w, rp, o, hq, k, kw⟩ p hp =>
  k _ env _ [(p, .dK [])] F M _ (hq p) (Same.refl _) (.dic .nil) rp (o.newM hp)
/-- x op= e, of ints -/
def sAug (i : Nat) (g : Int → Int → Int) (fa : FX) : FSt := fun env e => ∃ m, env[i]? = some (some (.fz (.int m))) ∧ xD fa env e.ex fun d env1 => ∃ n, d = .int n ∧ i < env1.length ∧ e.nx (env1.set i (some (.fz (.int (g m n)))))
theorem pp_aug {st : Stmt} {g : Int → Int → Int} (h : PS X st (tAug i (LX K W fa) (ipI g))) : PP X K W st (sAug i g fa) := fun hK => ps_imp h fun E σ H ⟨env, F, M, M0, e, rp, o, ⟨m, hm, h⟩, ft⟩ => by
  obtain ⟨v, A, S, B, hv, ⟨_, sl⟩, _, _⟩ := rp.at hm
  cases sl
  refine ⟨_, hv, lx_d rp o h ft.ex fun d env1 y F1 M1 H1 ⟨n, hn, hi, hq⟩ s1 r1 rp1 o1 => ?_⟩
  subst hn
  cases r1
  refine ⟨m, n, rfl, rfl, ?_⟩
  obtain ⟨A, S0, B, hM, put⟩ := rp1.put hi
  subst hM
  refine ft.nx _ _ F1 _ H1 hq s1 (put F1 (.fz (.int (g m n))) (.int (g m n)) [] (Same.refl _) ⟨rfl, .int _⟩) (own_put (S := []) o1)
end
end Pu

/-! ## Pu: what loops walk; loops; comprehensions -/
namespace Pu
open PySem PySem.Spec PyProof.Rows L2 Ed
def WalkD (K : PySem.W.Frag) (F : Hp) (M : Cells) (J : It) (ds : List D) : Prop := ∃ (Gd : Hp → Prop) (Y : Nat → Hp → V → Hp → Prop), Walk J ds.length Gd Y ∧ (∀ H, Same F H → Has H M → Gd H) ∧
  ∀ i H x H' F1 M1, i < ds.length → Same F F1 → Own F1 M1 H → Y i H x H' → ∃ d F2, ds[i]? = some d ∧ Same F1 F2 ∧ Own F2 M1 H' ∧ Rp K F2 x d
theorem WalkD.more {K : PySem.W.Frag} {F : Hp} {M : Cells} {J : It} {ds : List D} (h : WalkD K F [] J ds) : WalkD K F M J ds := let ⟨G, Y, a, b, c⟩ := h; ⟨G, Y, a, fun H s _ => b H s fun _ z => (nomatch z), c⟩
section
variable {K : PySem.W.Frag} {F : Hp} {M : Cells}
theorem walkD_list {a : Addr} {vs : List V} {ds : List D} (h : ∀ H, Same F H → Has H M → SqL K H a vs) (r : RpAll K F vs ds) : WalkD K F M (Itl K a) ds := by
  refine ⟨_, _, by rw [← r.len]; exact walk_list (xs := vs), h, ?_⟩
  rintro i H x H' F1 M1 hi s o ⟨rfl, hx⟩
  obtain ⟨d, hd, rd⟩ := r.getV hx
  exact ⟨d, F1, hd, Same.refl _, o, rd.mono s⟩
theorem walkD_tup {a : Addr} {vs : List V} {ds : List D} (h : SqT K F a vs) (r : RpAll K F vs ds) : WalkD K F M (Itt K a) ds := by
  refine ⟨_, _, by rw [← r.len]; exact walk_tup (xs := vs), fun H s _ => Same.tup s h, ?_⟩
  rintro i H x H' F1 M1 hi s o ⟨rfl, hx⟩
  obtain ⟨d, hd, rd⟩ := r.getV hx
  exact ⟨d, F1, hd, Same.refl _, o, rd.mono s⟩
/-- lo, lo + 1, .. -/
def rng (lo : Int) (n : Nat) : List D := (List.range n).map fun i => .int (lo + (i : Nat))
theorem rng_len (lo : Int) (n : Nat) : (rng lo n).length = n := by
  unfold rng
  rw [List.length_map, List.length_range]
theorem rng_get {lo : Int} {n i : Nat} {d : D} (h : (rng lo n)[i]? = some d) : i < n ∧ d = .int (lo + i) := by
  unfold rng at h
  rw [List.getElem?_map] at h
  by_cases hi : i < n
  · rw [List.getElem?_range hi] at h
    exact ⟨hi, (Option.some.inj h).symm⟩
  · rw [List.getElem?_eq_none (by rw [List.length_range]; omega)] at h
    cases h
theorem rng_at {lo : Int} {n i : Nat} (h : i < n) : (rng lo n)[i]? = some (.int (lo + i)) := by
  unfold rng
  rw [List.getElem?_map, List.getElem?_range h]
  rfl
theorem walkD_range {lo : Int} {n : Nat} : WalkD K F M (Itr lo n) (rng lo n) := by
  refine ⟨_, _, by rw [rng_len]; exact walk_range (lo := lo) (n := n), fun _ _ _ => trivial, ?_⟩
  rintro i H x H' F1 M1 hi s o ⟨rfl, rfl⟩
  rw [rng_len] at hi
  exact ⟨_, F1, rng_at hi, Same.refl _, o, .int _⟩
/-- downwards -/
def rngD (hi : Int) (n : Nat) : List D := (List.range n).map fun i => .int (hi + (i : Nat) * (-1))
theorem rngD_len (lo : Int) (n : Nat) : (rngD lo n).length = n := by
  unfold rngD
  rw [List.length_map, List.length_range]
theorem walkD_down {lo : Int} {n : Nat} : WalkD K F M (Itc lo (-1) n) (rngD lo n) := by
  refine ⟨_, _, by rw [rngD_len]; exact walk_rangeC (lo := lo) (c := -1) (n := n), fun _ _ _ => trivial, ?_⟩
  rintro i H x H' F1 M1 hi s o ⟨rfl, rfl⟩
  rw [rngD_len] at hi
  refine ⟨.int (lo + (i : Nat) * (-1)), F1, ?_, Same.refl _, o, .int _⟩
  unfold rngD
  rw [List.getElem?_map, List.getElem?_range hi]
  rfl
def enumD (ds : List D) : List D := (List.range ds.length).zipWith (fun i d => .tup [.int (i : Nat), d]) ds
theorem enumD_len (ds : List D) : (enumD ds).length = ds.length := by
  unfold enumD
  rw [List.length_zipWith, List.length_range, Nat.min_self]
theorem enumD_get {ds : List D} {i : Nat} {d : D} (h : ds[i]? = some d) : (enumD ds)[i]? = some (.tup [.int (i : Nat), d]) := by
  unfold enumD
  have hi : i < ds.length := (List.getElem?_eq_some_iff.mp h).1
  rw [List.getElem?_zipWith, List.getElem?_range hi, h]
theorem walkD_enum {a : Addr} {vs : List V} {ds : List D} (h : ∀ H, Same F H → Has H M → SqL K H a vs) (r : RpAll K F vs ds) : WalkD K F M (Ite K a) (enumD ds) := by
  refine ⟨_, _, by rw [enumD_len, ← r.len]; exact walk_enum (xs := vs), h, ?_⟩
  rintro i H x H' F1 M1 hi s o ⟨T, x1, x2, rfl, hT, rfl, e1, e2⟩
  cases e1
  obtain ⟨d, hd, rd⟩ := r.getV e2
  have n := o.free hT
  exact ⟨_, _, enumD_get hd, same_upd n, o.newF hT, .tup (SqT.of upd_same) (.cons (.int _) (.cons (rd.mono (s.trans (same_upd n))) .nil))⟩
def chars (z : Str) : List D := z.cps.toList.map fun c => .str ⟨#[c]⟩
theorem walkD_str {z : Str} : WalkD K F M (Its z) (chars z) := by
  have hl : (chars z).length = z.cps.size := by
    unfold chars
    rw [List.length_map, Array.length_toList]
  refine ⟨_, _, by rw [hl]; exact walk_str (z := z), fun _ _ _ => trivial, ?_⟩
  rintro i H x H' F1 M1 hi s o ⟨rfl, c, hc, rfl⟩
  refine ⟨.str ⟨#[c]⟩, F1, ?_, Same.refl _, o, .str _⟩
  unfold chars
  rw [List.getElem?_map, Array.getElem?_toList, hc]
  rfl
end
/-! ### for, with a source that stays -/
abbrev FI := Env → (List D → Env → Prop) → WP → Prop
def LIX (K : PySem.W.Frag) (W : WX) (f : FI) : TI := fun σ H R => ∃ env F M M0 q w, Rep K F σ env M ∧ Own F (M ++ M0) H ∧ f env q w ∧ (∀ ds env' J F' M' H', q ds env' → Same F F' → WalkD K F' [] J ds → Rep K F' σ env' M' → Own F' (M' ++ M0) H' → R J H') ∧ WFit K F M0 W w
def PIX (X : Cx) (K : PySem.W.Frag) (W : WX) (tg it : Expr) (f : FI) : Prop := X.K = K → PI X tg it (LIX K W f)
theorem pi_imp {X : Cx} {tg it : Expr} {t t' : TI} (h : PI X tg it t) (i : ∀ σ H R, t' σ H R → t σ H R) : PI X tg it t' := ⟨fun pins s σ H R I q => h.run pins s σ H R I (i σ H R q)⟩
def iL1 (f : FX) : FI := fun env q w => xD f env w fun d env' => ∃ ds, d = .lst ds ∧ q ds env'
def iT1 (f : FX) : FI := fun env q w => xD f env w fun d env' => ∃ ds, d = .tup ds ∧ q ds env'
def iR1 (f : FX) : FI := fun env q w => xD f env w fun d env' => ∃ n, d = .int n ∧ n < 2 ^ 62 ∧ -(2 ^ 62) ≤ n ∧ q (rng 0 n.toNat) env'
def iR2 (fa fb : FX) : FI := fun env q w => xD fa env w fun d1 env1 => xD fb env1 w fun d2 env2 => ∃ m n, d1 = .int m ∧ d2 = .int n ∧ (-(2 ^ 62) ≤ m ∧ m < 2 ^ 62 ∧ -(2 ^ 62) ≤ n ∧ n < 2 ^ 62) ∧ q (rng m (n - m).toNat) env2
def iDn (fa fb : FX) : FI := fun env q w => xD fa env w fun d1 env1 => xD fb env1 w fun d2 env2 => ∃ m n, d1 = .int m ∧ d2 = .int n ∧ (-(2 ^ 62) ≤ m ∧ m < 2 ^ 62 ∧ -(2 ^ 62) ≤ n ∧ n < 2 ^ 62) ∧ q (rngD m (m - n).toNat) env2
def iE1 (f : FX) : FI := fun env q w => xD f env w fun d env' => ∃ ds, d = .lst ds ∧ q (enumD ds) env'
def iS1 (f : FX) : FI := fun env q w => xD f env w fun d env' => ∃ z, d = .str z ∧ q (chars z) env'
section
variable {X : Cx} {K : PySem.W.Frag} {W : WX} {e a b tg : Expr} {f fa fb : FX} {p pos : Pos}
theorem pix_l (h : PX X K W e f) : PIX X K W tg e (iL1 f) := fun hK => by
  subst hK
  refine pi_imp (pi_list (h rfl)) fun σ H R ⟨env, F, M, M0, q, w, rp, o, h, k, kw⟩ => ?_
  refine lx_d rp o h kw fun d env1 v F1 M1 H1 ⟨ds, hd, hq⟩ s1 r1 rp1 o1 => ?_
  subst hd
  obtain ⟨a, vs, rfl, ha, r⟩ := rp_lst r1
  exact ⟨a, rfl, ⟨vs, SqL.of (o1.fr _ _ ha)⟩, k ds env1 _ F1 M1 H1 hq s1 (walkD_list (fun H s _ => SqL.of (s _ _ ha)) r) rp1 o1⟩
theorem pix_t (h : PX X K W e f) : PIX X K W tg e (iT1 f) := fun hK => by
  subst hK
  refine pi_imp (pi_tup (h rfl)) fun σ H R ⟨env, F, M, M0, q, w, rp, o, h, k, kw⟩ => ?_
  refine lx_d rp o h kw fun d env1 v F1 M1 H1 ⟨ds, hd, hq⟩ s1 r1 rp1 o1 => ?_
  subst hd
  obtain ⟨a, vs, rfl, ha, r⟩ := rp_tup r1
  exact ⟨a, rfl, ⟨vs, Same.tup o1.fr ha⟩, k ds env1 _ F1 M1 H1 hq s1 (walkD_tup ha r) rp1 o1⟩
theorem pix_s (h : PX X K W e f) : PIX X K W tg e (iS1 f) := fun hK => by
  refine pi_imp (pi_str (h hK)) fun σ H R ⟨env, F, M, M0, q, w, rp, o, h, k, kw⟩ => ?_
  refine lx_d rp o h kw fun d env1 v F1 M1 H1 ⟨ds, hd, hq⟩ s1 r1 rp1 o1 => ?_
  subst hd
  cases r1
  exact ⟨_, rfl, k _ env1 _ F1 M1 H1 hq s1 walkD_str rp1 o1⟩
theorem pix_r1 (hm : X.mg "range" = none) (h : PX X K W e f) (hg : Gl X "range" := by rfl) (hs : starEach [e] X.env = [(false, eval e X.env)] := by rfl) : PIX X K W tg (.Call (.Name "range" p) [e] [] pos) (iR1 f) := fun hK => by
  refine pi_imp (pi_range1 hg hm (pa_cons (h hK) pa_nil hs) hs) fun σ H R ⟨env, F, M, M0, q, w, rp, o, h, k, kw⟩ => ?_
  refine lx_d rp o h kw fun d env1 v F1 M1 H1 ⟨n, hd, h1, h2, hq⟩ s1 r1 rp1 o1 => ?_
  subst hd
  cases r1
  exact ⟨n, rfl, h2, h1, k _ env1 _ F1 M1 H1 hq s1 walkD_range rp1 o1⟩
theorem pix_r2 (hm : X.mg "range" = none) (h : PX X K W a fa) (h' : PX X K W b fb) (hg : Gl X "range" := by rfl) (hs : starEach [a, b] X.env = [(false, eval a X.env), (false, eval b X.env)] := by rfl) (hs2 : starEach [b] X.env = [(false, eval b X.env)] := by rfl) (hs3 : starEach [a, b] X.env = (false, eval a X.env) :: starEach [b] X.env := by rfl) : PIX X K W tg (.Call (.Name "range" p) [a, b] [] pos) (iR2 fa fb) := fun hK => by
  refine pi_imp (pi_range2 hg hm (pa_cons (h hK) (pa_cons (h' hK) pa_nil hs2) hs3) hs hs2) fun σ H R ⟨env, F, M, M0, q, w, rp, o, h, k, kw⟩ => ?_
  refine lx_d rp o h kw fun d env1 v F1 M1 H1 h1 s1 r1 rp1 o1 => lx_d rp1 o1 h1 (kw.up s1) fun d2 env2 v2 F2 M2 H2 ⟨m, n, e1, e2, hb, hq⟩ s2 r2 rp2 o2 => ?_
  subst e1 e2
  cases r1
  cases r2
  exact ⟨m, n, rfl, hb, k _ env2 _ F2 M2 H2 hq (s1.trans s2) walkD_range rp2 o2⟩
theorem pix_dn (hm : X.mg "range" = none) {j : Nat} {p1 p2 : Pos} (h : PX X K W a fa) (h' : PX X K W b fb) (hr : ∀ {ta tb : TE}, PE X a ta → PE X b tb → PI X tg (.Call (.Name "range" p) [a, b, .UnaryOp .USub (.Constant (.int 1) j p1) p2] [] pos) (iRng3 (tCons ta (tCons tb (tCons (tUn (rU fun i => .int (-i)) (tC (.int 1))) tNil))))) :
    PIX X K W tg (.Call (.Name "range" p) [a, b, .UnaryOp .USub (.Constant (.int 1) j p1) p2] [] pos) (iDn fa fb) := fun hK => by
  refine pi_imp (hr (h hK) (h' hK)) fun σ H R ⟨env, F, M, M0, q, w, rp, o, h, k, kw⟩ => ?_
  refine lx_d rp o h kw fun d env1 v F1 M1 H1 h1 s1 r1 rp1 o1 => lx_d rp1 o1 h1 (kw.up s1) fun d2 env2 v2 F2 M2 H2 ⟨m, n, e1, e2, hb, hq⟩ s2 r2 rp2 o2 => ?_
  subst e1 e2
  cases r1
  cases r2
  exact ⟨1, rfl, m, n, -1, (m - n).toNat, rfl, RgC.neg hb.1 hb.2.1 hb.2.2.1 hb.2.2.2, k _ env2 _ F2 M2 H2 hq (s1.trans s2) walkD_down rp2 o2⟩
theorem pix_e {elts : List Expr} {kk : Nat} {tpos : Pos} (hm : X.mg "enumerate" = none) (h : PX X K W e f) (hg : Gl X "enumerate" := by rfl) (hs : starEach [e] X.env = [(false, eval e X.env)] := by rfl) : PIX X K W (.Tuple elts kk tpos) (.Call (.Name "enumerate" p) [e] [] pos) (iE1 f) := fun hK => by
  subst hK
  refine pi_imp (pi_enum hg hm (pa_cons (h rfl) pa_nil hs) hs) fun σ H R ⟨env, F, M, M0, q, w, rp, o, h, k, kw⟩ => ?_
  refine lx_d rp o h kw fun d env1 v F1 M1 H1 ⟨ds, hd, hq⟩ s1 r1 rp1 o1 => ?_
  subst hd
  obtain ⟨a, vs, rfl, ha, r⟩ := rp_lst r1
  exact ⟨a, vs, rfl, SqL.of (o1.fr _ _ ha), k _ env1 _ F1 M1 H1 hq s1 (walkD_enum (fun H s _ => SqL.of (s _ _ ha)) r) rp1 o1⟩
end
/-! ### targets -/
abbrev Tg := D → Env → Option Env
abbrev Tgs := List D → Env → Option Env
/-- the slots in l may have changed -/
def Off (l : List Nat) (σ σ' : L2.St) : Prop := σ'.length = σ.length ∧ ∀ j, j ∉ l → σ'[j]? = σ[j]?
def LTg (K : PySem.W.Frag) (l : List Nat) (st : Tg) : TG := fun v σ H Q => ∃ env F M M0 d env', Rep K F σ env M ∧ Own F (M ++ M0) H ∧ Rp K F v d ∧ st d env = some env' ∧ ∀ σ' M' T, Off l σ σ' → M.Perm (T ++ M') → Rep K F σ' env' M' → Q σ' H
def LTgs (K : PySem.W.Frag) (l : List Nat) (st : Tgs) : TGs := fun vs σ H Q => ∃ env F M M0 ds env', Rep K F σ env M ∧ Own F (M ++ M0) H ∧ RpAll K F vs ds ∧ st ds env = some env' ∧ ∀ σ' M' T, Off l σ σ' → M.Perm (T ++ M') → Rep K F σ' env' M' → Q σ' H
def PTg (X : Cx) (K : PySem.W.Frag) (tg : Expr) (l : List Nat) (st : Tg) : Prop := X.K = K → PG X tg (LTg K l st)
def PTgs (X : Cx) (K : PySem.W.Frag) (tg : List Expr) (l : List Nat) (st : Tgs) : Prop := X.K = K → PGs X tg (LTgs K l st)
def stN (i : Nat) : Tg := fun d env => if i < env.length then some (env.set i (some (.fz d))) else none
def stNil : Tgs := fun ds env => match ds with
  | [] => some env
  | _ => none
def stCons (a : Tg) (b : Tgs) : Tgs := fun ds env => match ds with
  | d :: ds => match a d env with
    | some env' => b ds env'
    | none => none
  | [] => none
def stT (n : Nat) (b : Tgs) : Tg := fun d env => match d with
  | .tup ds => if ds.length = n then b ds env else none
  | _ => none
section
variable {X : Cx} {K : PySem.W.Frag} {e tg : Expr} {es : List Expr} {l l' : List Nat} {st : Tg} {sts : Tgs} {pos : Pos} {i n : Nat}
theorem pg_imp {t t' : TG} (h : PG X tg t) (im : ∀ v σ H Q, t' v σ H Q → t v σ H Q) : PG X tg t' := ⟨fun pins s σ H v u Q I r q => h.run pins s σ H v u Q I r (im v σ H Q q)⟩
theorem pgs_imp {t t' : TGs} (h : PGs X es t) (im : ∀ v σ H Q, t' v σ H Q → t v σ H Q) : PGs X es t' := ⟨fun pins s σ H v u Q I r q => h.run pins s σ H v u Q I r (im v σ H Q q)⟩
theorem own_less {F H : Hp} {M T M' M0 : Cells} (p : M.Perm (T ++ M')) (o : Own F (M ++ M0) H) : Own F (M' ++ M0) H := by
  have z := o.perm (p.append_right M0)
  rw [List.append_assoc] at z
  exact z.sub (List.sublist_append_right T _)
theorem ptg_n (h : PG X tg (gName i)) : PTg X K tg [i] (stN i) := fun hK => pg_imp h fun v σ H Q ⟨env, F, M, M0, d, env', rp, o, r, hst, k⟩ => by
  unfold stN at hst
  split at hst
  · rename_i hi
    cases hst
    obtain ⟨A, S0, B, hM, put⟩ := rp.put hi
    subst hM
    refine k _ _ S0 ⟨List.length_set, fun j hj => ?_⟩ (perm_mid A S0 B) (put F (.fz d) v [] (Same.refl _) ⟨rfl, r⟩)
    rw [List.getElem?_set_ne fun z => hj (by rw [z]; exact List.mem_singleton.mpr rfl)]
  · cases hst
theorem ptgs_nil : PTgs X K [] [] stNil := fun hK => pgs_imp pgs_nil fun vs σ H Q ⟨env, F, M, M0, ds, env', rp, o, r, hst, k⟩ => by
  unfold stNil at hst
  split at hst
  · cases hst
    cases r
    exact ⟨rfl, k σ M [] ⟨rfl, fun _ _ => rfl⟩ (.refl _) rp⟩
  · cases hst
theorem Off.trans {l l' : List Nat} {σ σ' σ'' : L2.St} (a : Off l σ σ') (b : Off l' σ' σ'') : Off (l ++ l') σ σ'' := ⟨b.1.trans a.1, fun j hj => (b.2 j fun z => hj (List.mem_append_right _ z)).trans (a.2 j fun z => hj (List.mem_append_left _ z))⟩
theorem ptgs_cons (h : PTg X K e l st) (t : PTgs X K es l' sts) (hs : (assignEach (e :: es) X.env).map (·.2) = assign e X.env :: (assignEach es X.env).map (·.2) := by rfl) : PTgs X K (e :: es) (l ++ l') (stCons st sts) := fun hK => pgs_imp (pgs_cons (h hK) (t hK) hs) fun vs σ H Q ⟨env, F, M, M0, ds, env', rp, o, r, hst, k⟩ => by
  unfold stCons at hst
  split at hst
  · split at hst
    · rename_i d ds _ env1 q
      cases r with
      | cons r1 r2 =>
        exact ⟨_, _, rfl, ⟨env, F, M, M0, d, env1, rp, o, r1, q, fun σ1 M1 T1 of1 p1 rp1 => ⟨env1, F, M1, M0, ds, env', rp1, own_less p1 o, r2, hst, fun σ2 M2 T2 of2 p2 rp2 => k σ2 M2 (T1 ++ T2) (of1.trans of2) (by rw [List.append_assoc]; exact p1.trans (p2.append_left T1)) rp2⟩⟩⟩
    · cases hst
  · cases hst
theorem ptg_t {k : Nat} (hc : X.calm = true) (h : PTgs X K es l sts) (hn : (assignEach es X.env).length = n := by rfl) (hst : (assignEach es X.env).findIdx? (·.1) = none := by rfl) : PTg X K (.Tuple es k pos) l (stT n sts) := fun hK => by
  subst hK
  refine pg_imp (pg_tup hc (h rfl) hn hst) fun v σ H Q ⟨env, F, M, M0, d, env', rp, o, r, hst, k⟩ => ?_
  unfold stT at hst
  split at hst
  · split at hst
    · rename_i hl
      obtain ⟨a, vs, rfl, ha, ra⟩ := rp_tup r
      exact ⟨a, vs, rfl, Same.tup o.fr ha, by rw [ra.len]; exact hl, ⟨env, F, M, M0, _, env', rp, o, ra, hst, k⟩⟩
    · cases hst
  · cases hst
end
/-! ### for, while -/
def sFor (fi : FI) (st : Tg) (f : FSt) : FSt := fun env e => fi env (fun ds env1 => ∃ I : Nat → Env → Prop, I 0 env1 ∧ (∀ i d env2, ds[i]? = some d → I i env2 → ∃ env3, st d env2 = some env3 ∧ f env3 { e with nx := I (i + 1), ct := I (i + 1), bk := e.nx }) ∧ ∀ env2, I ds.length env2 → e.nx env2) e.ex
def sWhile (t : FT) (f : FSt) : FSt := fun env e => ∃ I : Nat → Env → Prop, (∃ m, I m env) ∧ ∀ m env, I m env → t env (fun c env' => if c = true then f env' { e with nx := fun env2 => ∃ m', m' < m ∧ I m' env2, ct := fun env2 => ∃ m', m' < m ∧ I m' env2, bk := e.nx } else e.nx env') e.ex
section
variable {X : Cx} {K : PySem.W.Frag} {W : WX} {e tg it : Expr} {body : List Stmt} {l : List Nat} {st : Tg} {fi : FI} {ft : FT} {f : FSt} {pos : Pos}
theorem pp_for (hp : PassesOwn (model X.prog X.w) X.A X.env X.xe) (hc : X.calm = true) (hi : PIX X K W tg it fi) (hg : PTg X K tg l st) (hb : PPs X K W body f) (hs : ∀ x, foldedSetIterable it X.env x = pure x := by intro _; rfl) : PP X K W (.For tg it body [] pos) (sFor fi st f) := fun hK => ps_imp (ps_for hp hc (hi hK) (hg hK) (hb hK) hs) fun E σ H ⟨env, F, M, M0, e, rp, o, h, ft⟩ =>
  ⟨env, F, M, M0, _, _, rp, o, h, fun ds env1 J F1 M1 H1 ⟨I, h0, hs, hd⟩ s1 wk rp1 o1 => by
    obtain ⟨Gd, Y, w, g, y⟩ := wk
    refine for_it w (fun i σ' H' => ∃ env' F' M', Same F1 F' ∧ Rep K F' σ' env' M' ∧ Own F' (M' ++ M0) H' ∧ I i env') ⟨env1, F1, M1, Same.refl _, rp1, o1, h0⟩ ?_ ?_ ?_
    · rintro i σ' H' _ ⟨env', F', M', s', rp', o', _⟩
      exact g H' (s'.trans o'.fr) fun _ z => (nomatch z)
    · rintro i x σ' H' H2 hi ⟨env', F', M', s', rp', o', hI⟩ hy
      obtain ⟨d, F2, hd', s2, o2, rd⟩ := y i H' x H2 F' (M' ++ M0) hi s' o' hy
      obtain ⟨env3, hst, hf⟩ := hs i d env' hd' hI
      refine ⟨env', F2, M', M0, d, env3, rp'.mono s2, o2, rd, hst, fun σ3 M3 T3 _ p3 rp3 => ⟨env3, F2, M3, M0, _, rp3, own_less p3 o2, hf, ?_⟩⟩
      have sF : Same F F2 := s1.trans (s'.trans s2)
      exact ⟨fun env4 σ4 F4 M4 H4 q s4 rp4 o4 => ⟨env4, F4, M4, (s'.trans s2).trans s4, rp4, o4, q⟩, (ft.up sF).rt, fun env4 σ4 F4 M4 H4 q s4 rp4 o4 => ft.nx env4 σ4 F4 M4 H4 q (sF.trans s4) rp4 o4, fun env4 σ4 F4 M4 H4 q s4 rp4 o4 => ⟨env4, F4, M4, (s'.trans s2).trans s4, rp4, o4, q⟩, ft.ex.up sF⟩
    · rintro σ' H' ⟨env', F', M', s', rp', o', hI⟩
      exact ft.nx env' σ' F' M' H' (hd env' hI) (s1.trans s') rp' o', ft.ex⟩
theorem pp_while (hp : PassesOwn (model X.prog X.w) X.A X.env X.xe) (hc : PXT X K W e ft) (hb : PPs X K W body f) : PP X K W (.While e body [] pos) (sWhile ft f) := fun hK => ps_imp (ps_while hp (hc hK) (hb hK)) fun E σ H ⟨env, F, M, M0, e, rp, o, ⟨I, ⟨m0, h0⟩, ht⟩, ft⟩ => by
  refine ⟨fun m σ' H' => ∃ env' F' M', Same F F' ∧ Rep K F' σ' env' M' ∧ Own F' (M' ++ M0) H' ∧ I m env', ⟨m0, env, F, M, Same.refl _, rp, o, h0⟩, ?_⟩
  rintro m σ' H' ⟨env', F', M', s', rp', o', hI⟩
  refine ⟨env', F', M', M0, _, _, rp', o', ht m env' hI, fun c env2 F2 M2 H2 hq s2 rp2 o2 => ?_, ft.ex.up s'⟩
  cases c with
  | true =>
    rw [if_pos rfl] at hq ⊢
    refine ⟨fun σ4 H4 => ∃ env4 F4 M4, Same F F4 ∧ Rep K F4 σ4 env4 M4 ∧ Own F4 (M4 ++ M0) H4 ∧ ∃ m', m' < m ∧ I m' env4, ?_, ?_⟩
    · rintro σ4 H4 ⟨env4, F4, M4, s4, rp4, o4, m', hm, hI⟩
      exact ⟨m', hm, env4, F4, M4, s4, rp4, o4, hI⟩
    · have sF : Same F F2 := s'.trans s2
      exact ⟨env2, F2, M2, M0, _, rp2, o2, hq, ⟨fun env4 σ4 F4 M4 H4 q s4 rp4 o4 => ⟨env4, F4, M4, sF.trans s4, rp4, o4, q⟩, (ft.up sF).rt, fun env4 σ4 F4 M4 H4 q s4 rp4 o4 => ft.nx env4 σ4 F4 M4 H4 q (sF.trans s4) rp4 o4, fun env4 σ4 F4 M4 H4 q s4 rp4 o4 => ⟨env4, F4, M4, sF.trans s4, rp4, o4, q⟩, ft.ex.up sF⟩⟩
  | false =>
    rw [if_neg Bool.false_ne_true] at hq ⊢
    exact ft.nx env2 σ' F2 M2 H2 hq (s'.trans s2) rp2 o2
end
end Pu

/-! ## Pu: comprehensions; bodies of defs -/
namespace Pu
open PySem PySem.Spec PyProof.Rows L2 Ed
def sAsg (f : FX) (st : Tg) : FSt := fun env e => xD f env e.ex fun d env1 => ∃ env2, st d env1 = some env2 ∧ e.nx env2
section
variable {X : Cx} {K : PySem.W.Frag} {W : WX} {e tg : Expr} {fx : FX} {l : List Nat} {st : Tg} {pos : Pos}
theorem pp_asg {s : Stmt} (h : PS X s (tAsg (LX K W fx) (LTg K l st))) : PP X K W s (sAsg fx st) := fun hK => ps_imp h fun E σ H ⟨env, F, M, M0, e, rp, o, h, ft⟩ =>
  lx_d rp o h ft.ex fun d env1 v F1 M1 H1 ⟨env2, hst, hq⟩ s1 r1 rp1 o1 => ⟨env1, F1, M1, M0, d, env2, rp1, o1, r1, hst, fun σ' M' T _ p rp' => ft.nx env2 σ' F1 M' H1 hq s1 rp' (own_less p o1)⟩
end
/-! ### comprehensions without effects -/
def wipeE (env : Env) : List Nat → Env
  | [] => env
  | v :: vs => (wipeE env vs).set v none
theorem rep_wipe {K : PySem.W.Frag} {F : Hp} {σ : L2.St} {env : Env} {M : Cells} (rp : Rep K F σ env M) : ∀ vs, ∃ M', M'.Sublist M ∧ Rep K F (wipe σ vs) (wipeE env vs) M'
  | [] => ⟨M, List.Sublist.refl _, rp⟩
  | v :: vs => by
    obtain ⟨M1, s1, r1⟩ := rep_wipe rp vs
    obtain ⟨M2, s2, r2⟩ := r1.drop v
    exact ⟨M2, s2.trans s1, r2⟩
theorem wipe_in {σ : L2.St} {j : Nat} : ∀ {vs : List Nat}, j ∈ vs → (wipe σ vs)[j]? = if j < σ.length then some none else none
  | v :: vs, h => by
    unfold wipe
    by_cases e : v = j
    · subst e
      by_cases hl : v < σ.length
      · rw [if_pos hl, List.getElem?_set_self (by rw [wipe_length]; exact hl)]
      · rw [if_neg hl, List.getElem?_eq_none (by rw [List.length_set, wipe_length]; omega)]
    · rw [List.getElem?_set_ne e]
      rcases List.mem_cons.mp h with h | h
      · exact absurd h.symm e
      · exact wipe_in h
theorem wipe_off {σ σ' : L2.St} {l vs : List Nat} (h : Off l (wipe σ vs) σ') (hl : ∀ i ∈ l, i ∈ vs) : wipe σ' vs = wipe σ vs := by
  apply List.ext_getElem?
  intro j
  have hlen : σ'.length = σ.length := by rw [h.1, wipe_length]
  by_cases hj : j ∈ vs
  · rw [wipe_in hj, wipe_in hj, hlen]
  · rw [wipe_out hj, wipe_out hj, h.2 j fun z => hj (hl j z), wipe_out hj]
abbrev GI := Env → Option (List D)
def LI (K : PySem.W.Frag) (gi : GI) : TI := fun σ H R => ∃ env F M M0 ds, Rep K F σ env M ∧ Own F (M ++ M0) H ∧ gi env = some ds ∧ ∀ J F' H', Same F F' → Own F' (M ++ M0) H' → WalkD K F' M J ds → R J H'
def PIt (X : Cx) (K : PySem.W.Frag) (tg it : Expr) (gi : GI) : Prop := X.K = K → PI X tg it (LI K gi)
def giL (g : G) : GI := fun env => match g env with
  | some n => kidsL n
  | none => none
def giT (g : G) : GI := fun env => match g env with
  | some (.f (.tup ds)) => some ds
  | _ => none
def giR (g : G) : GI := fun env => match g env with
  | some (.f (.int n)) => if n < 2 ^ 62 ∧ -(2 ^ 62) ≤ n then some (rng 0 n.toNat) else none
  | _ => none
def giR2 (g g' : G) : GI := fun env => match g env, g' env with
  | some (.f (.int m)), some (.f (.int n)) => if -(2 ^ 62) ≤ m ∧ m < 2 ^ 62 ∧ -(2 ^ 62) ≤ n ∧ n < 2 ^ 62 then some (rng m (n - m).toNat) else none
  | _, _ => none
def giS (g : G) : GI := fun env => match g env with
  | some (.f (.str z)) => some (chars z)
  | _ => none
def giE (g : G) : GI := fun env => match g env with
  | some n => (kidsL n).map enumD
  | none => none
section
variable {X : Cx} {K : PySem.W.Frag} {e e' tg elt it : Expr} {g g' : G} {gi : GI} {p pos : Pos}
theorem pit_l (h : PD X K e g) : PIt X K tg e (giL g) := fun hK => by
  subst hK
  refine pi_imp (pi_list (h rfl)) fun σ H R ⟨env, F, M, M0, ds, rp, o, h, k⟩ => ?_
  unfold giL at h
  split at h
  · rename_i n hn
    refine ⟨env, F, M, M0, n, rp, o, hn, fun v F' H' s' o' w => ?_⟩
    unfold kidsL at h
    split at h
    · cases h
      obtain ⟨a, vs, rfl, ha, r⟩ := rp_lst w.f
      exact ⟨a, rfl, ⟨vs, SqL.of (o'.fr _ _ ha)⟩, k _ F' H' s' o' (walkD_list (fun H s _ => SqL.of (s _ _ ha)) r)⟩
    · obtain ⟨S, w, hs⟩ := w
      have e := fds_inv h
      subst e
      obtain ⟨vs, rfl, rfl, r⟩ := ol_inv w
      have hm := hs _ List.mem_cons_self
      exact ⟨_, rfl, ⟨vs, SqL.of (o'.mu _ (List.mem_append_left _ hm))⟩, k _ F' H' s' o' (walkD_list (fun H s hh => SqL.of (hh _ hm)) r)⟩
    · cases h
  · cases h
theorem pit_t (h : PD X K e g) : PIt X K tg e (giT g) := fun hK => by
  subst hK
  refine pi_imp (pi_tup (h rfl)) fun σ H R ⟨env, F, M, M0, ds, rp, o, h, k⟩ => ?_
  unfold giT at h
  split at h
  · rename_i n hn
    cases h
    refine ⟨env, F, M, M0, _, rp, o, hn, fun v F' H' s' o' w => ?_⟩
    obtain ⟨a, vs, rfl, ha, r⟩ := rp_tup w.f
    exact ⟨a, rfl, ⟨vs, Same.tup o'.fr ha⟩, k _ F' H' s' o' (walkD_tup ha r)⟩
  · cases h
theorem pit_s (h : PD X K e g) : PIt X K tg e (giS g) := fun hK => by
  refine pi_imp (pi_str (h hK)) fun σ H R ⟨env, F, M, M0, ds, rp, o, h, k⟩ => ?_
  unfold giS at h
  split at h
  · rename_i n hn
    cases h
    refine ⟨env, F, M, M0, _, rp, o, hn, fun v F' H' s' o' w => ?_⟩
    cases w.f
    exact ⟨_, rfl, k _ F' H' s' o' walkD_str⟩
  · cases h
theorem pit_r (hm : X.mg "range" = none) (h : PD X K e g) (hg : Gl X "range" := by rfl) (hs : starEach [e] X.env = [(false, eval e X.env)] := by rfl) : PIt X K tg (.Call (.Name "range" p) [e] [] pos) (giR g) := fun hK => by
  refine pi_imp (pi_range1 hg hm (pa_cons (h hK) pa_nil hs) hs) fun σ H R ⟨env, F, M, M0, ds, rp, o, h, k⟩ => ?_
  unfold giR at h
  split at h
  · rename_i n hn
    split at h
    · rename_i hb
      cases h
      refine ⟨env, F, M, M0, _, rp, o, hn, fun v F' H' s' o' w => ?_⟩
      cases w.f
      exact ⟨n, rfl, hb.2, hb.1, k _ F' H' s' o' walkD_range⟩
    · cases h
  · cases h
theorem pit_r2 (hm : X.mg "range" = none) (h : PD X K e g) (h' : PD X K e' g') (hg : Gl X "range" := by rfl) (hs : starEach [e, e'] X.env = [(false, eval e X.env), (false, eval e' X.env)] := by rfl) (hs2 : starEach [e'] X.env = [(false, eval e' X.env)] := by rfl) (hs3 : starEach [e, e'] X.env = (false, eval e X.env) :: starEach [e'] X.env := by rfl) : PIt X K tg (.Call (.Name "range" p) [e, e'] [] pos) (giR2 g g') := fun hK => by
  refine pi_imp (pi_range2 hg hm (pa_cons (h hK) (pa_cons (h' hK) pa_nil hs2) hs3) hs hs2) fun σ H R ⟨env, F, M, M0, ds, rp, o, h, k⟩ => ?_
  unfold giR2 at h
  split at h
  · rename_i m n hn hn'
    split at h
    · rename_i hb
      cases h
      refine ⟨env, F, M, M0, _, rp, o, hn, fun v F' H' s' o' w => ⟨env, F', M, M0, _, rp.mono s', o', hn', fun v2 F2 H2 s2 o2 w2 => ?_⟩⟩
      cases w.f
      cases w2.f
      exact ⟨m, n, rfl, hb, k _ F2 H2 (s'.trans s2) o2 walkD_range⟩
    · cases h
  · cases h
theorem pit_e {elts : List Expr} {kk : Nat} {tpos : Pos} (hm : X.mg "enumerate" = none) (h : PD X K e g) (hg : Gl X "enumerate" := by rfl) (hs : starEach [e] X.env = [(false, eval e X.env)] := by rfl) : PIt X K (.Tuple elts kk tpos) (.Call (.Name "enumerate" p) [e] [] pos) (giE g) := fun hK => by
  subst hK
  refine pi_imp (pi_enum hg hm (pa_cons (h rfl) pa_nil hs) hs) fun σ H R ⟨env, F, M, M0, ds, rp, o, h, k⟩ => ?_
  unfold giE at h
  split at h
  · rename_i n hn
    refine ⟨env, F, M, M0, n, rp, o, hn, fun v F' H' s' o' w => ?_⟩
    cases q : kidsL n with
    | none =>
      rw [q] at h
      cases h
    | some es =>
      rw [q] at h
      cases h
      unfold kidsL at q
      split at q
      · cases q
        obtain ⟨a, vs, rfl, ha, r⟩ := rp_lst w.f
        exact ⟨a, vs, rfl, SqL.of (o'.fr _ _ ha), k _ F' H' s' o' (walkD_enum (fun H s _ => SqL.of (s _ _ ha)) r)⟩
      · obtain ⟨S, w, hs⟩ := w
        have e := fds_inv q
        subst e
        obtain ⟨vs, rfl, rfl, r⟩ := ol_inv w
        have hm := hs _ List.mem_cons_self
        exact ⟨_, vs, rfl, SqL.of (o'.mu _ (List.mem_append_left _ hm)), k _ F' H' s' o' (walkD_enum (fun H s hh => SqL.of (hh _ hm)) r)⟩
      · cases q
  · cases h
end
def bYes : B := fun _ => some true
def PBs (X : Cx) (K : PySem.W.Frag) (ifs : List Expr) (b : B) : Prop := X.K = K → PTs X ifs (LB K b)
theorem pts_imp {X : Cx} {ifs : List Expr} {t t' : TT} (h : PTs X ifs t) (i : ∀ σ H Q, t' σ H Q → t σ H Q) : PTs X ifs t' := ⟨fun pins s σ H Q I q => h.run pins s σ H Q I (i σ H Q q)⟩
theorem pbs_nil {X : Cx} {K : PySem.W.Frag} : PBs X K [] bYes := fun _ => pts_imp pts_nil fun σ H Q ⟨env, F, M, M0, c, rp, o, hg, k⟩ => by
  cases hg
  exact k F H (Same.refl _) o
theorem pbs_one {X : Cx} {K : PySem.W.Frag} {e : Expr} {b : B} (h : PB X K e b) : PBs X K [e] b := fun hK => pts_one (h hK)
def comps (st : Tg) (c : B) (e : G) (env : Env) : List D → Option (List D)
  | [] => some []
  | d :: ds => match st d env with
    | none => none
    | some env' => match c env' with
      | some true => match e env', comps st c e env ds with
        | some (.f y), some r => some (y :: r)
        | _, _ => none
      | some false => comps st c e env ds
      | none => none
def gLc (gi : GI) (vs : List Nat) (st : Tg) (c : B) (e : G) : G := fun env => match gi env with
  | some ds => if ds.length ≤ sizeLine then (comps st c e (wipeE env vs) ds).map fun rs => .f (.lst rs) else none
  | none => none
theorem sub_perm {A M : Cells} (h : A.Sublist M) : ∃ R, M.Perm (A ++ R) := by
  obtain ⟨l, hl⟩ := h.exists_perm_append
  exact ⟨l, hl⟩
section
variable {X : Cx} {K : PySem.W.Frag} {e tg elt it : Expr} {ifs : List Expr} {scope : Scope} {own : List (Str × Nat)} {g : G} {gi : GI} {c : B} {st : Tg} {l : List Nat} {pos : Pos}
theorem comps_step {env : Env} {ds : List D} {i : Nat} {d : D} {r2 : List D} (hd : ds[i]? = some d) (h : comps st c g env (ds.drop i) = some r2) : ∃ env', st d env = some env' ∧
    ((c env' = some true ∧ ∃ y r, g env' = some (.f y) ∧ comps st c g env (ds.drop (i + 1)) = some r ∧ r2 = y :: r) ∨ (c env' = some false ∧ comps st c g env (ds.drop (i + 1)) = some r2)) := by
  have hi : i < ds.length := (List.getElem?_eq_some_iff.mp hd).1
  have e : ds.drop i = d :: ds.drop (i + 1) := by
    rw [List.drop_eq_getElem_cons hi]
    have := (List.getElem?_eq_some_iff.mp hd).2
    rw [this]
  rw [e] at h
  unfold comps at h
  split at h
  · cases h
  · rename_i env' hst
    refine ⟨env', hst, ?_⟩
    split at h
    · rename_i hc
      split at h
      · rename_i y r hy hr
        cases h
        exact .inl ⟨hc, y, r, hy, hr, rfl⟩
      · cases h
    · rename_i hc
      exact .inr ⟨hc, h⟩
    · cases h
/-- [elt for target in iter if ..] -/
theorem lcN_imp {vs : List Nat} (hl : ∀ i ∈ l, i ∈ vs) : ∀ σ H Q, LN K (gLc gi vs st c g) σ H Q → tLc (LI K gi) (LTg K l st) (LB K c) (LG K g) vs σ H Q := fun σ H Q ⟨env, F, M, M0, n, rp, o, hgl, k⟩ => by
  unfold gLc at hgl
  split at hgl
  · rename_i ds hds
    split at hgl
    · rename_i hsz
      cases hcs : comps st c g (wipeE env vs) ds with
      | none =>
        rw [hcs] at hgl
        cases hgl
      | some rs =>
        rw [hcs] at hgl
        cases hgl
        refine ⟨env, F, M, M0, ds, rp, o, hds, fun J F1 H1 s1 o1 wk => ?_⟩
        obtain ⟨Gd, Y, w, gd, y⟩ := wk
        obtain ⟨Mw, sub, rpw⟩ := rep_wipe (rp.mono s1) vs
        obtain ⟨R, hR⟩ := sub_perm sub
        refine lcb w o1 (fun i acc F' M' => Same F1 F' ∧ M' = M ++ M0 ∧ ∃ r1 r2, RpAll K F' acc r1 ∧ comps st c g (wipeE env vs) (ds.drop i) = some r2 ∧ rs = r1 ++ r2 ∧ acc.length ≤ i) ⟨Same.refl _, rfl, [], rs, .nil, hcs, rfl, Nat.zero_le _⟩ ?_ ?_ ?_
        · rintro Dd i acc F' M' H' _ ⟨s', rfl, _⟩ o'
          exact gd H' (s'.trans o'.fr) fun cc hcc => o'.mu cc (List.mem_cons_of_mem _ (List.mem_append_left _ hcc))
        · rintro Dd i x acc F' M' H' H'' hi ⟨s', rfl, r1, r2, ra, hc2, rfl, hla⟩ o' hy
          obtain ⟨d, F2, hd, s2, o2, rd⟩ := y i H' x H'' F' _ hi s' o' hy
          obtain ⟨env', hst, cs⟩ := comps_step hd hc2
          have pp : ((Dd, HO.lst acc) :: (M ++ M0)).Perm (Mw ++ ((Dd, HO.lst acc) :: (R ++ M0))) := by
            have a : (M ++ M0).Perm (Mw ++ (R ++ M0)) := by
              rw [← List.append_assoc]
              exact perm_tail hR
            exact (a.cons _).trans (perm_mid [(Dd, HO.lst acc)] Mw (R ++ M0))
          refine ⟨wipeE env vs, F2, Mw, (Dd, .lst acc) :: (R ++ M0), d, env', rpw.mono (s'.trans s2), o2.perm pp, rd, hst, fun σ2 M2 T of2 p2 rp2 => ⟨wipe_off of2 hl, ?_⟩⟩
          have sz : acc.length < sizeLine := by
            have := (List.getElem?_eq_some_iff.mp hd).1
            omega
          have pp2 : ((Dd, HO.lst acc) :: (M ++ M0)).Perm (M2 ++ ((Dd, HO.lst acc) :: (T ++ (R ++ M0)))) := by
            refine pp.trans ?_
            refine (p2.append_right _).trans ?_
            rw [List.append_assoc]
            refine (perm_mid T M2 _).trans ?_
            exact (perm_mid T [(Dd, HO.lst acc)] _).append_left M2
          have o3 : Own F2 (M2 ++ ((Dd, HO.lst acc) :: (T ++ (R ++ M0)))) H'' := o2.perm pp2
          rcases cs with ⟨hcc, z, r, hz, hr, rfl⟩ | ⟨hcc, hr⟩
          · refine ⟨env', F2, M2, _, true, rp2, o3, hcc, fun F4 H4 s4 o4 => ?_⟩
            refine iteT ?_
            refine ⟨env', F4, M2, _, _, rp2.mono s4, o4, hz, fun v F5 H5 s5 o5 w5 => ?_⟩
            refine lcN ⟨acc, F5, M ++ M0, sz, ⟨s'.trans (s2.trans (s4.trans s5)), rfl, r1 ++ [z], r, (ra.mono (s2.trans (s4.trans s5))).app (.cons w5.f .nil), hr, by rw [List.append_assoc]; rfl, ?_⟩, o5.perm pp2.symm⟩
            rw [List.length_append]
            show acc.length + 1 ≤ i + 1
            omega
          · refine ⟨env', F2, M2, _, false, rp2, o3, hcc, fun F4 H4 s4 o4 => ?_⟩
            refine iteF ?_
            exact ⟨acc, F4, M ++ M0, ⟨s'.trans (s2.trans s4), rfl, r1, r2, ra.mono (s2.trans s4), hr, rfl, by omega⟩, o4.perm pp2.symm⟩
        · rintro Dd acc F' M' H' nD ⟨s', rfl, r1, r2, ra, hc2, rfl, hla⟩ o'
          rw [List.drop_length] at hc2
          cases hc2
          refine k Dd _ [(Dd, .lst acc)] F' H' (s1.trans s') o' ?_
          rw [List.append_nil]
          exact ow_ol ra
    · cases hgl
  · cases hgl
theorem pn_lc (hc : X.calm = true) (hN : X.N.Nodup) (hi : PIt X K tg it gi) (ok : BlkOk X.N X.env.scope scope own) (hl : ∀ i ∈ l, i ∈ own.map (·.2))
    (hg : ∀ (s : Shared) (H : Hp) (C : Addr) (cl : List (Str × Addr)) (fp : List Addr), PTg (X.blk s H scope (compEnvC scope cl C X.env) fp) K tg l st)
    (ht : ∀ (s : Shared) (H : Hp) (C : Addr) (cl : List (Str × Addr)) (fp : List Addr), PBs (X.blk s H scope (compEnvC scope cl C X.env) fp) K ifs c)
    (he : ∀ (s : Shared) (H : Hp) (C : Addr) (cl : List (Str × Addr)) (fp : List Addr), PD (X.blk s H scope (compEnvC scope cl C X.env) fp) K elt g) (hs : ∀ x, foldedSetIterable it X.env x = pure x := by intro _; rfl) :
    PN X K (.ListComp elt [⟨tg, it, ifs, 0⟩] scope pos) (gLc gi (own.map (·.2)) st c g) := fun hK =>
  pe_imp (pe_lc hc hN (hi hK) ok (fun s H C cl fp => hg s H C cl fp hK) (fun s H C cl fp => ht s H C cl fp hK) (fun s H C cl fp => he s H C cl fp hK) hs) (lcN_imp hl)
end
/-! ### bodies of defs -/
/-- where a container is laid -/
def N.ad : N → Option Addr
  | .f _ => none
  | .lst a _ => some a
  | .tup a _ => some a
  | .dic a _ => some a
  | .obj a _ _ _ => some a
theorem Ow.ad {K : PySem.W.Frag} {F : Hp} {v : V} {n : N} {S : Cells} {a : Addr} (h : Ow K F v n S) (e : n.ad = some a) : v = .ref a := by
  cases h with
  | f h => cases e
  | _ =>
    cases e
    rfl
def outs : List Sl → Env → List Sl
  | .fz d :: ss, _ :: e => .fz d :: outs ss e
  | s :: ss, o :: e => o.getD s :: outs ss e
  | ss, _ => ss
def Pins : List Sl → Env → Prop
  | [], _ => True
  | .fz _ :: ss, _ :: e => Pins ss e
  | .ow n :: ss, o :: e => (∃ n' a, n.ad = some a ∧ n'.ad = some a ∧ o = some (.ow n')) ∧ Pins ss e
  | .cu v _ :: ss, o :: e => (∃ c, o = some (.cu v c)) ∧ Pins ss e
  | _, [] => False
theorem outs_all {K : PySem.W.Frag} {F F' : Hp} (s : Same F F') : ∀ {vs : List V} {ss : List Sl} {Ms : Cells} {σ' : L2.St} {env' : Env} {M' : Cells}, SlAll K F vs ss Ms → Rep K F' σ' env' M' → Pins ss env' → ∃ Ms' T, SlAll K F' vs (outs ss env') Ms' ∧ M'.Perm (T ++ Ms')
  | _, _, _, _, env', M', .nil, rp, _ => by
    refine ⟨[], M', ?_, by rw [List.append_nil]⟩
    unfold outs
    exact .nil
  | _, .fz d :: ss, _, _, [], _, .cons a t, rp, h => h.elim
  | _, .ow _ :: ss, _, _, [], _, .cons a t, rp, h => h.elim
  | _, .cu _ _ :: ss, _, _, [], _, .cons a t, rp, h => h.elim
  | _, .fz d :: ss, _, _, _ :: e, _, .cons a t, .non rp, h => by
    obtain ⟨Ms', T, h1, h2⟩ := outs_all s t rp h
    exact ⟨Ms', T, SlAll.cons (S := []) ⟨rfl, (a.2).mono s⟩ h1, h2⟩
  | _, .fz d :: ss, _, _, _ :: e, _, .cons a t, .som (S := S) q rp, h => by
    obtain ⟨Ms', T, h1, h2⟩ := outs_all s t rp h
    refine ⟨Ms', S ++ T, SlAll.cons (S := []) ⟨rfl, (a.2).mono s⟩ h1, ?_⟩
    rw [List.append_assoc]
    exact h2.append_left S
  | _, .ow n :: ss, _, _, _ :: e, _, .cons a t, .non rp, h => by
    obtain ⟨⟨n', b, _, _, e1⟩, _⟩ := h
    cases e1
  | _, .ow n :: ss, _, _, _ :: e, _, .cons a t, .som (S := S) q rp, h => by
    obtain ⟨⟨n', b, d1, d2, e1⟩, h⟩ := h
    cases e1
    obtain ⟨Ms', T, h1, h2⟩ := outs_all s t rp h
    have e2 := Ow.ad a d1
    have e3 := Ow.ad q d2
    subst e3
    subst e2
    exact ⟨S ++ Ms', T, .cons q h1, (h2.append_left S).trans (perm_mid S T Ms')⟩
  | _, .cu v n :: ss, _, _, _ :: e, _, .cons a t, .non rp, h => by
    obtain ⟨⟨n', e1⟩, _⟩ := h
    cases e1
  | _, .cu v n :: ss, _, _, _ :: e, _, .cons a t, .som (S := S) q rp, h => by
    obtain ⟨⟨n', e1⟩, h⟩ := h
    cases e1
    obtain ⟨Ms', T, h1, h2⟩ := outs_all s t rp h
    have e2 := a.1
    have e3 := q.1
    subst e3
    subst e2
    exact ⟨S ++ Ms', T, .cons q h1, (h2.append_left S).trans (perm_mid S T Ms')⟩
def endsP (ss : List Sl) (q : Sl → List Sl → Prop) (w : Str → List (Str × D) → List Sl → Prop) : EP' where
  nx := fun env' => Pins ss env' ∧ q (.fz .non) (outs ss env')
  rt := fun r env' => Pins ss env' ∧ q r (outs ss env')
  bk := fun _ => False
  ct := fun _ => False
  ex := fun c fs env' => Pins ss env' ∧ w c fs (outs ss env')
def env0 (n : Nat) (ss : List Sl) : Env := ss.map some ++ List.replicate (n - ss.length) none
theorem rep_start {K : PySem.W.Frag} {F : Hp} (k : Nat) : ∀ {vs : List V} {ss : List Sl} {Ms : Cells}, SlAll K F vs ss Ms → Rep K F (vs.map some ++ List.replicate k none) (ss.map some ++ List.replicate k none) Ms
  | _, _, _, .nil => by
    show Rep K F (List.replicate k none) (List.replicate k none) []
    induction k with
    | zero => exact .nil
    | succ n ih => exact .non ih
  | _, _, _, .cons a t => .som a (rep_start k t)
theorem body_of {K : PySem.W.Frag} {N : List Str} {n : Nat} {C : FS} {f : FSt} {vs : List V} {H : Hp} {Q : VK} {E : XK} {W : WX} (hW : ∀ cls d σ H, E cls d H → W cls d σ H) (h : spP K n C vs H Q E)
    (hf : ∀ ss q w, ss.length = n → C ss q w → f (env0 N.length ss) (endsP ss q w)) : LS K W f { nx := fun _ H' => Q .non H', rt := Q } (L2.start N vs) H := by
  obtain ⟨ss, F, Ms, M0, q, w, hn, sa, o, hC, kq, kw⟩ := h
  have rp := rep_start (N.length - vs.length) sa
  refine ⟨env0 N.length ss, F, Ms, M0, _, ?_, o, hf ss q w hn hC, ⟨?_, ?_, ?_, ?_, ?_⟩⟩
  · unfold env0 L2.start
    rw [← sa.len]
    exact rp
  · rintro env' σ' F' M' H' ⟨hp, hq⟩ s' rp' o'
    obtain ⟨Ms', T, h1, h2⟩ := outs_all s' sa rp' hp
    exact kq _ _ .non [] F' Ms' H' hq s' ⟨rfl, .non⟩ h1 (show Own F' (Ms' ++ M0) H' from own_less h2 o')
  · rintro r env' v S σ' F' M' H' ⟨hp, hq⟩ s' sl rp' o'
    obtain ⟨Ms', T, h1, h2⟩ := outs_all s' sa rp' hp
    refine kq _ _ v S F' Ms' H' hq s' sl h1 ?_
    have p : (S ++ (M' ++ M0)).Perm (T ++ (S ++ (Ms' ++ M0))) := by
      have a := h2.append_right M0
      rw [List.append_assoc] at a
      exact (a.append_left S).trans (perm_mid S T _)
    exact (o'.perm p).sub (List.sublist_append_right T _)
  · intro env' σ' F' M' H' z
    exact z.elim
  · intro env' σ' F' M' H' z
    exact z.elim
  · rintro c fs env' cls d σ' F' M' H' ⟨hp, hq⟩ s' xr rp' o'
    obtain ⟨Ms', T, h1, h2⟩ := outs_all s' sa rp' hp
    exact hW cls d σ' H' (kw c fs _ cls d F' Ms' H' hq s' xr h1 (own_less h2 o'))
end Pu

/-! ## Pu: further operators; the source of draws -/
namespace Pu
open PySem PySem.Spec PyProof.Rows L2 Ed
/-! ### is None -/
def isND : D → D → Option D := fun x y => match y with
  | .non => match x with
    | .raw _ => none
    | .non => some (.bl true)
    | _ => some (.bl false)
  | _ => none
def notND : D → D → Option D := fun x y => match y with
  | .non => match x with
    | .raw _ => none
    | .non => some (.bl false)
    | _ => some (.bl true)
  | _ => none
theorem s2_isN {K : PySem.W.Frag} : S2 K rIsNo (fOp isND) := s2_flat fun H v1 v2 d1 d2 d Q r1 r2 e => by
  unfold isND at e
  split at e
  · cases r2
    cases r1 <;> first | (cases e; exact ⟨rfl, fun q => ⟨rfl, q⟩⟩) | cases e
  · cases e
theorem s2_notN {K : PySem.W.Frag} : S2 K rNotNo (fOp notND) := s2_flat fun H v1 v2 d1 d2 d Q r1 r2 e => by
  unfold notND at e
  split at e
  · cases r2
    cases r1 <;> first | (cases e; exact ⟨rfl, fun q => ⟨rfl, q⟩⟩) | cases e
  · cases e
section
variable {X : Cx} {K : PySem.W.Frag} {W : WX} {a b c e : Expr} {ga gb gc g : G} {fa fb : FX} {pos : Pos}
theorem pd_isN (ha : PD X K a ga) (hb : PD X K b gb) : PD X K (.Compare a [.Is] [b] pos) (gOp (fOp isND) ga gb) := pd_cmp kIsN s2_isN ha hb (nobehind _ (by decide) (by decide))
theorem pd_notN (ha : PD X K a ga) (hb : PD X K b gb) : PD X K (.Compare a [.IsNot] [b] pos) (gOp (fOp notND) ga gb) := pd_cmp kNotN s2_notN ha hb (nobehind _ (by decide) (by decide))
/-! ### comparisons as tests -/
theorem pb_isN (ha : PD X K a ga) (hb : PD X K b gb) : PB X K (.Compare a [.Is] [b] pos) (bV (gOp (fOp isND) ga gb)) := pb_cmp kIsN s2_isN ha hb (nobehind _ (by decide) (by decide))
theorem pb_notN (ha : PD X K a ga) (hb : PD X K b gb) : PB X K (.Compare a [.IsNot] [b] pos) (bV (gOp (fOp notND) ga gb)) := pb_cmp kNotN s2_notN ha hb (nobehind _ (by decide) (by decide))
theorem pb_eq (hu : X.A.units + 64 < cLine) (ha : PD X K a ga) (hb : PD X K b gb) : PB X K (.Compare a [.Eq] [b] pos) (bV (gOp (fOp eqD) ga gb)) := fun hK => by
  subst hK
  exact pb_cmp (OpR.or op_eq (op_eqD hu)) s2_eq ha hb (nobehind _ (by decide) (by decide)) rfl
theorem pb_ne (hu : X.A.units + 64 < cLine) (ha : PD X K a ga) (hb : PD X K b gb) : PB X K (.Compare a [.NotEq] [b] pos) (bV (gOp (fOp neD) ga gb)) := fun hK => by
  subst hK
  exact pb_cmp (OpR.or op_ne (op_neD hu)) s2_ne ha hb (nobehind _ (by decide) (by decide)) rfl
theorem pb_lt (ha : PD X K a ga) (hb : PD X K b gb) : PB X K (.Compare a [.Lt] [b] pos) (bV (gOp (fOp ltD) ga gb)) := pb_cmp op_lt (s2_int (g := fun i j => .bl (decide (i < j))) fun _ _ => rfl) ha hb (nobehind _ (by decide) (by decide))
theorem pb_le (ha : PD X K a ga) (hb : PD X K b gb) : PB X K (.Compare a [.LtE] [b] pos) (bV (gOp (fOp leD) ga gb)) := pb_cmp op_le (s2_int (g := fun i j => .bl (decide (i ≤ j))) fun _ _ => rfl) ha hb (nobehind _ (by decide) (by decide))
theorem pb_gt (ha : PD X K a ga) (hb : PD X K b gb) : PB X K (.Compare a [.Gt] [b] pos) (bV (gOp (fOp gtD) ga gb)) := pb_cmp op_gt (s2_int (g := fun i j => .bl (decide (i > j))) fun _ _ => rfl) ha hb (nobehind _ (by decide) (by decide))
theorem pb_ge (ha : PD X K a ga) (hb : PD X K b gb) : PB X K (.Compare a [.GtE] [b] pos) (bV (gOp (fOp geD) ga gb)) := pb_cmp op_ge (s2_int (g := fun i j => .bl (decide (i ≥ j))) fun _ _ => rfl) ha hb (nobehind _ (by decide) (by decide))
theorem pb_in (ha : PD X K a ga) (hb : PD X K b gb) (hm : behindInMarks .In b = false := by rfl) : PB X K (.Compare a [.In] [b] pos) (bV (gOp (fOp inD) ga gb)) := fun hK => by
  subst hK
  exact pb_cmp (OpR.or op_in_seq op_inS) s2_in ha hb hm rfl
theorem pb_nin (ha : PD X K a ga) (hb : PD X K b gb) (hm : behindInMarks .NotIn b = false := by rfl) : PB X K (.Compare a [.NotIn] [b] pos) (bV (gOp (fOp ninD) ga gb)) := fun hK => by
  subst hK
  exact pb_cmp (OpR.or op_notIn_seq op_ninS) s2_nin ha hb hm rfl
theorem pb_din (hu : X.A.units + 1 < cLine) (ha : PD X K a ga) (hb : PD X K b gb) (hm : behindInMarks .In b = false := by rfl) : PB X K (.Compare a [.In] [b] pos) (bV (gOp (fOp dinD) ga gb)) := fun hK =>
  pt_imp (pt_cmp (pc_din hu (ha hK) (hb hK)) hm) fun σ H Q h => lb_test (r := fun y x H2 Q => ∃ a o, x = .ref a ∧ DGet H2 a y o ∧ Q (.bl o.isSome) H2) (s2_flat fun H v1 v2 d1 d2 d Q r1 r2 e => by
    unfold dinD at e
    cases q : dinB d1 d2 with
    | none =>
      rw [q] at e
      cases e
    | some b =>
      rw [q] at e
      cases e
      obtain ⟨a, o, h1, h2, rfl⟩ := dinB_inv r1 r2 q
      exact ⟨rfl, fun k => ⟨a, o, h1, h2, k⟩⟩) σ H Q h
theorem pb_dnin (hu : X.A.units + 1 < cLine) (ha : PD X K a ga) (hb : PD X K b gb) (hm : behindInMarks .NotIn b = false := by rfl) : PB X K (.Compare a [.NotIn] [b] pos) (bV (gOp (fOp dninD) ga gb)) := fun hK =>
  pt_imp (pt_cmp (pc_dnotin hu (ha hK) (hb hK)) hm) fun σ H Q h => lb_test (r := fun y x H2 Q => ∃ a o, x = .ref a ∧ DGet H2 a y o ∧ Q (.bl (!o.isSome)) H2) (s2_flat fun H v1 v2 d1 d2 d Q r1 r2 e => by
    unfold dninD at e
    cases q : dinB d1 d2 with
    | none =>
      rw [q] at e
      cases e
    | some b =>
      rw [q] at e
      cases e
      obtain ⟨a, o, h1, h2, rfl⟩ := dinB_inv r1 r2 q
      exact ⟨rfl, fun k => ⟨a, o, h1, h2, k⟩⟩) σ H Q h
theorem pxt_eq (hu : X.A.units + 64 < cLine) (ha : PX X K W a fa) (hb : PX X K W b fb) : PXT X K W (.Compare a [.Eq] [b] pos) (tXb (xOp (fOp eqD) fa fb)) := fun hK => by
  subst hK
  exact pxt_op (OpR.or op_eq (op_eqD hu)) s2_eq ha hb (nobehind _ (by decide) (by decide)) rfl
theorem pxt_ne (hu : X.A.units + 64 < cLine) (ha : PX X K W a fa) (hb : PX X K W b fb) : PXT X K W (.Compare a [.NotEq] [b] pos) (tXb (xOp (fOp neD) fa fb)) := fun hK => by
  subst hK
  exact pxt_op (OpR.or op_ne (op_neD hu)) s2_ne ha hb (nobehind _ (by decide) (by decide)) rfl
theorem pxt_lt (ha : PX X K W a fa) (hb : PX X K W b fb) : PXT X K W (.Compare a [.Lt] [b] pos) (tXb (xOp (fOp ltD) fa fb)) := pxt_op op_lt (s2_int (g := fun i j => .bl (decide (i < j))) fun _ _ => rfl) ha hb (nobehind _ (by decide) (by decide))
theorem pxt_gt (ha : PX X K W a fa) (hb : PX X K W b fb) : PXT X K W (.Compare a [.Gt] [b] pos) (tXb (xOp (fOp gtD) fa fb)) := pxt_op op_gt (s2_int (g := fun i j => .bl (decide (i > j))) fun _ _ => rfl) ha hb (nobehind _ (by decide) (by decide))
/-! a < b <= c of ints -/
def gCh (o o' : D → D → Option D) (ga gb gc : G) : G := fun env => match ga env, gb env with
  | some x, some y => match o x.toD y.toD with
    | some (.bl true) => match gc env with
      | some z => (o' y.toD z.toD).map N.f
      | none => none
    | some (.bl false) => some (.f (.bl false))
    | _ => none
  | _, _ => none
structure SC (K : PySem.W.Frag) (r : R2) (o : D → D → Option D) : Prop where
  run : ∀ {H : Hp} {v1 v2 : V} {d1 d2 d : D} {Q : VK}, Rp K H v1 d1 → Rp K H v2 d2 → o d1 d2 = some d → flatD d = true ∧ (Q d.v H → r v1 v2 H Q)
theorem sc_int {g : Int → Int → D} (hf : ∀ i j, flatD (g i j) = true) : SC K (rI0 fun i j => (g i j).v) (iOp g) := ⟨fun {H v1 v2 d1 d2 d Q} r1 r2 e => by
  obtain ⟨i, j, rfl, rfl, rfl⟩ := iOp_some e
  cases r1
  cases r2
  exact ⟨hf _ _, fun q => ⟨i, j, rfl, rfl, q⟩⟩⟩
theorem lg_ch {r r' : R2} {o o' : D → D → Option D} (s : SC K r o) (s' : SC K r' o') : ∀ σ H Q, LG K (gCh o o' ga gb gc) σ H Q → tChain r r' (LG K ga) (LG K gb) (LG K gc) σ H Q := fun σ H Q ⟨env, F, M, M0, n, rp, ow, hg, k⟩ => by
  unfold gCh at hg
  split at hg
  · rename_i x y h1 h2
    refine ⟨env, F, M, M0, x, rp, ow, h1, fun v F1 H1 s1 o1 w1 => ⟨env, F1, M, M0, y, rp.mono s1, o1, h2, fun u F2 H2 s2 o2 w2 => ?_⟩⟩
    split at hg
    · rename_i q
      obtain ⟨_, kk⟩ := s.run (Q := fun z H3 => ∃ k, z = .bl k ∧ (if k = true then LG K gc σ H3 fun w' H4 => r' u w' H4 Q else Q (.bl false) H3)) ((w1.mono s2).rp o2) (w2.rp o2) q
      refine kk ⟨true, rfl, iteT ?_⟩
      split at hg
      · rename_i z h3
        cases q2 : o' y.toD z.toD with
        | none =>
          rw [q2] at hg
          cases hg
        | some d =>
          rw [q2] at hg
          cases hg
          refine ⟨env, F2, M, M0, z, rp.mono (s1.trans s2), o2, h3, fun u3 F3 H3 s3 o3 w3 => ?_⟩
          obtain ⟨fd, kk2⟩ := s'.run (Q := Q) ((w2.mono s3).rp o3) (w3.rp o3) q2
          exact kk2 (k d.v F3 H3 (s1.trans (s2.trans s3)) o3 (Vw.of (rp_flat fd)))
      · cases hg
    · rename_i q
      obtain ⟨_, kk⟩ := s.run (Q := fun z H3 => ∃ k, z = .bl k ∧ (if k = true then LG K gc σ H3 fun w' H4 => r' u w' H4 Q else Q (.bl false) H3)) ((w1.mono s2).rp o2) (w2.rp o2) q
      cases hg
      exact kk ⟨false, rfl, iteF (k (.bl false) F2 H2 (s1.trans s2) o2 (Vw.of (.bl false)))⟩
    · cases hg
  · cases hg
theorem pd_ch {op op' : CmpOp} {r r' : R2} {o o' : D → D → Option D} (ho : OpR X (compareOp op) r) (ho' : OpR X (compareOp op') r') (s : SC K r o) (s' : SC K r' o') (ha : PD X K a ga) (hb : PD X K b gb) (hc : PD X K c gc) (hm : lastMarks [op, op'] [b, c] = false := by with_unfolding_all rfl) : PD X K (.Compare a [op, op'] [b, c] pos) (gCh o o' ga gb gc) := fun hK => pe_imp (pe_chain ho ho' (ha hK) (hb hK) (hc hK) hm) (lg_ch s s')
theorem pb_ch {op op' : CmpOp} {r r' : R2} {o o' : D → D → Option D} (ho : OpR X (compareOp op) r) (ho' : OpR X (compareOp op') r') (s : SC K r o) (s' : SC K r' o') (ha : PD X K a ga) (hb : PD X K b gb) (hc : PD X K c gc) (hm : lastMarks [op, op'] [b, c] = false := by with_unfolding_all rfl) : PB X K (.Compare a [op, op'] [b, c] pos) (bV (gCh o o' ga gb gc)) := fun hK => pt_imp (pt_chain ho ho' (ha hK) (hb hK) (hc hK) hm) fun σ H Q h => by
  obtain ⟨env, F, M, M0, cc, rp, o, hg, k⟩ := h
  refine lg_ch s s' σ H _ ⟨env, F, M, M0, _, rp, o, bV_some hg, fun v F' H' s' o' w => ?_⟩
  cases w.f
  exact ⟨cc, rfl, k F' H' s' o'⟩
theorem sc_lt : SC K (rI0 fun i j => V.bl (decide (i < j))) ltD := sc_int (g := fun i j => .bl (decide (i < j))) fun _ _ => rfl
theorem sc_le : SC K (rI0 fun i j => V.bl (decide (i ≤ j))) leD := sc_int (g := fun i j => .bl (decide (i ≤ j))) fun _ _ => rfl
/-! ### texts -/
def dstrs : List D → Option (List Str)
  | [] => some []
  | .str s :: ds => (dstrs ds).map (s :: ·)
  | _ => none
def joinD : D → D → Option D
  | .str a, .lst ds => match dstrs ds with
    | some ys => if (ys.map (·.length)).sum + ys.length * a.length ≤ 16777216 then some (.str (Txt.join a ys)) else none
    | none => none
  | _, _ => none
theorem strs_inv {H : Hp} : ∀ {vs : List V} {ds : List D} {ys : List Str}, RpAll K H vs ds → dstrs ds = some ys → vs = ys.map V.str
  | _, _, ys, .nil, h => by
    cases h
    rfl
  | _, _, ys, .cons (d := d) (ds := ds) a t, h => by
    cases d with
    | str s =>
      unfold dstrs at h
      cases q : dstrs ds with
      | none =>
        rw [q] at h
        cases h
      | some zs =>
        rw [q] at h
        cases h
        cases a
        rw [strs_inv t q]
        rfl
    | _ => cases h
theorem strs_map : ∀ (ys : List Str), dstrs (ys.map D.str) = some ys
  | [] => rfl
  | y :: ys => by
    show (dstrs (ys.map D.str)).map (y :: ·) = _
    rw [strs_map ys]
    rfl
theorem lg_m1 {r : V → List V → Hp → VK → Prop} {o : D → D → Option D} (s : ∀ (H : Hp) (v1 v2 : V) (d1 d2 d : D) (Q : VK), Rp K H v1 d1 → Rp K H v2 d2 → o d1 d2 = some d → flatD d = true ∧ (∃ z, d1 = .str z) ∧ (Q d.v H → r v1 [v2] H Q)) (o1 : ∀ d1 d2, (∃ z, d1 = .str z) ∨ o d1 d2 = none) : ∀ σ H Q, LG K (gOp (fOp o) ga gb) σ H Q → tM1 r (LG K ga) (LG K gb) σ H Q := fun σ H Q ⟨env, F, M, M0, n, rp, ow, hg, k⟩ => by
  obtain ⟨x, y, h1, h2, h3⟩ := gOp_some hg
  unfold fOp at h3
  cases q : o x.toD y.toD with
  | none =>
    rw [q] at h3
    cases h3
  | some d =>
    rw [q] at h3
    cases h3
    refine ⟨env, F, M, M0, x, rp, ow, h1, fun v F1 H1 s1 w1o w1 => ⟨?_, ⟨env, F1, M, M0, y, rp.mono s1, w1o, h2, fun u F2 H2 s2 o2 w2 => ?_⟩⟩⟩
    · rcases o1 x.toD y.toD with ⟨z, hz⟩ | hz
      · have r := w1.rp w1o
        rw [hz] at r
        cases r
        exact ⟨z, rfl⟩
      · rw [hz] at q
        cases q
    · obtain ⟨fd, _, kk⟩ := s H2 v u _ _ d Q ((w1.mono s2).rp o2) (w2.rp o2) q
      exact kk (k d.v F2 H2 (s1.trans s2) o2 (Vw.of (rp_flat fd)))
def startsD : D → D → Option D
  | .str a, .str b => some (.bl (Txt.startswith a b))
  | _, _ => none
def endsD : D → D → Option D
  | .str a, .str b => some (.bl (Txt.endswith a b))
  | _, _ => none
theorem pd_join {cl : Expr} (h : PE X cl (tM1 (rJoin K) (LG K ga) (LG K gb))) : PD X K cl (gOp (fOp joinD) ga gb) := fun hK => pe_imp h (lg_m1 (fun H v1 v2 d1 d2 d Q r1 r2 e => by
  unfold joinD at e
  split at e
  · split at e
    · split at e
      · rename_i ys hy hb
        cases e
        cases r1
        obtain ⟨a, vs, rfl, ha, ra⟩ := rp_lst r2
        have e := strs_inv ra hy
        subst e
        exact ⟨rfl, ⟨_, rfl⟩, fun q => ⟨_, a, ys, rfl, rfl, .inl (SqL.of ha), hb, q⟩⟩
      · cases e
    · cases e
  · cases e) fun d1 d2 => by cases d1 <;> first | exact .inl ⟨_, rfl⟩ | exact .inr rfl)
theorem pd_starts {cl : Expr} (h : PE X cl (tM1 rStarts (LG K ga) (LG K gb))) : PD X K cl (gOp (fOp startsD) ga gb) := fun hK => pe_imp h (lg_m1 (fun H v1 v2 d1 d2 d Q r1 r2 e => by
  unfold startsD at e
  split at e
  · cases e
    cases r1
    cases r2
    exact ⟨rfl, ⟨_, rfl⟩, fun q => ⟨_, _, rfl, rfl, q⟩⟩
  · cases e) fun d1 d2 => by cases d1 <;> first | exact .inl ⟨_, rfl⟩ | exact .inr rfl)
theorem pd_ends {cl : Expr} (h : PE X cl (tM1 rEnds (LG K ga) (LG K gb))) : PD X K cl (gOp (fOp endsD) ga gb) := fun hK => pe_imp h (lg_m1 (fun H v1 v2 d1 d2 d Q r1 r2 e => by
  unfold endsD at e
  split at e
  · cases e
    cases r1
    cases r2
    exact ⟨rfl, ⟨_, rfl⟩, fun q => ⟨_, _, rfl, rfl, q⟩⟩
  · cases e) fun d1 d2 => by cases d1 <;> first | exact .inl ⟨_, rfl⟩ | exact .inr rfl)
theorem rpAll_strs {F : Hp} : ∀ (ys : List Str), RpAll K F (ys.map V.str) (ys.map D.str)
  | [] => .nil
  | y :: ys => .cons (.str y) (rpAll_strs ys)
def splitN : N → N → Option N
  | .f (.str a), .f (.str b) => if (b.length == 0) = false ∧ a.length + 2 ≤ sizeLine then some (.f (.lst ((Txt.split a b).map D.str))) else none
  | _, _ => none
theorem pn_split {cl : Expr} (h : PE X cl (tM1 rSplit (LG K ga) (LG K gb))) : PN X K cl (gOp splitN ga gb) := fun hK => pe_imp h fun σ H Q ⟨env, F, M, M0, n, rp, ow, hg, k⟩ => by
  obtain ⟨x, y, h1, h2, h3⟩ := gOp_some hg
  unfold splitN at h3
  split at h3
  · split at h3
    · rename_i hc
      cases h3
      refine ⟨env, F, M, M0, _, rp, ow, h1, fun v F1 H1 s1 o1 w1 => ?_⟩
      cases w1.f
      refine ⟨⟨_, rfl⟩, ⟨env, F1, M, M0, _, rp.mono s1, o1, h2, fun u F2 H2 s2 o2 w2 => ?_⟩⟩
      cases w2.f
      exact ⟨_, _, rfl, rfl, hc.1, hc.2, new_ol o2 (s1.trans s2) (rpAll_strs _) k⟩
    · cases h3
  · cases h3
def partN : N → N → Option N
  | .f (.str a), .f (.str b) => if (b.length == 0) = false ∧ a.length ≤ sizeLine then some (.f (.tup [.str (Txt.partition a b).1, .str (Txt.partition a b).2.1, .str (Txt.partition a b).2.2])) else none
  | _, _ => none
theorem pd_part {cl : Expr} (h : PE X cl (tM1 rPart (LG K ga) (LG K gb))) : PD X K cl (gOp partN ga gb) := fun hK => pe_imp h fun σ H Q ⟨env, F, M, M0, n, rp, ow, hg, k⟩ => by
  obtain ⟨x, y, h1, h2, h3⟩ := gOp_some hg
  unfold partN at h3
  split at h3
  · split at h3
    · rename_i hc
      cases h3
      refine ⟨env, F, M, M0, _, rp, ow, h1, fun v F1 H1 s1 o1 w1 => ?_⟩
      cases w1.f
      refine ⟨⟨_, rfl⟩, ⟨env, F1, M, M0, _, rp.mono s1, o1, h2, fun u F2 H2 s2 o2 w2 => ?_⟩⟩
      cases w2.f
      refine ⟨_, _, rfl, rfl, hc.1, hc.2, fun p hp => ?_⟩
      have n := o2.free hp
      exact k _ _ _ ((s1.trans s2).trans (same_upd n)) (o2.newF hp) (Vw.of (.tup (SqT.of upd_same) (.cons (.str _) (.cons (.str _) (.cons (.str _) .nil)))))
    · cases h3
  · cases h3
/-! ### xs[::-1], any, all, dict(pairs) -/
theorem pn_rev {cl : Expr} (h : PE X cl (tRevL K (LG K ga))) : PN X K cl (gUn gRev ga) := fun hK => pe_imp h fun σ H Q ⟨env, F, M, M0, n, rp, ow, hg, k⟩ => by
  obtain ⟨x, h1, h2⟩ := gUn_some hg
  unfold gRev at h2
  cases q : kidsL x with
  | none =>
    rw [q] at h2
    cases h2
  | some ds =>
    rw [q] at h2
    cases h2
    refine ⟨env, F, M, M0, x, rp, ow, h1, fun v F1 H1 s1 o1 w1 => ?_⟩
    obtain ⟨a1, vs, rfl, e1, r1⟩ := w1.kids o1 (fun c hc => List.mem_append_left _ hc) q
    exact ⟨a1, vs, rfl, SqL.of e1, new_ol o1 s1 r1.rev k⟩
end
def bools : List D → Option (List Bool)
  | [] => some []
  | .bl b :: ds => (bools ds).map (b :: ·)
  | _ => none
theorem bools_inv {K : PySem.W.Frag} {H : Hp} : ∀ {vs : List V} {ds : List D} {ys : List Bool}, RpAll K H vs ds → bools ds = some ys → vs = ys.map V.bl
  | _, _, ys, .nil, h => by
    cases h
    rfl
  | _, _, ys, .cons (d := d) (ds := ds) a t, h => by
    cases d with
    | bl s =>
      unfold bools at h
      cases q : bools ds with
      | none =>
        rw [q] at h
        cases h
      | some zs =>
        rw [q] at h
        cases h
        cases a
        rw [bools_inv t q]
        rfl
    | _ => cases h
theorem bools_map : ∀ (ys : List Bool), bools (ys.map D.bl) = some ys
  | [] => rfl
  | y :: ys => by
    show (bools (ys.map D.bl)).map (y :: ·) = _
    rw [bools_map ys]
    rfl
def anyD : D → Option D
  | .lst ds => (bools ds).map fun bs => .bl (bs.any id)
  | _ => none
def allD : D → Option D
  | .lst ds => (bools ds).map fun bs => .bl (bs.all id)
  | _ => none
section
variable {X : Cx} {K : PySem.W.Frag} {W : WX} {e : Expr} {g : G} {pos p : Pos}
theorem pd_any (hc : X.calm = true) (hm : X.mg "any" = none) (ha : PAs X K [e] [g]) (hg : Gl X "any" := by rfl) (he : starEach [e] X.env = (false, eval e X.env) :: starEach [] X.env := by rfl) : PD X K (.Call (.Name "any" p) [e] [] pos) (gArgs (fA1 anyD) [g]) := fun hK => by
  subst hK
  exact pd_callB (cr_any hc) (sa_flat1 fun H v1 d1 d Q r1 e => by
    unfold anyD at e
    split at e
    · rename_i ds
      cases q : bools ds with
      | none =>
        rw [q] at e
        cases e
      | some bs =>
        rw [q] at e
        cases e
        obtain ⟨a, vs, rfl, ha, ra⟩ := rp_lst r1
        have e := bools_inv ra q
        subst e
        exact ⟨rfl, fun k => ⟨a, bs, rfl, SqL.of ha, k⟩⟩
    · cases e) hg hm (by decide +kernel) ha (by decide) (by decide) he rfl rfl
theorem pd_all (hc : X.calm = true) (hm : X.mg "all" = none) (ha : PAs X K [e] [g]) (hg : Gl X "all" := by rfl) (he : starEach [e] X.env = (false, eval e X.env) :: starEach [] X.env := by rfl) : PD X K (.Call (.Name "all" p) [e] [] pos) (gArgs (fA1 allD) [g]) := fun hK => by
  subst hK
  exact pd_callB (cr_all hc) (sa_flat1 fun H v1 d1 d Q r1 e => by
    unfold allD at e
    split at e
    · rename_i ds
      cases q : bools ds with
      | none =>
        rw [q] at e
        cases e
      | some bs =>
        rw [q] at e
        cases e
        obtain ⟨a, vs, rfl, ha, ra⟩ := rp_lst r1
        have e := bools_inv ra q
        subst e
        exact ⟨rfl, fun k => ⟨a, bs, rfl, SqL.of ha, k⟩⟩
    · cases e) hg hm (by decide +kernel) ha (by decide) (by decide) he rfl rfl
end
/-- pairs (key, value) -/
def prs : List D → Option (List (Key × D))
  | [] => some []
  | .tup [k, v] :: ds => match keyD k, prs ds with
    | some k, some r => some ((k, v) :: r)
    | _, _ => none
  | _ => none
def mergeD (kvs more : List (Key × D)) : List (Key × D) := more.foldl (fun acc kv => putD acc kv.1 kv.2) kvs
def gdict : List N → Option N
  | [n] => match kidsL n with
    | some ds => (prs ds).map fun kvs => .f (.dic (mergeD [] kvs))
    | none => none
  | _ => none
theorem rpDic_merge {K : PySem.W.Frag} {F : Hp} : ∀ {more : List (Key × V)} {md : List (Key × D)} {vs : List (Key × V)} {ds : List (Key × D)}, RpDic K F more md → RpDic K F vs ds → RpDic K F (mergeK vs more) (mergeD ds md)
  | _, _, _, _, .nil, h => h
  | _, _, vs, ds, .cons (k := k) (v := v) (vs := ms) (d := d) (ds := md) a t, h => rpDic_merge (more := ms) (md := md) (vs := putK vs k v) (ds := putD ds k d) t (h.put a)
theorem prs_inv {K : PySem.W.Frag} {F H : Hp} (s : Same F H) : ∀ {vs : List V} {ds : List D} {kvs : List (Key × D)}, RpAll K F vs ds → prs ds = some kvs → ∃ (ps : List Addr) (kvv : List (Key × V)), vs = ps.map V.ref ∧ Paired (fun p kv => SqT K H p [kV kv.1, kv.2]) ps kvv ∧ RpDic K F kvv kvs
  | _, _, kvs, .nil, h => by
    cases h
    exact ⟨[], [], rfl, .nil, .nil⟩
  | _, d :: ds, kvs, .cons a t, h => by
    unfold prs at h
    split at h
    · rename_i e; cases e
    · rename_i k v ds' e
      cases e
      split at h
      · rename_i kk r q1 q2
        cases h
        obtain ⟨ps, kvv, rfl, hp, hr⟩ := prs_inv s t q2
        obtain ⟨p, us, rfl, hT, ra⟩ := rp_tup a
        cases ra with
        | cons r1 r2 =>
          cases r2 with
          | cons r2 r3 =>
            cases r3
            have ek := key_v r1 q1
            subst ek
            exact ⟨p :: ps, (kk, _) :: kvv, rfl, .cons (Same.tup s hT) hp, .cons r2 hr⟩
      · cases h
    · cases h
theorem pn_dict {X : Cx} {K : PySem.W.Frag} {e : Expr} {g : G} {pos p : Pos} (hc : X.calm = true) (hm : X.mg "dict" = none) (ha : PAs X K [e] [g]) (hg : Gl X "dict" := by rfl) (he : starEach [e] X.env = (false, eval e X.env) :: starEach [] X.env := by rfl) : PN X K (.Call (.Name "dict" p) [e] [] pos) (gArgs gdict [g]) := fun hK => by
  subst hK
  refine pe_imp (pe_callTy (kDictP X.K hc) hg hm (by decide +kernel) (ha rfl) (by decide) (by decide) he rfl) fun σ H Q ⟨env, F, M, M0, n, rp, o, hg, k⟩ => ?_
  obtain ⟨ns, h1, h2⟩ := gArgs_some hg
  refine ⟨env, F, M, M0, ns, rp, o, h1, fun vs F' H' s' o' w => ?_⟩
  unfold gdict at h2
  split at h2
  · cases w with
    | cons w1 w2 =>
      cases w2
      split at h2
      · rename_i ds q
        cases q2 : prs ds with
        | none =>
          rw [q2] at h2
          cases h2
        | some kvs =>
          rw [q2] at h2
          cases h2
          obtain ⟨a1, vs, rfl, e1, r1⟩ := w1.kids o' (fun c hc => List.mem_append_left _ hc) q
          obtain ⟨ps, kvv, rfl, hp, hr⟩ := prs_inv o'.fr r1 q2
          exact ⟨a1, ps, kvv, rfl, SqL.of e1, hp, fun p hp => k p _ [(p, _)] _ _ s' (o'.newM hp) (.dic (owDic_f (rpDic_merge hr .nil)))⟩
      · cases h2
  · cases h2
/-! ### the source of draws -/
def srcC (a : Addr) : Cu := ⟨fun _ S => Src a S, fun _ h => h⟩
def scrC (K : PySem.W.Frag) (a : Addr) (ns : List Int) : Cu := ⟨fun F S => S = [] ∧ SqL K F a (iL ns), fun s h => ⟨h.1, s.seq h.2⟩⟩
def src (a : Addr) : Sl := .cu (.ref a) (srcC a)
def scr (K : PySem.W.Frag) (a : Addr) (ns : List Int) : Sl := .cu (.ref a) (scrC K a ns)
def CDraw : FS := fun ss q _ => ∃ a m, ss = [src a, .fz (.int m)] ∧ 0 < m ∧ m < 2 ^ 120 ∧ ∀ r, 0 ≤ r → r < m → q (.fz (.int r)) [src a, .fz (.int m)]
def CSource (K : PySem.W.Frag) : FS := fun ss q _ => ∃ a ns, ss = [scr K a ns] ∧ ns.length ≤ 63 ∧ ∀ b, q (src b) [scr K a ns]
theorem draw_sp {K : PySem.W.Frag} {vs : List V} {H : Hp} {Q : VK} {E : XK} (h : spP K 2 CDraw vs H Q E) : spDraw vs H Q E := by
  obtain ⟨ss, F, Ms, M0, q, w, _, sa, o, ⟨a, m, rfl, h0, h1, hq⟩, kq, _⟩ := h
  cases sa with
  | cons a1 t =>
    cases t with
    | cons a2 t =>
      cases t
      obtain ⟨rfl, a1⟩ := a1
      obtain ⟨rfl, a2⟩ := a2
      cases a2
      rw [List.append_assoc] at o
      refine ⟨_, _, rfl, a, m, F, _, M0, rfl, rfl, h0, h1, a1, o, fun r S' H' r0 r1 hs o' => ?_⟩
      refine kq _ _ (.int r) [] F (S' ++ ([] ++ [])) H' (hq r r0 r1) (Same.refl _) ⟨rfl, .int r⟩ (.cons ⟨rfl, hs⟩ (.cons ⟨rfl, .int m⟩ .nil)) ?_
      rw [List.append_nil, List.append_nil]
      exact o'
theorem source_sp {K : PySem.W.Frag} {vs : List V} {H : Hp} {Q : VK} {E : XK} (h : spP K 1 (CSource K) vs H Q E) : spSource K vs H Q E := by
  obtain ⟨ss, F, Ms, M0, q, w, _, sa, o, ⟨a, ns, rfl, h0, hq⟩, kq, _⟩ := h
  cases sa with
  | cons a1 t =>
    cases t
    obtain ⟨rfl, rfl, a1⟩ := a1
    refine ⟨_, rfl, a, ns, F, M0, rfl, a1, h0, o, fun b S H' hs o' => ?_⟩
    exact kq _ _ (.ref b) S F ([] ++ []) H' (hq b) (Same.refl _) ⟨rfl, hs⟩ (.cons ⟨rfl, rfl, a1⟩ .nil) o'
theorem Ok1.imp {P : Program} {w : World} {K : PySem.W.Frag} {mg : Str → Option Value} {base : Heap} {x : Str} {k : Nat} {sp sp' : Sp} (h : Ok1 P w K mg base x k sp) (i : ∀ vs H Q E, sp' vs H Q E → sp vs H Q E) : Ok1 P w K mg base x k sp' := by
  obtain ⟨f, h1, h2, h3⟩ := h
  exact ⟨f, h1, h2, h3.imp i⟩
theorem Ok1x.imp {P : Program} {w : World} {K : PySem.W.Frag} {mg : Str → Option Value} {base : Heap} {x : Str} {k : Nat} {sp sp' : Sp} (h : Ok1x P w K mg base x k sp) (i : ∀ vs H Q E, sp' vs H Q E → sp vs H Q E) : Ok1x P w K mg base x k sp' := by
  obtain ⟨f, h1, h2, h3⟩ := h
  exact ⟨f, h1, h2, h3.imp i⟩
/-! ### the law -/
def CLaw (K : PySem.W.Frag) : FS := fun ss q _ => ∃ a ns, ss = [scr K a ns] ∧ ns.length ≤ 63 ∧ ∀ ss', q (.fz (.bl true)) ss'
def spLawP (K : PySem.W.Frag) : Sp := spP K 1 (CLaw K)
theorem law_pre {K : PySem.W.Frag} (H : Hp) (a : Addr) (ns : List Int) (hl : ns.length ≤ 63) (hS : SqL K H a (ns.map V.int)) : spLawP K [.ref a] H (fun v _ => v = .bl true) (fun _ _ _ => False) := by
  refine ⟨[scr K a ns], H, [], [], fun r _ => r = .fz (.bl true), fun _ _ _ => False, rfl, SlAll.cons (S := []) (M := []) ⟨rfl, rfl, hS⟩ .nil, Own.start H, ⟨a, ns, rfl, hl, fun _ => rfl⟩, ?_, fun _ _ _ _ _ _ _ _ z => z.elim⟩
  rintro r ss' v S F' Ms' H' rfl _ ⟨_, sl⟩ _ _
  cases sl
  rfl
abbrev WF : WX := fun _ _ _ _ => False
end Pu

/-! ## Pu: displays and calls of built-ins with effects; comprehensions with effects; readings -/
namespace Pu
open PySem PySem.Spec PyProof.Rows L2 Ed
def vals : List PArg → Option (List D)
  | [] => some []
  | .v d :: as => (vals as).map (d :: ·)
  | .b _ :: _ => none
theorem vals_rp {K : PySem.W.Frag} {F : Hp} {σ : L2.St} : ∀ {as : List PArg} {vs : List V} {ds : List D}, ArgR K F σ as vs → vals as = some ds → RpAll K F vs ds
  | _, _, ds, .nil, h => by
    cases h
    exact .nil
  | .v d :: as, _, ds, .v a t, h => by
    unfold vals at h
    cases q : vals as with
    | none =>
      rw [q] at h
      cases h
    | some es =>
      rw [q] at h
      cases h
      exact .cons a (vals_rp t q)
  | .b i :: as, _, ds, .b a t, h => by cases h
theorem rp_vwAll {K : PySem.W.Frag} {F : Hp} {M : Cells} : ∀ {vs : List V} {ds : List D}, RpAll K F vs ds → VwAll K F M vs (ds.map N.f)
  | _, _, .nil => .nil
  | _, _, .cons a t => .cons (Vw.of a) (rp_vwAll t)
def xTup (fa : FA) : FX := fun env q w => fa env (fun as env' => ∃ ds, vals as = some ds ∧ ds.length ≤ 1000 ∧ q (.fz (.tup ds)) env') w
def xLst (fa : FA) : FX := fun env q w => fa env (fun as env' => ∃ ds, vals as = some ds ∧ ds.length ≤ 1000 ∧ ∀ v, q (.ow (ol v ds)) env') w
def xArgs (o : List N → Option N) (fa : FA) : FX := fun env q w => fa env (fun as env' => ∃ ds d, vals as = some ds ∧ o (ds.map N.f) = some (.f d) ∧ q (.fz d) env') w
section
variable {X : Cx} {K : PySem.W.Frag} {W : WX} {es : List Expr} {e : Expr} {fa : FA} {pos p : Pos}
theorem px_tup {x1} (h : PAX X K W es fa) : PX X K W (.Tuple es x1 pos) (xTup fa) := fun hK => pe_imp (pe_tup (h hK)) fun σ H Q ⟨env, F, M, M0, q, w, rp, o, h, k, kw⟩ =>
  ⟨env, F, M, M0, _, w, rp, o, h, fun as env' vs F' M' H' ⟨ds, hd, hl, hq⟩ s' ar rp' o' => by
    have r := vals_rp ar hd
    refine ⟨by rw [r.len]; exact sz1 hl, fun p hp => ?_⟩
    have n := o'.free hp
    exact k _ env' _ [] _ M' _ hq (s'.trans (same_upd n)) ⟨rfl, .tup (SqT.of upd_same) (r.mono (same_upd n))⟩ (rp'.mono (same_upd n)) (o'.newF hp), kw⟩
theorem px_lst (h : PAX X K W es fa) : PX X K W (.List es pos) (xLst fa) := fun hK => pe_imp (pe_lst (h hK)) fun σ H Q ⟨env, F, M, M0, q, w, rp, o, h, k, kw⟩ =>
  ⟨env, F, M, M0, _, w, rp, o, h, fun as env' vs F' M' H' ⟨ds, hd, hl, hq⟩ s' ar rp' o' => by
    have r := vals_rp ar hd
    refine ⟨by rw [r.len]; exact sz1 hl, fun p hp => ?_⟩
    exact k _ env' _ [(p, .lst vs)] F' M' _ (hq p) s' (ow_ol r) rp' (o'.newM hp), kw⟩
theorem px_args {c : Expr} {r : List V → Hp → VK → Prop} {o : List N → Option N} (s : SA K r o) (h : PE X c (tCB r (LAX K W fa))) : PX X K W c (xArgs o fa) := fun hK => pe_imp h fun σ H Q ⟨env, F, M, M0, q, w, rp, ow, h, k, kw⟩ =>
  ⟨env, F, M, M0, _, w, rp, ow, h, fun as env' vs F' M' H' ⟨ds, d, hd, ho, hq⟩ s' ar rp' o' => s.run (M := M') (M0 := M0) o' (rp_vwAll (vals_rp ar hd)) ho fun v F2 H2 s2 o2 w2 => k _ env' v [] F2 M' H2 hq (s'.trans s2) ⟨rfl, w2.f⟩ (rp'.mono s2) o2, kw⟩
end
/-! ### comprehensions with effects: I by the turn, the list so far, the slots -/
/-- the slots vs as they were, where they are kept -/
def keepE (env1 : Env) (v : Nat) : Option Sl := match env1[v]? with
  | some (some (.fz d)) => some (.fz d)
  | _ => none
def resE (env1 env2 : Env) : List Nat → Env
  | [] => env2
  | v :: vs => resE env1 (env2.set v (keepE env1 v)) vs
def xLc (fi : FI) (vs : List Nat) (st : Tg) (ft : FT) (fe : FX) : FX := fun env q w => fi env (fun ds env1 => ds.length ≤ sizeLine ∧ ∃ I : Nat → List D → Env → Prop, I 0 [] (wipeE env1 vs) ∧
  (∀ i d acc env2, ds[i]? = some d → I i acc env2 → ∃ env3, st d env2 = some env3 ∧ ft env3 (fun c env4 => if c = true then xD fe env4 (fun _ _ _ => False) (fun y env5 => I (i + 1) (acc ++ [y]) (wipeE env5 vs)) else I (i + 1) acc (wipeE env4 vs)) (fun _ _ _ => False)) ∧
  ∀ acc env2, I ds.length acc env2 → ∀ v, q (.ow (ol v acc)) (resE env1 env2 vs)) w
def PXTs (X : Cx) (K : PySem.W.Frag) (W : WX) (ifs : List Expr) (f : FT) : Prop := X.K = K → PTs X ifs (LT K W f)
def tYesX : FT := fun env q _ => q true env
theorem pxts_nil {X : Cx} {K : PySem.W.Frag} {W : WX} : PXTs X K W [] tYesX := fun _ => pts_imp pts_nil fun σ H Q ⟨env, F, M, M0, q, w, rp, o, h, k, kw⟩ => k true env F M H h (Same.refl _) rp o
theorem pxts_one {X : Cx} {K : PySem.W.Frag} {W : WX} {e : Expr} {f : FT} (h : PXT X K W e f) : PXTs X K W [e] f := fun hK => pts_one (h hK)
theorem rep_any {K : PySem.W.Frag} {F : Hp} : ∀ {σ : L2.St} {e : Env} {M : Cells} {v : Nat} {o : Option V}, Rep K F σ e M → e[v]? = some none → Rep K F (σ.set v o) e M
  | _, _, _, v, o, .nil, h => by cases h
  | _, _, _, 0, o, .non r, h => .non r
  | _, _, _, 0, o, .som q r, h => by cases h
  | _, _, _, v + 1, o, .non r, h => .non (rep_any r h)
  | _, _, _, v + 1, o, .som q r, h => .som q (rep_any r h)
theorem rep_res1 {K : PySem.W.Frag} {F0 F : Hp} {σ σ2 : L2.St} {env1 env2 : Env} {M1 M2 : Cells} {v : Nat} (s : Same F0 F) (rp1 : Rep K F0 σ env1 M1) (hl : σ2.length = σ.length) (rp2 : Rep K F σ2 env2 M2) :
    ∃ σ3 M3 T, M2.Perm (T ++ M3) ∧ Rep K F σ3 (env2.set v (keepE env1 v)) M3 ∧ σ3.length = σ.length ∧ σ3[v]? = σ[v]? ∧ ∀ j, j ≠ v → σ3[j]? = σ2[j]? := by
  by_cases hv : v < σ.length
  · obtain ⟨M3, sub, r3⟩ := rp2.drop v
    obtain ⟨T, pT⟩ := sub_perm sub
    have hlen : env2.length = σ.length := by rw [← rp2.len, hl]
    have hn : (env2.set v none)[v]? = some none := List.getElem?_set_self (by omega)
    have r4 := rep_any (o := σ[v]) r3 hn
    rw [List.set_set] at r4
    have g1 : (σ2.set v σ[v])[v]? = σ[v]? := by
      rw [List.getElem?_set_self (by omega), List.getElem?_eq_getElem hv]
    have g2 : ∀ j, j ≠ v → (σ2.set v σ[v])[j]? = σ2[j]? := fun j hj => List.getElem?_set_ne (Ne.symm hj)
    unfold keepE
    split
    · rename_i d hd
      obtain ⟨u, _, _, _, hu, ⟨_, ru⟩, _⟩ := rp1.at hd
      obtain ⟨M4, p4, r5⟩ := r4.lay (s := .fz d) (v := u) (S := []) hn (g1.trans hu) ⟨rfl, ru.mono s⟩
      rw [List.set_set] at r5
      exact ⟨_, M4, T, (pT.trans (List.perm_append_comm)).trans (p4.symm.append_left T), r5, by rw [List.length_set, hl], g1, g2⟩
    · exact ⟨_, M3, T, pT.trans List.perm_append_comm, r4, by rw [List.length_set, hl], g1, g2⟩
  · refine ⟨σ2, M2, [], .refl _, ?_, hl, ?_, fun _ _ => rfl⟩
    · have hlen : env2.length = σ.length := by rw [← rp2.len, hl]
      rw [List.set_eq_of_length_le (by omega)]
      exact rp2
    · rw [List.getElem?_eq_none (by omega), List.getElem?_eq_none (by omega)]
theorem rep_res {K : PySem.W.Frag} {F0 F : Hp} {σ : L2.St} {env1 : Env} {M1 : Cells} (s : Same F0 F) (rp1 : Rep K F0 σ env1 M1) : ∀ (vs : List Nat) {σ2 : L2.St} {env2 : Env} {M2 : Cells}, σ2.length = σ.length → (∀ j, j ∉ vs → σ2[j]? = σ[j]?) → Rep K F σ2 env2 M2 → ∃ M' T, M2.Perm (T ++ M') ∧ Rep K F σ (resE env1 env2 vs) M'
  | [], σ2, env2, M2, hl, hj, rp2 => by
    have e : σ2 = σ := List.ext_getElem? fun j => hj j (fun z => by cases z)
    subst e
    exact ⟨M2, [], .refl _, rp2⟩
  | v :: vs, σ2, env2, M2, hl, hj, rp2 => by
    obtain ⟨σ3, M3, T, p3, r3, h3, g1, g2⟩ := rep_res1 (v := v) s rp1 hl rp2
    obtain ⟨M4, T4, p4, r4⟩ := rep_res s rp1 vs h3 (fun j hjv => by
      by_cases e : j = v
      · rw [e]
        exact g1
      · rw [g2 j e]
        exact hj j fun z => (List.mem_cons.mp z).elim e hjv) r3
    refine ⟨M4, T ++ T4, ?_, r4⟩
    rw [List.append_assoc]
    exact p3.trans (p4.append_left T)
section
variable {X : Cx} {K : PySem.W.Frag} {W : WX} {e tg elt it : Expr} {ifs : List Expr} {scope : Scope} {own : List (Str × Nat)} {fe : FX} {fi : FI} {ft : FT} {st : Tg} {l : List Nat} {pos : Pos}
theorem lcX_imp {vs : List Nat} (hl : ∀ i ∈ l, i ∈ vs) : ∀ σ H Q, LX K W (xLc fi vs st ft fe) σ H Q → tLc (LIX K W fi) (LTg K l st) (LT K WF ft) (LX K WF fe) vs σ H Q := fun σ H Q ⟨env, F, M, M0, q, w, rp, o, h, k, kw⟩ => by
  refine ⟨env, F, M, M0, _, w, rp, o, h, fun ds env1 J F1 M1 H1 ⟨hsz, I, h0, hturn, hend⟩ s1 wk rp1 o1 => ?_, kw⟩
  obtain ⟨Gd, Y, wk, gd, y⟩ := wk
  obtain ⟨Mw, sub, rpw⟩ := rep_wipe rp1 vs
  obtain ⟨R, hR⟩ := sub_perm sub
  have oW : Own F1 (Mw ++ M0) H1 := by
    have z := o1.perm (hR.append_right M0)
    rw [List.append_assoc] at z
    exact z.sub ((List.Sublist.refl Mw).append (List.sublist_append_right R M0))
  have wff : ∀ {F2 : Hp} {M2 : Cells}, WFit K F2 M2 WF (fun _ _ _ => False) := fun {F2 M2} _ _ _ _ _ _ _ _ _ z => z.elim
  refine lcb (F := F1) (M := Mw ++ M0) wk oW (fun i acc F' M' => Same F1 F' ∧ ∃ env2 M2 ra, M' = M2 ++ M0 ∧ Rep K F' (wipe σ vs) env2 M2 ∧ RpAll K F' acc ra ∧ I i ra env2 ∧ acc.length ≤ i) ⟨Same.refl _, _, Mw, [], rfl, rpw, .nil, h0, Nat.zero_le _⟩ ?_ ?_ ?_
  · rintro Dd i acc F' M' H' _ ⟨s', _⟩ o'
    exact gd H' (s'.trans o'.fr) fun _ z => (nomatch z)
  · rintro Dd i x acc F' M' H' H'' hi ⟨s', env2, M2, ra, rfl, rp2, rr, hI, hla⟩ o' hy
    obtain ⟨d, F2, hd, s2, o2, rd⟩ := y i H' x H'' F' _ hi s' o' hy
    obtain ⟨env3, hst, hft⟩ := hturn i d ra env2 hd hI
    have pp : ∀ (Mx : Cells), ((Dd, HO.lst acc) :: (Mx ++ M0)).Perm (Mx ++ ((Dd, HO.lst acc) :: M0)) := fun Mx => perm_mid [(Dd, HO.lst acc)] Mx M0
    refine ⟨env2, F2, M2, (Dd, .lst acc) :: M0, d, env3, rp2.mono s2, o2.perm (pp M2), rd, hst, fun σ3 M3 T of3 p3 rp3 => ⟨wipe_off of3 hl, ?_⟩⟩
    have o3 : Own F2 (M3 ++ ((Dd, .lst acc) :: M0)) H'' := own_less p3 (o2.perm (pp M2))
    have hwo : wipe σ3 vs = wipe σ vs := wipe_off of3 hl
    have sz : acc.length < sizeLine := by
      have := (List.getElem?_eq_some_iff.mp hd).1
      omega
    -- a turn's end
    have fin : ∀ {F5 H5 : Hp} {M5 : Cells} {env5 : Env}, Rep K F5 σ3 env5 M5 → Own F5 (M5 ++ ((Dd, .lst acc) :: M0)) H5 → ∃ M6, Rep K F5 (wipe σ vs) (wipeE env5 vs) M6 ∧ Own F5 ((Dd, .lst acc) :: (M6 ++ M0)) H5 := by
      intro F5 H5 M5 env5 rp5 o5
      obtain ⟨M6, sub6, rp6⟩ := rep_wipe rp5 vs
      obtain ⟨R6, hR6⟩ := sub_perm sub6
      rw [hwo] at rp6
      refine ⟨M6, rp6, ?_⟩
      have z := own_less (T := R6) (M' := M6) (hR6.trans List.perm_append_comm) o5
      exact z.perm (pp M6).symm
    refine ⟨env3, F2, M3, _, _, _, rp3, o3, hft, fun c env4 F4 M4 H4 hq s4 rp4 o4 => ?_, wff⟩
    cases c with
    | true =>
      refine iteT ?_
      have hq : xD fe env4 (fun _ _ _ => False) (fun y env5 => I (i + 1) (ra ++ [y]) (wipeE env5 vs)) := by
        rw [if_pos rfl] at hq
        exact hq
      refine lx_d rp4 o4 hq wff fun yd env5 v F5 M5 H5 hI5 s5 r5 rp5 o5 => ?_
      obtain ⟨M6, rp6, o6⟩ := fin rp5 o5
      refine lcN ⟨acc, F5, M6 ++ M0, sz, ⟨s'.trans (s2.trans (s4.trans s5)), _, M6, ra ++ [yd], rfl, rp6, (rr.mono (s2.trans (s4.trans s5))).app (.cons r5 .nil), hI5, ?_⟩, o6⟩
      rw [List.length_append]
      show acc.length + 1 ≤ i + 1
      omega
    | false =>
      refine iteF ?_
      have hq : I (i + 1) ra (wipeE env4 vs) := by
        rw [if_neg Bool.false_ne_true] at hq
        exact hq
      obtain ⟨M6, rp6, o6⟩ := fin rp4 o4
      exact ⟨acc, F4, M6 ++ M0, ⟨s'.trans (s2.trans s4), _, M6, ra, rfl, rp6, rr.mono (s2.trans s4), hq, by omega⟩, o6⟩
  · rintro Dd acc F' M' H' nD ⟨s', env2, M2, ra, rfl, rp2, rr, hI, _⟩ o'
    obtain ⟨M3, T, p3, r3⟩ := rep_res s' rp1 vs (wipe_length σ _) (fun j hj => wipe_out hj) rp2
    refine k _ _ _ [(Dd, .lst acc)] F' M3 H' (hend ra env2 hI Dd) (s1.trans s') (ow_ol rr) r3 ?_
    have z : Own F' (M2 ++ ((Dd, .lst acc) :: M0)) H' := o'.perm (perm_mid [(Dd, HO.lst acc)] M2 M0)
    exact (own_less p3 z).perm (perm_mid [(Dd, HO.lst acc)] M3 M0).symm
theorem px_lc (hc : X.calm = true) (hN : X.N.Nodup) (hi : PIX X K W tg it fi) (ok : BlkOk X.N X.env.scope scope own) (hl : ∀ i ∈ l, i ∈ own.map (·.2))
    (hg : ∀ (s : Shared) (H : Hp) (C : Addr) (cl : List (Str × Addr)) (fp : List Addr), PTg (X.blk s H scope (compEnvC scope cl C X.env) fp) K tg l st)
    (ht : ∀ (s : Shared) (H : Hp) (C : Addr) (cl : List (Str × Addr)) (fp : List Addr), PXTs (X.blk s H scope (compEnvC scope cl C X.env) fp) K WF ifs ft)
    (he : ∀ (s : Shared) (H : Hp) (C : Addr) (cl : List (Str × Addr)) (fp : List Addr), PX (X.blk s H scope (compEnvC scope cl C X.env) fp) K WF elt fe) (hs : ∀ x, foldedSetIterable it X.env x = pure x := by intro _; rfl) :
    PX X K W (.ListComp elt [⟨tg, it, ifs, 0⟩] scope pos) (xLc fi (own.map (·.2)) st ft fe) := fun hK =>
  pe_imp (pe_lc hc hN (hi hK) ok (fun s H C cl fp => hg s H C cl fp hK) (fun s H C cl fp => ht s H C cl fp hK) (fun s H C cl fp => he s H C cl fp hK) hs) (lcX_imp hl)
theorem lx_n {g : G} : ∀ σ H Q, LX K W (xN g) σ H Q → LN K g σ H Q := fun σ H Q ⟨env, F, M, M0, q, w, rp, o, ⟨n, hg, hq⟩, k, kw⟩ =>
  ⟨env, F, M, M0, _, rp, o, hg, fun a v S F' H' s' o' w' => k _ env v S F' M H' (hq a) s' w' (rp.mono s') o'⟩
/-- a name is set -/
theorem set_imp {i : Nat} {fx : FX} {te : TE} (h : ∀ σ H Q, LX K W fx σ H Q → te σ H Q) : ∀ E σ H, LS K W (sSet i fx) E σ H → tAsg te (gName i) E σ H := fun E σ H ⟨env, F, M, M0, e, rp, o, hh, ft⟩ =>
  h σ H _ ⟨env, F, M, M0, _, _, rp, o, hh, fun r env' v S F' M' H' ⟨hi, hq⟩ s' sl rp' o' => by
    obtain ⟨A, S0, B, hM, put⟩ := rp'.put hi
    subst hM
    exact ft.nx _ _ F' _ H' hq s' (put F' r v S (Same.refl _) sl) (own_put o'), ft.ex⟩
theorem pp_setLcN {i : Nat} {y : Str} {py spos : Pos} {gi : GI} {c : B} {g : G} (hc : X.calm = true) (hN : X.N.Nodup) (hy : X.N[i]? = some y) (hyl : X.env.scope.names.lookup y = some .local) (hsw : swapsWith (.ListComp elt [⟨tg, it, ifs, 0⟩] scope pos) (some (.Name y py)) spos.line X.env = pure true) (hi : PIt X K tg it gi) (ok : BlkOk X.N X.env.scope scope own) (hl : ∀ i ∈ l, i ∈ own.map (·.2))
    (hg : ∀ (s : Shared) (H : Hp) (C : Addr) (cl : List (Str × Addr)) (fp : List Addr), PTg (X.blk s H scope (compEnvC scope cl C X.env) fp) K tg l st)
    (ht : ∀ (s : Shared) (H : Hp) (C : Addr) (cl : List (Str × Addr)) (fp : List Addr), PBs (X.blk s H scope (compEnvC scope cl C X.env) fp) K ifs c)
    (he : ∀ (s : Shared) (H : Hp) (C : Addr) (cl : List (Str × Addr)) (fp : List Addr), PD (X.blk s H scope (compEnvC scope cl C X.env) fp) K elt g) (hs : ∀ x, foldedSetIterable it X.env x = pure x := by intro _; rfl) :
    PP X K W (.Assign [.Name y py] (.ListComp elt [⟨tg, it, ifs, 0⟩] scope pos) spos) (sSet i (xN (gLc gi (own.map (·.2)) st c g))) := fun hK =>
  ps_imp (ps_setLc hc hN hy hyl hsw (hi hK) ok (fun s H C cl fp => hg s H C cl fp hK) (fun s H C cl fp => ht s H C cl fp hK) (fun s H C cl fp => he s H C cl fp hK) hs) (set_imp fun σ H Q h => lcN_imp hl σ H Q (lx_n σ H Q h))
theorem pp_setLcX {i : Nat} {y : Str} {py spos : Pos} (hc : X.calm = true) (hN : X.N.Nodup) (hy : X.N[i]? = some y) (hyl : X.env.scope.names.lookup y = some .local) (hsw : swapsWith (.ListComp elt [⟨tg, it, ifs, 0⟩] scope pos) (some (.Name y py)) spos.line X.env = pure true) (hi : PIX X K W tg it fi) (ok : BlkOk X.N X.env.scope scope own) (hl : ∀ i ∈ l, i ∈ own.map (·.2))
    (hg : ∀ (s : Shared) (H : Hp) (C : Addr) (cl : List (Str × Addr)) (fp : List Addr), PTg (X.blk s H scope (compEnvC scope cl C X.env) fp) K tg l st)
    (ht : ∀ (s : Shared) (H : Hp) (C : Addr) (cl : List (Str × Addr)) (fp : List Addr), PXTs (X.blk s H scope (compEnvC scope cl C X.env) fp) K WF ifs ft)
    (he : ∀ (s : Shared) (H : Hp) (C : Addr) (cl : List (Str × Addr)) (fp : List Addr), PX (X.blk s H scope (compEnvC scope cl C X.env) fp) K WF elt fe) (hs : ∀ x, foldedSetIterable it X.env x = pure x := by intro _; rfl) :
    PP X K W (.Assign [.Name y py] (.ListComp elt [⟨tg, it, ifs, 0⟩] scope pos) spos) (sSet i (xLc fi (own.map (·.2)) st ft fe)) := fun hK =>
  ps_imp (ps_setLc hc hN hy hyl hsw (hi hK) ok (fun s H C cl fp => hg s H C cl fp hK) (fun s H C cl fp => ht s H C cl fp hK) (fun s H C cl fp => he s H C cl fp hK) hs) (set_imp (lcX_imp hl))
end
theorem spP_nox {K : PySem.W.Frag} {n : Nat} {C : FS} {vs : List V} {H : Hp} {Q : VK} {E : XK} (hC : ∀ ss q w, C ss q w → C ss q fun _ _ _ => False) (h : spP K n C vs H Q E) : spP K n C vs H Q (fun _ _ _ => False) := by
  obtain ⟨ss, F, Ms, M0, q, w, hn, sa, o, hc, kq, kw⟩ := h
  exact ⟨ss, F, Ms, M0, q, fun _ _ _ => False, hn, sa, o, hC _ _ _ hc, kq, fun _ _ _ _ _ _ _ _ z => z.elim⟩
/-! ### readings -/
section
variable {env : Env} {e : EP'} {q : Sl → Env → Prop} {qt : Bool → Env → Prop} {w : WP} {f g : FSt} {fx fa fb : FX} {ft ft' : FT} {ar : FA} {i : Nat} {gg : G} {k : D → Env → Prop}
theorem s_seq (h : f env { e with nx := fun env' => g env' e }) : sSeq f g env e := h
theorem s_cut (Mid : Env → Prop) (h : f env { e with nx := Mid }) (k : ∀ env', Mid env' → g env' e) : sCut f g env e := ⟨Mid, h, k⟩
theorem s_nil (h : e.nx env) : sNil env e := h
theorem s_set (h : fx env (fun r env' => i < env'.length ∧ e.nx (env'.set i (some r))) e.ex) : sSet i fx env e := h
theorem s_drop (h : fx env (fun _ env' => e.nx env') e.ex) : sDrop fx env e := h
theorem s_ret (h : fx env (fun r env' => e.rt r env') e.ex) : sRet fx env e := h
theorem s_retN (h : e.rt (.fz .non) env) : sRetN env e := h
theorem s_if (h : ft env (fun c env' => if c = true then f env' e else g env' e) e.ex) : sIf ft f g env e := h
theorem s_fz (h : f (env.fz i) e) : sFz i f env e := h
theorem s_brk (h : e.bk env) : sBrk env e := h
theorem s_cont (h : e.ct env) : sCont env e := h
theorem s_asg {st : Tg} (h : xD fx env e.ex fun d env1 => ∃ env2, st d env1 = some env2 ∧ e.nx env2) : sAsg fx st env e := h
theorem x_p {d : D} (h : gg env = some (.f d)) (k : q (.fz d) env) : xP gg env q w := ⟨d, h, k⟩
theorem x_n {d : D} (h : gg env = some (.f d)) (k : ∀ v, q (.ow (ownD v d)) env) : xN gg env q w := ⟨d, h, k⟩
theorem x_nl {ds : List D} (h : gg env = some (.f (.lst ds))) (k : ∀ v, q (.ow (ol v ds)) env) : xN gg env q w := ⟨_, h, k⟩
theorem x_nd {ds : List (Key × D)} (h : gg env = some (.f (.dic ds))) (k : ∀ v, q (.ow (od v ds)) env) : xN gg env q w := ⟨_, h, k⟩
theorem x_d (h : fx env (fun r env' => ∃ d, r.fzD = some d ∧ k d env') w) : xD fx env w k := h
/-- a frozen value goes on -/
theorem x_fz {d : D} (h : k d env) : ∃ d', (Sl.fz d).fzD = some d' ∧ k d' env := ⟨d, rfl, h⟩
theorem x_ow {n : N} (h : k n.toD env) : ∃ d', (Sl.ow n).fzD = some d' ∧ k d' env := ⟨_, rfl, h⟩
theorem x_dp {d : D} (h : gg env = some (.f d)) (kk : k d env) : xD (xP gg) env w k := ⟨d, h, d, rfl, kk⟩
theorem x_op {o : N → N → Option N} (h : xD fa env w fun d1 env1 => xD fb env1 w fun d2 env2 => ∃ d, o (.f d1) (.f d2) = some (.f d) ∧ q (.fz d) env2) : xOp o fa fb env q w := h
theorem x_un {o : N → Option N} (h : xD fa env w fun d1 env1 => ∃ d, o (.f d1) = some (.f d) ∧ q (.fz d) env1) : xUn o fa env q w := h
theorem t_p {c : Bool} {b : B} (h : b env = some c) (k : qt c env) : tP b env qt w := ⟨c, h, k⟩
theorem t_x (h : xD fx env w fun d env' => ∃ c, truD d = some c ∧ qt c env') : tX fx env qt w := h
theorem t_xb (h : xD fx env w fun d env' => ∃ c, d = .bl c ∧ qt c env') : tXb fx env qt w := h
theorem t_and (h : ft env (fun c env' => if c = true then ft' env' qt w else qt false env') w) : tAndX ft ft' env qt w := h
theorem t_or (h : ft env (fun c env' => if c = true then qt true env' else ft' env' qt w) w) : tOrX ft ft' env qt w := h
theorem t_not (h : ft env (fun c env' => qt (!c) env') w) : tNotX ft env qt w := h
/-- one draw; the source in slot i -/
theorem x_draw {gl : G} {a : Addr} {m : Int} (hs : env[i]? = some (some (src a))) (hg : gl env = some (.f (.int m))) (h0 : 0 < m) (h1 : m < 2 ^ 120) (k : ∀ r, 0 ≤ r → r < m → q (.fz (.int r)) env) : xCall0 2 CDraw (aB i (aV (xP gl) aNil)) env q w := by
  refine ⟨⟨_, hs⟩, _, hg, _, rfl, rfl, [src a, .fz (.int m)], ?_, rfl, a, m, rfl, h0, h1, fun r r0 r1 => ?_⟩
  · show (match env[i]?, slots env [.v (.int m)] with
      | some (some s), some ss => some (s :: ss)
      | _, _ => none) = _
    rw [hs]
    rfl
  · show q (.fz (.int r)) (env.set i (some (src a)))
    rw [set_same hs]
    exact k r r0 r1
end
/-- the slots in l are anything -/
def AnyAt : List Nat → Env → (Env → Prop) → Prop
  | [], e, P => P e
  | i :: is, e, P => ∃ y, AnyAt is (e.set i y) P
end Pu

/-! ## Pu: readings, by steps -/
namespace Pu
open PySem PySem.Spec PyProof.Rows L2 Ed
section
variable {env env2 : Env} {e : EP'} {q : Sl → Env → Prop} {qt : Bool → Env → Prop} {qi : List D → Env → Prop} {qa : List PArg → Env → Prop} {w : WP} {f g : FSt} {fx fa fb : FX} {ft ft' : FT} {fi : FI} {ar : FA} {i : Nat} {gg : G} {k : D → Env → Prop} {st : Tg} {P : Env → Prop} {r : Sl} {d : D}
theorem s_fz2 (h : env.fz i = env2) (k : f env2 e) : sFz i f env e := by
  show f (env.fz i) e
  rw [h]
  exact k
theorem x_st (hl : Nat.ble (i + 1) env.length = true) (he : env.set i (some r) = env2) (k : P env2) : i < env.length ∧ P (env.set i (some r)) := ⟨Nat.le_of_ble_eq_true hl, by rw [he]; exact k⟩
theorem s_for (h : fi env (fun ds env1 => ∃ I : Nat → Env → Prop, I 0 env1 ∧ (∀ i d env2, ds[i]? = some d → I i env2 → ∃ env3, st d env2 = some env3 ∧ f env3 { e with nx := I (i + 1), ct := I (i + 1), bk := e.nx }) ∧ ∀ env2, I ds.length env2 → e.nx env2) e.ex) : sFor fi st f env e := h
theorem s_dput (h : xD fb env e.ex fun d env1 => (∃ n, env1.node i = some n) ∧ xD fa env1 e.ex fun dk env2 => ∃ v kvs k, env2[i]? = some (some (.ow (od v kvs))) ∧ keyD dk = some k ∧ kvs.length < sizeLine ∧ e.nx (env2.set i (some (.ow (od v (putD kvs k d)))))) : sDput i fa fb env e := h
theorem i_l (h : xD fx env w fun d env' => ∃ ds, d = .lst ds ∧ qi ds env') : iL1 fx env qi w := h
theorem i_t (h : xD fx env w fun d env' => ∃ ds, d = .tup ds ∧ qi ds env') : iT1 fx env qi w := h
theorem i_r1 (h : xD fx env w fun d env' => ∃ n, d = .int n ∧ n < 2 ^ 62 ∧ -(2 ^ 62) ≤ n ∧ qi (rng 0 n.toNat) env') : iR1 fx env qi w := h
theorem i_r2 (h : xD fa env w fun d1 env1 => xD fb env1 w fun d2 env2 => ∃ m n, d1 = .int m ∧ d2 = .int n ∧ (-(2 ^ 62) ≤ m ∧ m < 2 ^ 62 ∧ -(2 ^ 62) ≤ n ∧ n < 2 ^ 62) ∧ qi (rng m (n - m).toNat) env2) : iR2 fa fb env qi w := h
theorem i_dn (h : xD fa env w fun d1 env1 => xD fb env1 w fun d2 env2 => ∃ m n, d1 = .int m ∧ d2 = .int n ∧ (-(2 ^ 62) ≤ m ∧ m < 2 ^ 62 ∧ -(2 ^ 62) ≤ n ∧ n < 2 ^ 62) ∧ qi (rngD m (m - n).toNat) env2) : iDn fa fb env qi w := h
theorem i_e (h : xD fx env w fun d env' => ∃ ds, d = .lst ds ∧ qi (enumD ds) env') : iE1 fx env qi w := h
theorem i_s (h : xD fx env w fun d env' => ∃ z, d = .str z ∧ qi (chars z) env') : iS1 fx env qi w := h
theorem x_tup (h : ar env (fun as env' => ∃ ds, vals as = some ds ∧ ds.length ≤ 1000 ∧ q (.fz (.tup ds)) env') w) : xTup ar env q w := h
theorem x_lst (h : ar env (fun as env' => ∃ ds, vals as = some ds ∧ ds.length ≤ 1000 ∧ ∀ v, q (.ow (ol v ds)) env') w) : xLst ar env q w := h
theorem a_nil (h : qa [] env) : aNil env qa w := h
theorem a_v (h : xD fx env w fun d env1 => ar env1 (fun as env2 => qa (.v d :: as) env2) w) : aV fx ar env qa w := h
theorem a_b {s : Sl} (hs : env[i]? = some (some s)) (h : ar env (fun as env2 => qa (.b i :: as) env2) w) : aB i ar env qa w := ⟨⟨s, hs⟩, h⟩
theorem x_call0 {n : Nat} {C : FS} (h : ar env (fun as env1 => ndA as = true ∧ ∃ ss, slots env1 as = some ss ∧ ss.length = n ∧ C ss (fun r ss' => q r (back env1 as ss')) (fun _ _ _ => False)) w) : xCall0 n C ar env q w := h
theorem x_call {n : Nat} {C : FS} (h : ar env (fun as env1 => ndA as = true ∧ ∃ ss, slots env1 as = some ss ∧ ss.length = n ∧ C ss (fun r ss' => q r (back env1 as ss')) (fun c fs ss' => w c fs (back env1 as ss'))) w) : xCall n C ar env q w := h
theorem x_dnew (h : ∀ v, q (.ow (od v [])) env) : xDnew env q w := h
theorem x_dtup (h : ar env (fun as env' => ∃ ds, vals as = some ds ∧ ds.length ≤ 1000 ∧ ∃ d', (Sl.fz (.tup ds)).fzD = some d' ∧ k d' env') w) : xD (xTup ar) env w k := h
/-- a call that is not of the source: its arguments are there -/
theorem x_ar {n : Nat} {C : FS} {as : List PArg} {ss : List Sl} {qq : Sl → List Sl → Prop} {ww : Str → List (Str × D) → List Sl → Prop} (h1 : ndA as = true) (h2 : slots env as = some ss) (h3 : ss.length = n) (h : C ss qq ww) : ndA as = true ∧ ∃ ss, slots env as = some ss ∧ ss.length = n ∧ C ss qq ww := ⟨h1, ss, h2, h3, h⟩
/-- xs.append(e), xs.pop(e) -/
theorem x_appS (h1 : isOl env i) (h : xD fa env w fun d env1 => ∃ v ds, env1[i]? = some (some (.ow (ol v ds))) ∧ ds.length < sizeLine ∧ q (.fz .non) (env1.set i (some (.ow (ol v (ds ++ [d])))))) : xApp i fa env q w := ⟨h1, h⟩
theorem is_ol {v : Addr} {ds : List D} (h : env[i]? = some (some (.ow (ol v ds)))) : isOl env i := ⟨v, ds, h⟩
theorem x_app2 {R : Addr → List D → Prop} {v : Addr} {ds : List D} (h0 : env[i]? = some (some (.ow (ol v ds)))) (hl : ds.length < sizeLine) (k : R v ds) : ∃ v ds, env[i]? = some (some (.ow (ol v ds))) ∧ ds.length < sizeLine ∧ R v ds := ⟨v, ds, h0, hl, k⟩
theorem x_popS (h1 : isOl env i) (h : xD fa env w fun d env1 => ∃ v ds k y, env1[i]? = some (some (.ow (ol v ds))) ∧ d = .int (Int.ofNat k) ∧ k < 2 ^ 63 ∧ ds[k]? = some y ∧ q (.fz y) (env1.set i (some (.ow (ol v (ds.eraseIdx k)))))) : xPopA i fa env q w := ⟨h1, h⟩
theorem x_pop2 {R : Addr → List D → Nat → D → Prop} {v : Addr} {ds : List D} {j : Nat} {y : D} {m : Int} (h0 : env[i]? = some (some (.ow (ol v ds)))) (hm : m = Int.ofNat j) (hj : j < 2 ^ 63) (hy : ds[j]? = some y) (k : R v ds j y) :
    ∃ v ds k y, env[i]? = some (some (.ow (ol v ds))) ∧ D.int m = .int (Int.ofNat k) ∧ k < 2 ^ 63 ∧ ds[k]? = some y ∧ R v ds k y := ⟨v, ds, j, y, h0, by rw [hm], hj, hy, k⟩
theorem x_insS (h1 : isOl env i) (h : xD fa env w fun d1 env1 => xD fb env1 w fun d2 env2 => ∃ v ds k, env2[i]? = some (some (.ow (ol v ds))) ∧ d1 = .int (Int.ofNat k) ∧ k ≤ 1000 ∧ ds.length < sizeLine ∧ q (.fz .non) (env2.set i (some (.ow (ol v (ds.take k ++ [d2] ++ ds.drop k)))))) : xIns i fa fb env q w := ⟨h1, h⟩
theorem x_ins2 {R : Addr → List D → Nat → Prop} {v : Addr} {ds : List D} {j : Nat} {m : Int} (h0 : env[i]? = some (some (.ow (ol v ds)))) (hm : m = Int.ofNat j) (hj : j ≤ 1000) (hl : ds.length < sizeLine) (k : R v ds j) :
    ∃ v ds k, env[i]? = some (some (.ow (ol v ds))) ∧ D.int m = .int (Int.ofNat k) ∧ k ≤ 1000 ∧ ds.length < sizeLine ∧ R v ds k := ⟨v, ds, j, h0, by rw [hm], hj, hl, k⟩
/-- d[k] = v -/
theorem x_dput2 {R : Addr → List (Key × D) → Key → Prop} {v : Addr} {kvs : List (Key × D)} {kk : Key} {dk : D} (h0 : env[i]? = some (some (.ow (od v kvs)))) (hk : keyD dk = some kk) (hl : kvs.length < sizeLine) (k : R v kvs kk) : ∃ v kvs k, env[i]? = some (some (.ow (od v kvs))) ∧ keyD dk = some k ∧ kvs.length < sizeLine ∧ R v kvs k := ⟨v, kvs, kk, h0, hk, hl, k⟩
theorem x_seti2 {R : Addr → List D → Int → Nat → Prop} {v : Addr} {ds : List D} {j : Nat} {m : Int} (h0 : env[i]? = some (some (.ow (ol v ds)))) (hj : L2.ixN ds.length m = some j) (k : R v ds m j) : ∃ v ds j k, env[i]? = some (some (.ow (ol v ds))) ∧ D.int m = .int j ∧ L2.ixN ds.length j = some k ∧ R v ds j k := ⟨v, ds, m, j, h0, rfl, hj, k⟩
/-- a target is stored -/
theorem x_tg {st : Tg} {env3 : Env} (h : st d env = some env3) (k : P env3) : ∃ env2, st d env = some env2 ∧ P env2 := ⟨env3, h, k⟩
end
end Pu
namespace Pu
open PySem PySem.Spec PyProof.Rows L2 Ed
theorem x_source {K : PySem.W.Frag} {i : Nat} {env : Env} {q : Sl → Env → Prop} {w : WP} {a : Addr} {ns : List Int} (hs : env[i]? = some (some (scr K a ns))) (hl : ns.length ≤ 63) (k : ∀ b, q (src b) env) : xCall0 1 (CSource K) (aB i aNil) env q w := by
  refine ⟨⟨_, hs⟩, rfl, [scr K a ns], ?_, rfl, a, ns, rfl, hl, fun b => ?_⟩
  · show (match env[i]?, slots env [] with
      | some (some s), some ss => some (s :: ss)
      | _, _ => none) = _
    rw [hs]
    rfl
  · show q (src b) (env.set i (some (scr K a ns)))
    rw [set_same hs]
    exact k b
section
variable {P : D → Prop} {PI : Int → Prop} {PL : List D → Prop} {PB : Bool → Prop} {d : D} {R : Prop}
theorem e_fz (h : P d) : ∃ d', (Sl.fz d).fzD = some d' ∧ P d' := ⟨d, rfl, h⟩
theorem e_ow {v : Addr} {ds : List D} (h : P (.lst ds)) : ∃ d', (Sl.ow (ol v ds)).fzD = some d' ∧ P d' := ⟨_, congrArg some (ol_toD _ ds), h⟩
theorem e_od {v : Addr} {ds : List (Key × D)} (h : P (.dic ds)) : ∃ d', (Sl.ow (od v ds)).fzD = some d' ∧ P d' := ⟨_, congrArg some (od_toD _ ds), h⟩
theorem e_ev {o : Option N} (h : o = some (.f d)) (k : P d) : ∃ d, o = some (N.f d) ∧ P d := ⟨d, h, k⟩
theorem e_I {n : Int} (k : PI n) : ∃ m, D.int n = .int m ∧ PI m := ⟨n, rfl, k⟩
theorem e_II {n m : Int} {P2 : Int → Int → Prop} (k : P2 n m) : ∃ i j, D.int n = .int i ∧ D.int m = .int j ∧ P2 i j := ⟨n, m, rfl, rfl, k⟩
theorem e_L {ds : List D} (k : PL ds) : ∃ es, D.lst ds = .lst es ∧ PL es := ⟨ds, rfl, k⟩
theorem e_T {ds : List D} (k : PL ds) : ∃ es, D.tup ds = .tup es ∧ PL es := ⟨ds, rfl, k⟩
theorem e_S {z : Str} {PS : Str → Prop} (k : PS z) : ∃ y, D.str z = .str y ∧ PS y := ⟨z, rfl, k⟩
theorem e_B {b : Bool} (k : PB b) : ∃ c, D.bl b = .bl c ∧ PB c := ⟨b, rfl, k⟩
theorem e_tru {b : Bool} (h : truD d = some b) (k : PB b) : ∃ c, truD d = some c ∧ PB c := ⟨b, h, k⟩
theorem e_vals {as : List PArg} {ds : List D} (h : vals as = some ds) (hl : ds.length.ble 1000 = true) (k : PL ds) : ∃ ds, vals as = some ds ∧ ds.length ≤ 1000 ∧ PL ds := ⟨ds, h, Nat.le_of_ble_eq_true hl, k⟩
theorem e_b1 {n : Int} (h1 : n < 2 ^ 62) (h2 : -(2 ^ 62) ≤ n) (k : R) : n < 2 ^ 62 ∧ -(2 ^ 62) ≤ n ∧ R := ⟨h1, h2, k⟩
theorem e_b2 {m n : Int} (h1 : -(2 ^ 62) ≤ m) (h2 : m < 2 ^ 62) (h3 : -(2 ^ 62) ≤ n) (h4 : n < 2 ^ 62) (k : R) : (-(2 ^ 62) ≤ m ∧ m < 2 ^ 62 ∧ -(2 ^ 62) ≤ n ∧ n < 2 ^ 62) ∧ R := ⟨⟨h1, h2, h3, h4⟩, k⟩
end
/-! ### data of a kind -/
theorem atI_map {α β : Type} (f : α → β) (xs : List α) (i : Int) : atI (xs.map f) i = (atI xs i).map f := by
  unfold atI
  rw [List.length_map]
  cases L2.ixN xs.length i with
  | none => rfl
  | some j =>
    show (xs.map f)[j]? = _
    rw [List.getElem?_map]
    rfl
theorem atI_lt {α : Type} {xs : List α} {n : Int} (h0 : 0 ≤ n) (h1 : n < xs.length) : ∃ c, atI xs n = some c ∧ c ∈ xs := at_lt h0 h1
theorem atI_at {α : Type} {xs : List α} {j : Nat} {x : α} (h : xs[j]? = some x) : atI xs (j : Int) = some x := atI_nat h
/-- a comprehension whose elements are known -/
theorem comps_map {α : Type} {st : Tg} {c : B} {e : G} {env : Env} {enc : α → D} {f : α → D} : ∀ {xs : List α}, (∀ x ∈ xs, ∃ env', st (enc x) env = some env' ∧ c env' = some true ∧ e env' = some (.f (f x))) → comps st c e env (xs.map enc) = some (xs.map f)
  | [], _ => rfl
  | x :: xs, h => by
    obtain ⟨env', h1, h2, h3⟩ := h x List.mem_cons_self
    rw [List.map_cons]
    unfold comps
    rw [h1]
    dsimp only
    rw [h2]
    dsimp only
    rw [h3, comps_map fun y hy => h y (List.mem_cons_of_mem _ hy)]
    rfl
theorem comps_filter {α : Type} {st : Tg} {c : B} {e : G} {env : Env} {enc : α → D} {f : α → D} {p : α → Bool} : ∀ {xs : List α}, (∀ x ∈ xs, ∃ env', st (enc x) env = some env' ∧ c env' = some (p x) ∧ (p x = true → e env' = some (.f (f x)))) → comps st c e env (xs.map enc) = some ((xs.filter p).map f)
  | [], _ => rfl
  | x :: xs, h => by
    obtain ⟨env', h1, h2, h3⟩ := h x List.mem_cons_self
    rw [List.map_cons]
    unfold comps
    rw [h1]
    dsimp only
    rw [h2]
    have ih := comps_filter (xs := xs) fun y hy => h y (List.mem_cons_of_mem _ hy)
    cases hp : p x with
    | true =>
      dsimp only
      rw [h3 hp, ih, List.filter_cons_of_pos hp]
      rfl
    | false =>
      dsimp only
      rw [ih, List.filter_cons_of_neg (by rw [hp]; exact Bool.false_ne_true)]
theorem gLc_some {gi : GI} {vs : List Nat} {st : Tg} {c : B} {e : G} {env : Env} {ds rs : List D} (h : gi env = some ds) (hl : ds.length ≤ 1000) (hc : comps st c e (wipeE env vs) ds = some rs) : gLc gi vs st c e env = some (.f (.lst rs)) := by
  unfold gLc
  rw [h]
  dsimp only
  rw [if_pos (sz1 hl), hc]
  rfl
theorem gFz_some {g : G} {env : Env} {d : D} (h : g env = some (.f d)) : gFz g env = some (.f d) := by
  unfold gFz
  rw [h]
theorem giL_ol {g : G} {env : Env} {a : Addr} {ds : List D} (h : g env = some (ol a ds)) : giL g env = some ds := by
  unfold giL
  rw [h]
  exact kids_ol a ds
theorem giL_f {g : G} {env : Env} {ds : List D} (h : g env = some (.f (.lst ds))) : giL g env = some ds := by
  unfold giL
  rw [h]
  rfl
theorem len_ol {g : G} {env : Env} {a : Addr} {ds : List D} (h : g env = some (ol a ds)) : gArgs (fA1 lenD) [g] env = some (.f (.int ds.length)) := by
  unfold gArgs gAll
  rw [h]
  show (lenD (ol a ds).toD).map N.f = _
  rw [ol_toD]
  rfl
theorem len_f {g : G} {env : Env} {ds : List D} (h : g env = some (.f (.lst ds))) : gArgs (fA1 lenD) [g] env = some (.f (.int ds.length)) := by
  unfold gArgs gAll
  rw [h]
  rfl
/-- == of flat data -/
theorem eqB_str (a b : Str) : eqB (.str a) (.str b) = some (decide (a = b)) := by
  unfold eqB
  rw [if_pos ⟨rfl, rfl, rfl⟩]
  congr 1
  show decide (V.str a = V.str b) = _
  rw [Bool.eq_iff_iff]
  simp
theorem eqB_int (a b : Int) : eqB (.int a) (.int b) = some (decide (a = b)) := by
  unfold eqB
  rw [if_pos ⟨rfl, rfl, rfl⟩]
  congr 1
  show decide (V.int a = V.int b) = _
  rw [Bool.eq_iff_iff]
  simp
theorem eqB_bl (a b : Bool) : eqB (.bl a) (.bl b) = some (decide (a = b)) := by
  unfold eqB
  rw [if_pos ⟨rfl, rfl, rfl⟩]
  congr 1
  show decide (V.bl a = V.bl b) = _
  rw [Bool.eq_iff_iff]
  simp
theorem eqB_deep {x y : D} {p q : PyData} (hx : toP x = some p) (hy : toP y = some q) (sx : SeqAt.shaped p = true) (sy : SeqAt.shaped q = true) (nf : flatD x = false) : eqB x y = some (PyData.eqv p q) := by
  unfold eqB
  rw [if_neg (by rw [nf]; exact fun z => Bool.false_ne_true z.1), hx, hy]
  dsimp only
  rw [if_pos ⟨sx, sy⟩]
theorem toPs_str : ∀ (l : List Str), toPs (l.map D.str) = some (l.map PyData.str)
  | [] => rfl
  | x :: l => by
    rw [List.map_cons]
    unfold toPs
    rw [toPs_str l]
    rfl
theorem shp_strs {l : List Str} (h : ∀ x ∈ l, PyData.strOk x = true) : Shp 1 (.list (l.map .str)) := shp_list fun d hd => by
  obtain ⟨x, hx, rfl⟩ := List.mem_map.mp hd
  exact shp_str _ (h x hx)
theorem b_op {o : D → D → Option D} {ga gb : G} {env : Env} {x y : N} {c : Bool} (h1 : ga env = some x) (h2 : gb env = some y) (h3 : o x.toD y.toD = some (.bl c)) : bV (gOp (fOp o) ga gb) env = some c := by
  unfold bV gOp
  rw [h1, h2]
  dsimp only
  unfold fOp
  rw [h3]
  rfl
theorem g_op {o : D → D → Option D} {ga gb : G} {env : Env} {x y : N} {d : D} (h1 : ga env = some x) (h2 : gb env = some y) (h3 : o x.toD y.toD = some d) : gOp (fOp o) ga gb env = some (.f d) := by
  unfold gOp
  rw [h1, h2]
  dsimp only
  unfold fOp
  rw [h3]
  rfl
theorem g_opN {o : N → N → Option N} {ga gb : G} {env : Env} {x y n : N} (h1 : ga env = some x) (h2 : gb env = some y) (h3 : o x y = some n) : gOp o ga gb env = some n := by
  unfold gOp
  rw [h1, h2]
  exact h3
theorem addD_s {x y : Str} (h : x.length + y.length ≤ 1000) : addD (.str x) (.str y) = some (.str (x ++ y)) := by
  unfold addD
  dsimp only
  rw [if_pos (sz1 h)]
theorem strD_i {i : Int} (h : i.natAbs.log2 < 1920) : strD (.int i) = some (.str (Str.ofString (toString i))) := by
  unfold strD
  dsimp only
  rw [if_pos h]
theorem a1_some {o : D → Option D} {g : G} {env : Env} {x : N} {d : D} (h1 : g env = some x) (h2 : o x.toD = some d) : gArgs (fA1 o) [g] env = some (.f d) := by
  unfold gArgs gAll
  rw [h1]
  show (o x.toD).map N.f = _
  rw [h2]
  rfl
theorem a2_some {o : D → D → Option D} {g g' : G} {env : Env} {x y : N} {d : D} (h1 : g env = some x) (h1' : g' env = some y) (h2 : o x.toD y.toD = some d) : gArgs (fA2 o) [g, g'] env = some (.f d) := by
  unfold gArgs gAll gAll
  rw [h1, h1']
  show (o x.toD y.toD).map N.f = _
  rw [h2]
  rfl
theorem ixS_some {z : Str} {i : Int} {c : Nat} (hl : z.length ≤ 1000) (h : atI z.cps.toList i = some c) : ixD (.f (.str z)) (.f (.int i)) = some (.f (.str ⟨#[c]⟩)) := by
  unfold ixD
  dsimp only
  rw [if_pos (sz1 hl), h]
  rfl
theorem erase_map {α β : Type} (f : α → β) : ∀ (l : List α) (j : Nat), (l.map f).eraseIdx j = (l.eraseIdx j).map f
  | [], _ => rfl
  | a :: r, 0 => rfl
  | a :: r, j + 1 => congrArg _ (erase_map f r j)
theorem all_lit {s : Str} {p : Nat → Bool} (h : s.cps.toList.all p = true) {c : Nat} (hc : c ∈ s.cps.toList) : p c = true := List.all_eq_true.mp h c hc
theorem ok1 {c : Nat} (h : c < 0x110000) : PyData.strOk (⟨#[c]⟩ : Str) = true := by
  unfold PyData.strOk
  simp only [List.all_toArray, List.all_cons, List.all_nil, Bool.and_true]
  exact decide_eq_true h
/-! ### values of expressions, by their parts -/
section
variable {env : Env} {ga gb gc : G} {ba bb : B} {x y n : N} {d : D} {c c' : Bool} {i : Nat}
theorem ev_var (h : env.node i = some n) : gVar i env = some n := h
theorem ev_c : gC d env = some (.f d) := rfl
theorem ev_op {o : N → N → Option N} (h1 : ga env = some x) (h2 : gb env = some y) (h3 : o x y = some n) : gOp o ga gb env = some n := g_opN h1 h2 h3
theorem ev_un {o : N → Option N} (h1 : ga env = some x) (h3 : o x = some n) : gUn o ga env = some n := by
  unfold gUn
  rw [h1]
  exact h3
theorem ev_a1 {o : List N → Option N} (h1 : ga env = some x) (h3 : o [x] = some n) : gArgs o [ga] env = some n := by
  unfold gArgs gAll gAll
  rw [h1]
  exact h3
theorem ev_a0 {o : List N → Option N} (h3 : o [] = some n) : gArgs o [] env = some n := h3
theorem ev_a2 {o : List N → Option N} (h1 : ga env = some x) (h2 : gb env = some y) (h3 : o [x, y] = some n) : gArgs o [ga, gb] env = some n := by
  unfold gArgs gAll gAll gAll
  rw [h1, h2]
  exact h3
theorem ev_as {gs : List G} {o : List N → Option N} {ns : List N} (h1 : gAll gs env = some ns) (h3 : o ns = some n) : gArgs o gs env = some n := by
  unfold gArgs
  rw [h1]
  exact h3
theorem ev_nil : gAll [] env = some [] := rfl
theorem ev_cons {gs : List G} {ns : List N} (h1 : ga env = some x) (h2 : gAll gs env = some ns) : gAll (ga :: gs) env = some (x :: ns) := by
  unfold gAll
  rw [h1, h2]
theorem ev_fz (h : ga env = some (.f d)) : gFz ga env = some (.f d) := gFz_some h
theorem ev_ifT (hc : ba env = some true) (h : ga env = some n) : gIf ba ga gb env = some n := by
  unfold gIf
  rw [hc]
  exact h
theorem ev_ifF (hc : ba env = some false) (h : gb env = some n) : gIf ba ga gb env = some n := by
  unfold gIf
  rw [hc]
  exact h
theorem ev_if {z : N} (hc : ba env = some c) (h1 : c = true → ga env = some x) (h2 : c = false → gb env = some z) : gIf ba ga gb env = some (if c = true then x else z) := by
  unfold gIf
  rw [hc]
  cases c with
  | true => exact h1 rfl
  | false => exact h2 rfl
theorem ev_bV (h : ga env = some (.f (.bl c))) : bV ga env = some c := by
  unfold bV
  rw [h]
theorem ev_bT (h : ga env = some n) (k : truD n.toD = some c) : bT ga env = some c := by
  unfold bT
  rw [h]
  exact k
theorem ev_bnot (h : ba env = some c) : bNot ba env = some (!c) := by
  unfold bNot
  rw [h]
  rfl
theorem ev_band (h : ba env = some c) (k : c = true → bb env = some c') : bAnd ba bb env = some (c && c') := by
  unfold bAnd
  rw [h]
  cases c with
  | true => exact k rfl
  | false => rfl
theorem ev_bor (h : ba env = some c) (k : c = false → bb env = some c') : bOr ba bb env = some (c || c') := by
  unfold bOr
  rw [h]
  cases c with
  | true => rfl
  | false => exact k rfl
theorem ev_and (h : ga env = some (.f (.bl c))) (k : c = true → gb env = some (.f (.bl c'))) : gAnd ga gb env = some (.f (.bl (c && c'))) := by
  unfold gAnd
  rw [h]
  cases c with
  | true => exact k rfl
  | false => rfl
theorem ev_or (h : ga env = some (.f (.bl c))) (k : c = false → gb env = some (.f (.bl c'))) : gOr ga gb env = some (.f (.bl (c || c'))) := by
  unfold gOr
  rw [h]
  cases c with
  | true => rfl
  | false => exact k rfl
theorem ev_not (h : ga env = some (.f (.bl c))) : gNot ga env = some (.f (.bl (!c))) := by
  unfold gNot
  rw [h]
theorem ev_yes : bYes env = some true := rfl
/-! leaves -/
theorem lf_eqs {a b : Str} : fOp eqD (.f (.str a)) (.f (.str b)) = some (.f (.bl (decide (a = b)))) := by
  show ((eqB (.str a) (.str b)).map D.bl).map N.f = _
  rw [eqB_str]
  rfl
theorem lf_nes {a b : Str} : fOp neD (.f (.str a)) (.f (.str b)) = some (.f (.bl (!decide (a = b)))) := by
  show ((eqB (.str a) (.str b)).map _).map N.f = _
  rw [eqB_str]
  rfl
theorem lf_eqi {a b : Int} : fOp eqD (.f (.int a)) (.f (.int b)) = some (.f (.bl (decide (a = b)))) := by
  show ((eqB (.int a) (.int b)).map D.bl).map N.f = _
  rw [eqB_int]
  rfl
theorem lf_nei {a b : Int} : fOp neD (.f (.int a)) (.f (.int b)) = some (.f (.bl (!decide (a = b)))) := by
  show ((eqB (.int a) (.int b)).map _).map N.f = _
  rw [eqB_int]
  rfl
theorem lf_eqb {a b : Bool} : fOp eqD (.f (.bl a)) (.f (.bl b)) = some (.f (.bl (decide (a = b)))) := by
  show ((eqB (.bl a) (.bl b)).map D.bl).map N.f = _
  rw [eqB_bl]
  rfl
theorem lf_neb {a b : Bool} : fOp neD (.f (.bl a)) (.f (.bl b)) = some (.f (.bl (!decide (a = b)))) := by
  show ((eqB (.bl a) (.bl b)).map _).map N.f = _
  rw [eqB_bl]
  rfl
theorem lf_cat {a b : Str} (h : a.length + b.length ≤ 1000000) : fOp addD (.f (.str a)) (.f (.str b)) = some (.f (.str (a ++ b))) := by
  show (addD (.str a) (.str b)).map N.f = _
  unfold addD
  dsimp only
  rw [if_pos (by rw [sizeLine_eq]; omega)]
  rfl
theorem lf_len {a : Addr} {ds : List D} : fA1 lenD [ol a ds] = some (.f (.int ds.length)) := by
  show (lenD (ol a ds).toD).map N.f = _
  rw [ol_toD]
  rfl
theorem lf_lst {ns : List N} {ds : List D} (h : fds ns = some ds) (hl : ds.length.ble 1000 = true) : mkL ns = some (.f (.lst ds)) := by
  unfold mkL
  rw [h]
  dsimp only
  rw [if_pos (Nat.le_of_ble_eq_true hl)]
theorem lf_tup {ns : List N} {ds : List D} (h : fds ns = some ds) (hl : ds.length.ble 1000 = true) : mkT ns = some (.f (.tup ds)) := by
  unfold mkT
  rw [h]
  dsimp only
  rw [if_pos (Nat.le_of_ble_eq_true hl)]
theorem lf_strI {i : Int} (h : i.natAbs.log2 < 1920) : fA1 strD [.f (.int i)] = some (.f (.str (Str.ofString (toString i)))) := by
  show (strD (.int i)).map N.f = _
  rw [strD_i h]
  rfl
theorem lf_gcat {x y : N} {ds es : List D} (h1 : kidsL x = some ds) (h2 : kidsL y = some es) (hl : ds.length + es.length ≤ 1000000) : gcat x y = some (.f (.lst (ds ++ es))) := by
  unfold gcat
  rw [h1, h2]
  dsimp only
  rw [if_pos (by rw [sizeLine_eq]; omega)]
end
end Pu

/-! ## Pu: containers within containers, by paths; objects -/
namespace Pu
open PySem PySem.Spec PyProof.Rows L2 Ed
open Classical in
theorem perm_by {A B : Cells} (h : ∀ c, A.count c = B.count c) : A.Perm B := List.perm_iff_count.mpr h
open Classical in
theorem by_perm {A B : Cells} (h : A.Perm B) (c : Addr × HO) : A.count c = B.count c := List.perm_iff_count.mp h c
inductive Step where
  | ix (k : Nat)
  | key (k : Key)
  | fld (f : Str)
def setK {α : Type} [DecidableEq α] (kvs : List (α × N)) (k : α) (n : N) : List (α × N) := match kvs with
  | [] => []
  | (j, m) :: r => if j = k then (j, n) :: r else (j, m) :: setK r k n
def ffind (fs : List (Str × N)) (f : Str) : Option N := (fs.find? fun kv => decide (kv.1 = f)).map Prod.snd
def N.kid : N → Step → Option N
  | .lst _ ns, .ix k => ns[k]?
  | .tup _ ns, .ix k => ns[k]?
  | .dic _ kvs, .key k => nfind kvs k
  | .obj _ _ _ fs, .fld x => ffind fs x
  | _, _ => none
def N.setKid : N → Step → N → N
  | .lst a ns, .ix k, m => .lst a (ns.set k m)
  | .tup a ns, .ix k, m => .tup a (ns.set k m)
  | .dic a kvs, .key k, m => .dic a (setK kvs k m)
  | .obj a dx C fs, .fld x, m => .obj a dx C (setK fs x m)
  | n, _, _ => n
def N.at_ : N → List Step → Option N
  | n, [] => some n
  | n, s :: p => match n.kid s with
    | some m => m.at_ p
    | none => none
def N.put : N → List Step → N → N
  | _, [], m => m
  | n, s :: p, m => match n.kid s with
    | some k => n.setKid s (k.put p m)
    | none => n
section
variable {K : PySem.W.Frag} {F : Hp}
theorem OwAll.kid : ∀ {vs : List V} {ns : List N} {S : Cells} {i : Nat} {n : N}, OwAll K F vs ns S → ns[i]? = some n → ∃ v A T B, vs[i]? = some v ∧ S = A ++ (T ++ B) ∧ Ow K F v n T ∧ ∀ F' m T', Same F F' → Ow K F' v m T' → OwAll K F' vs (ns.set i m) (A ++ (T' ++ B))
  | _, _, _, i, n, .nil, h => by cases h
  | _, _, _, 0, n, .cons (S := S) (T := T) a t, h => by
    cases h
    exact ⟨_, [], S, T, rfl, rfl, a, fun F' m T' s w => OwAll.cons (S := T') w (t.mono s)⟩
  | _, _, _, i + 1, n, .cons (S := S0) a t, h => by
    obtain ⟨v, A, T, B, h1, h2, h3, h4⟩ := OwAll.kid (i := i) t h
    refine ⟨v, S0 ++ A, T, B, h1, by rw [h2, List.append_assoc], h3, fun F' m T' s w => ?_⟩
    rw [List.append_assoc]
    exact .cons (a.mono s) (h4 F' m T' s w)
theorem OwDic.kid {k : Key} : ∀ {vs : List (Key × V)} {ns : List (Key × N)} {S : Cells} {n : N}, OwDic K F vs ns S → nfind ns k = some n → ∃ v A T B, valV vs k = some v ∧ S = A ++ (T ++ B) ∧ Ow K F v n T ∧ ∀ F' m T', Same F F' → Ow K F' v m T' → OwDic K F' vs (setK ns k m) (A ++ (T' ++ B))
  | _, _, _, n, .nil, h => by cases h
  | (k', v) :: vs, (_, n') :: ns, _, n, .cons (S := S0) (T := T0) a t, h => by
    unfold nfind at h
    unfold valV setK
    rw [List.find?_cons] at h ⊢
    by_cases hk : k' = k
    · subst hk
      simp only [decide_true] at h ⊢
      cases h
      refine ⟨v, [], S0, T0, rfl, rfl, a, fun F' m T' s w => ?_⟩
      rw [if_pos trivial]
      exact OwDic.cons (S := T') w (t.mono s)
    · simp only [hk, decide_false] at h ⊢
      obtain ⟨u, A, T, B, h1, h2, h3, h4⟩ := OwDic.kid (k := k) t h
      refine ⟨u, S0 ++ A, T, B, h1, by rw [h2, List.append_assoc], h3, fun F' m T' s w => ?_⟩
      rw [List.append_assoc]
      exact .cons (a.mono s) (h4 F' m T' s w)
theorem lookup_find {α : Type} (f : Str) : ∀ (l : List (Str × α)), l.lookup f = (l.find? fun kv => decide (kv.1 = f)).map Prod.snd
  | [] => rfl
  | (k, v) :: l => by
    rw [List.lookup_cons, List.find?_cons]
    by_cases h : k = f
    · subst h
      simp
    · have : (f == k) = false := by
        rw [beq_eq_false_iff_ne]
        exact fun z => h z.symm
      simp only [this, h, decide_false]
      exact lookup_find f l
theorem OwFs.kid {f : Str} : ∀ {vs : List (Str × V)} {ns : List (Str × N)} {S : Cells} {n : N}, OwFs K F vs ns S → ffind ns f = some n → ∃ v A T B, vs.lookup f = some v ∧ S = A ++ (T ++ B) ∧ Ow K F v n T ∧ ∀ F' m T', Same F F' → Ow K F' v m T' → OwFs K F' vs (setK ns f m) (A ++ (T' ++ B))
  | _, _, _, n, .nil, h => by cases h
  | (k', v) :: vs, (_, n') :: ns, _, n, .cons (S := S0) (T := T0) a t, h => by
    unfold ffind at h
    unfold setK
    rw [lookup_find]
    rw [List.find?_cons] at h ⊢
    by_cases hk : k' = f
    · subst hk
      simp only [decide_true] at h ⊢
      cases h
      refine ⟨v, [], S0, T0, rfl, rfl, a, fun F' m T' s w => ?_⟩
      rw [if_pos trivial]
      exact OwFs.cons (S := T') w (t.mono s)
    · simp only [hk, decide_false] at h ⊢
      obtain ⟨u, A, T, B, h1, h2, h3, h4⟩ := OwFs.kid (f := f) t h
      rw [lookup_find] at h1
      refine ⟨u, S0 ++ A, T, B, h1, by rw [h2, List.append_assoc], h3, fun F' m T' s w => ?_⟩
      rw [List.append_assoc]
      exact .cons (a.mono s) (h4 F' m T' s w)
theorem Ow.kid {v : V} {n m : N} {S : Cells} {s : Step} (h : Ow K F v n S) (e : n.kid s = some m) : ∃ u A T B, S = A ++ (T ++ B) ∧ Ow K F u m T ∧ ∀ F' m' T', Same F F' → Ow K F' u m' T' → Ow K F' v (n.setKid s m') (A ++ (T' ++ B)) := by
  unfold N.kid at e
  split at e
  · cases h with
    | lst h =>
      obtain ⟨u, A, T, B, h1, rfl, h3, h4⟩ := h.kid e
      exact ⟨u, _ :: A, T, B, rfl, h3, fun F' m' T' s w => .lst (h4 F' m' T' s w)⟩
  · cases h with
    | tup hT h =>
      obtain ⟨u, A, T, B, h1, rfl, h3, h4⟩ := h.kid e
      exact ⟨u, A, T, B, rfl, h3, fun F' m' T' s w => .tup (s _ _ hT) (h4 F' m' T' s w)⟩
  · cases h with
    | dic h =>
      obtain ⟨u, A, T, B, h1, rfl, h3, h4⟩ := h.kid e
      exact ⟨u, _ :: A, T, B, rfl, h3, fun F' m' T' s w => .dic (h4 F' m' T' s w)⟩
  · cases h with
    | obj h =>
      obtain ⟨u, A, T, B, h1, rfl, h3, h4⟩ := h.kid e
      exact ⟨u, _ :: A, T, B, rfl, h3, fun F' m' T' s w => .obj (h4 F' m' T' s w)⟩
  · cases e
theorem Ow.at_ : ∀ {p : List Step} {v : V} {n m : N} {S : Cells}, Ow K F v n S → n.at_ p = some m → ∃ u A T B, S = A ++ (T ++ B) ∧ Ow K F u m T ∧ ∀ F' m' T', Same F F' → Ow K F' u m' T' → Ow K F' v (n.put p m') (A ++ (T' ++ B))
  | [], v, n, m, S, h, e => by
    cases e
    exact ⟨v, [], S, [], by simp, h, fun F' m' T' s w => by rw [List.append_nil]; exact w⟩
  | s :: p, v, n, m, S, h, e => by
    unfold N.at_ at e
    split at e
    · rename_i k hk
      obtain ⟨u, A, T, B, rfl, h2, h3⟩ := h.kid hk
      obtain ⟨u2, A2, T2, B2, rfl, h5, h6⟩ := Ow.at_ h2 e
      refine ⟨u2, A ++ A2, T2, B2 ++ B, by simp only [List.append_assoc], h5, fun F' m' T' s' w => ?_⟩
      have z := h3 F' _ _ s' (h6 F' m' T' s' w)
      unfold N.put
      rw [hk]
      simp only [List.append_assoc] at z ⊢
      exact z
    · cases e
/-- what stands at a path of a slot, and what may take its place -/
theorem Rep.path {σ : L2.St} {env : Env} {M : Cells} {i : Nat} {p : List Step} {n m : N} (rp : Rep K F σ env M) (h : env[i]? = some (some (.ow n))) (e : n.at_ p = some m) :
    ∃ u A T B, M = A ++ (T ++ B) ∧ Ow K F u m T ∧ ∀ F' m' T', Same F F' → Ow K F' u m' T' → Rep K F' σ (env.set i (some (.ow (n.put p m')))) (A ++ (T' ++ B)) := by
  obtain ⟨v, A, S, B, hv, sl, rfl, put⟩ := rp.at h
  obtain ⟨u, A2, T, B2, rfl, h2, h3⟩ := Ow.at_ sl e
  refine ⟨u, A ++ A2, T, B2 ++ B, by simp only [List.append_assoc], h2, fun F' m' T' s w => ?_⟩
  have z := put F' (.ow (n.put p m')) v (A2 ++ (T' ++ B2)) s (h3 F' m' T' s w)
  rw [set_same hv] at z
  simp only [List.append_assoc] at z ⊢
  exact z
end
/-- the path that an expression of names, fields and subscripts walks -/
abbrev PTH := Env → Option (Nat × List Step)
def pV (i : Nat) : PTH := fun _ => some (i, [])
def pF (p : PTH) (f : Str) : PTH := fun env => match p env with
  | some (i, l) => some (i, l ++ [.fld f])
  | none => none
def pK (p : PTH) (g : G) : PTH := fun env => match p env, g env with
  | some (i, l), some n => match keyD n.toD with
    | some k => some (i, l ++ [.key k])
    | none => none
  | _, _ => none
def pI (p : PTH) (g : G) : PTH := fun env => match p env, g env with
  | some (i, l), some (.f (.int (.ofNat k))) => some (i, l ++ [.ix k])
  | _, _ => none
/-- the node at a path -/
def Env.path (env : Env) (q : Nat × List Step) : Option N := match env[q.1]? with
  | some (some (.ow n)) => n.at_ q.2
  | _ => none
def Env.putP (env : Env) (q : Nat × List Step) (m : N) : Env := match env[q.1]? with
  | some (some (.ow n)) => env.set q.1 (some (.ow (n.put q.2 m)))
  | _ => env
theorem Rep.path2 {K : PySem.W.Frag} {F H : Hp} {σ : L2.St} {env : Env} {M M0 : Cells} {q : Nat × List Step} {m : N} {a : Addr} (rp : Rep K F σ env M) (o : Own F (M ++ M0) H) (e : env.path q = some m) (ha : m.ad = some a) :
    ∃ A T B, Own F (T ++ (A ++ B)) H ∧ Ow K F (.ref a) m T ∧ ∀ F' H' m' T', Same F F' → Ow K F' (.ref a) m' T' → Own F' (T' ++ (A ++ B)) H' → ∃ M', Rep K F' σ (env.putP q m') M' ∧ Own F' (M' ++ M0) H' := by
  unfold Env.path at e
  split at e
  · rename_i n hn
    obtain ⟨u, A, T, B, rfl, h2, h3⟩ := rp.path hn e
    have hu := h2.ad ha
    subst hu
    refine ⟨A, T, B ++ M0, ?_, h2, fun F' H' m' T' s w o' => ⟨A ++ (T' ++ B), ?_, ?_⟩⟩
    · simp only [List.append_assoc] at o
      exact o.perm (perm_mid A T _)
    · unfold Env.putP
      rw [hn]
      exact h3 F' m' T' s w
    · simp only [List.append_assoc]
      exact o'.perm (perm_mid T' A _)
  · cases e
/-! ### stores at a path -/
/-- e.append(x), the list at a path -/
def xAppP (g : G) (p : PTH) (fa : FX) : FX := fun env q w => ∃ a ns0, g env = some (.lst a ns0) ∧ xD fa env w fun d env1 => ∃ pp ns, p env1 = some pp ∧ env1.path pp = some (.lst a ns) ∧ ns.length < sizeLine ∧ q (.fz .non) (env1.putP pp (.lst a (ns ++ [.f d])))
/-- e[k] = x, the dict at a path -/
def putN (kvs : List (Key × N)) (k : Key) (n : N) : List (Key × N) := if (kvs.any fun kv => decide (kv.1 = k)) = true then kvs.map (fun kv => if kv.1 = k then (kv.1, n) else kv) else kvs ++ [(k, n)]
/-- a container that is new to the dict comes under a new key -/
def PutOk (kvs : List (Key × N)) (k : Key) (n : N) : Prop := (∃ d, n = .f d) ∨ (kvs.any fun kv => decide (kv.1 = k)) = false
def Sl.nd : Sl → Option N
  | .fz d => some (.f d)
  | .ow n => some n
  | .cu _ _ => none
def sDputP (g : G) (p : PTH) (fk fv : FX) : FSt := fun env e => fv env (fun r env1 => ∃ a ns0 m, g env1 = some (.dic a ns0) ∧ r.nd = some m ∧ xD fk env1 e.ex fun dk env2 => ∃ pp kvs k, p env2 = some pp ∧ env2.path pp = some (.dic a kvs) ∧ keyD dk = some k ∧ kvs.length < sizeLine ∧ PutOk kvs k m ∧ e.nx (env2.putP pp (.dic a (putN kvs k m)))) e.ex
section
variable {K : PySem.W.Frag} {F : Hp}
theorem OwAll.app1 : ∀ {vs : List V} {ns : List N} {S : Cells} {v : V} {d : D}, OwAll K F vs ns S → Rp K F v d → OwAll K F (vs ++ [v]) (ns ++ [.f d]) S
  | _, _, _, v, d, .nil, r => OwAll.cons (S := []) (T := []) (.f r) .nil
  | _, _, _, v, d, .cons a t, r => .cons a (t.app1 r)
theorem OwDic.any {k : Key} : ∀ {vs : List (Key × V)} {ds : List (Key × N)} {S : Cells}, OwDic K F vs ds S → (vs.any fun kv => decide (kv.1 = k)) = (ds.any fun kv => decide (kv.1 = k))
  | _, _, _, .nil => rfl
  | _, _, _, .cons a t => by
    rw [List.any_cons, List.any_cons, t.any]
theorem OwDic.len : ∀ {vs : List (Key × V)} {ns : List (Key × N)} {S : Cells}, OwDic K F vs ns S → vs.length = ns.length
  | _, _, _, .nil => rfl
  | _, _, _, .cons _ t => congrArg (· + 1) t.len
end
section
variable {X : Cx} {K : PySem.W.Frag} {W : WX} {g : G} {p : PTH} {fa fb : FX}
theorem px_appP {c o : Expr} (ho : PD X K o g) (h : ∀ {to : TE}, PE X o to → PE X c (tBM X.K "list" rAppend to (tCons (LX K W fa) tNil))) : PX X K W c (xAppP g p fa) := fun hK => by
  refine pe_imp (h (ho hK)) fun σ H Q ⟨env, F, M, M0, q, w, rp, o, ⟨a, ns0, hg, hx⟩, k, kw⟩ => ?_
  refine ⟨env, F, M, M0, _, rp, o, hg, fun v F1 H1 s1 o1 w1 => ?_⟩
  obtain ⟨S, w1, hs⟩ := w1
  have hv := w1.ad (a := a) rfl
  subst hv
  cases w1 with
  | lst w1 =>
    rename_i vs0 S0
    have h0 := o1.mu _ (List.mem_append_left _ (hs _ List.mem_cons_self))
    refine ⟨.inl ⟨rfl, vs0, SqL.of h0⟩, lx_d (rp.mono s1) o1 hx (kw.up s1) fun d env1 y F2 M2 H2 ⟨pp, ns, hp, hpn, hl, hq⟩ s2 r2 rp2 o2 => ?_⟩
    obtain ⟨A, T, B, oT, ow, upd'⟩ := rp2.path2 o2 hpn rfl
    cases ow with
    | lst ow =>
      rename_i vs T0
      have h1 := oT.mu _ List.mem_cons_self
      have o3 : Own F2 ((a, .lst (vs ++ [y])) :: T0 ++ (A ++ B)) (upd H2 a (.lst (vs ++ [y]))) := own_upd (A := []) oT
      obtain ⟨M', rp', o'⟩ := upd' F2 _ (.lst a (ns ++ [.f d])) _ (Same.refl _) (.lst (ow.app1 r2)) o3
      exact ⟨a, vs, y, rfl, rfl, h1, by rw [ow.len]; exact hl, k _ _ .non [] F2 M' _ hq (s1.trans s2) ⟨rfl, .non⟩ rp' o'⟩
theorem OwDic.repl {F : Hp} {k : Key} {v : V} {d : D} (r : Rp K F v d) : ∀ {vs : List (Key × V)} {ns : List (Key × N)} {S : Cells}, OwDic K F vs ns S → ∃ S' T, S.Perm (T ++ S') ∧ OwDic K F (vs.map fun kv => if kv.1 = k then (kv.1, v) else kv) (ns.map fun kv => if kv.1 = k then (kv.1, .f d) else kv) S'
  | _, _, _, .nil => ⟨[], [], .refl _, .nil⟩
  | (k', u) :: vs, (_, m) :: ns, _, .cons (S := S0) a t => by
    obtain ⟨S', T, h1, h2⟩ := OwDic.repl r t
    rw [List.map_cons, List.map_cons]
    by_cases h : k' = k
    · rw [if_pos h, if_pos h]
      refine ⟨[] ++ S', S0 ++ T, ?_, .cons (.f r) h2⟩
      rw [List.append_assoc]
      exact h1.append_left S0
    · rw [if_neg h, if_neg h]
      exact ⟨S0 ++ S', T, (h1.append_left S0).trans (perm_mid S0 T S'), .cons a h2⟩
theorem OwDic.snoc {F : Hp} {k : Key} {v : V} {n : N} {Sv : Cells} (w : Ow K F v n Sv) : ∀ {vs : List (Key × V)} {ns : List (Key × N)} {S : Cells}, OwDic K F vs ns S → OwDic K F (vs ++ [(k, v)]) (ns ++ [(k, n)]) (S ++ Sv)
  | _, _, _, .nil => by
    have z := OwDic.cons (k := k) w .nil
    rw [List.append_nil] at z
    exact z
  | _, _, _, .cons a t => by
    rw [List.append_assoc]
    exact .cons a (t.snoc w)
theorem OwDic.putN {F : Hp} {k : Key} {v : V} {n : N} {Sv : Cells} {vs : List (Key × V)} {ns : List (Key × N)} {S : Cells} (h : OwDic K F vs ns S) (w : Ow K F v n Sv) (ok : PutOk ns k n) : ∃ S' T, (Sv ++ S).Perm (T ++ S') ∧ OwDic K F (putK vs k v) (Pu.putN ns k n) S' := by
  unfold putK Pu.putN
  rw [h.any]
  split
  · rename_i hh
    rcases ok with ⟨d, rfl⟩ | ok
    · cases w with
      | f r => exact h.repl r
    · rw [ok] at hh
      cases hh
  · exact ⟨S ++ Sv, [], List.perm_append_comm, h.snoc w⟩
theorem slot_nd {F : Hp} {v : V} {r : Sl} {S : Cells} {m : N} (h : SlotR K F v r S) (e : r.nd = some m) : Ow K F v m S := by
  cases r with
  | fz d =>
    cases e
    obtain ⟨rfl, h⟩ := h
    exact .f h
  | ow n =>
    cases e
    exact h
  | cu _ _ => cases e
theorem pp_dputP {st : Stmt} {o : Expr} (ho : PD X K o g) (h : ∀ {to : TE}, PE X o to → PS X st (sDPut to (LX K W fb) (LX K W fa))) : PP X K W st (sDputP g p fb fa) := fun hK => ps_imp (h (ho hK)) fun E σ H ⟨env, F, M, M0, e, rp, o, hh, ft⟩ => by
  refine ⟨env, F, M, M0, _, _, rp, o, hh, fun r env1 v S F1 M1 H1 ⟨a, ns0, m, hg, hr, hk⟩ s1 sl rp1 o1 => ?_, ft.ex⟩
  have hw := slot_nd sl hr
  -- the dict, looked at
  have o1' : Own F1 (M1 ++ (S ++ M0)) H1 := o1.perm (perm_mid S M1 M0)
  refine ⟨env1, F1, M1, S ++ M0, _, rp1, o1', hg, fun u F2 H2 s2 o2 w2 => ?_⟩
  obtain ⟨S2, w2, hs⟩ := w2
  have hu := w2.ad (a := a) rfl
  subst hu
  refine lx_d (rp1.mono s2) o2 hk ((ft.ex.up (s1.trans s2)).more) fun dk env2 y F3 M3 H3 ⟨pp, kvs, k, hp, hpn, hkk, hl, ok, hq⟩ s3 r3 rp3 o3 => ?_
  unfold Env.path at hpn
  split at hpn
  · rename_i n hn
    obtain ⟨u, A, T, B, rfl, ow, rep⟩ := rp3.path hn hpn
    have hu := ow.ad (a := a) rfl
    subst hu
    cases ow with
    | dic ow =>
      rename_i vs T0
      have o4 : Own F3 ((a, .dK vs) :: (T0 ++ (A ++ (B ++ (S ++ M0))))) H3 := by
        refine o3.perm ?_
        exact perm_by fun c => (by simp only [List.count_append, List.count_cons]; omega)
      have hm := o4.mu _ List.mem_cons_self
      obtain ⟨S', X', hp1, hd⟩ := ow.putN (hw.mono (s2.trans s3)) ok
      have o5 := own_upd (A := []) (y := .dK (putK vs k v)) o4
      have o6 : Own F3 (X' ++ ((A ++ (((a, .dK (putK vs k v)) :: S') ++ B)) ++ M0)) (upd H3 a (.dK (putK vs k v))) := by
        refine o5.perm ?_
        exact perm_by fun c => (by have := by_perm hp1 c; simp only [List.count_append, List.count_cons, List.nil_append] at this ⊢; omega)
      refine ⟨a, _, rfl, key_put (key_v r3 hkk) hm (by rw [ow.len]; exact hl), ?_⟩
      refine ft.nx _ _ F3 _ _ hq (s1.trans (s2.trans s3)) ?_ (o6.sub (List.sublist_append_right X' _))
      unfold Env.putP
      rw [hn]
      exact rep F3 _ _ (Same.refl _) (.dic hd)
  · cases hpn
/-! ### fields -/
def fldN (C f : Str) : N → Option N
  | .f (.obj C' fs) => if C' = C then ((fs.find? fun kv => decide (kv.1 = f)).map fun kv => N.f kv.2) else none
  | .obj _ _ C' fs => if C' = C then ffind fs f else none
  | _ => none
theorem rpFs_find {H : Hp} {f : Str} : ∀ {vs : List (Str × V)} {ds : List (Str × D)} {d : D}, RpFs K H vs ds → (ds.find? fun kv => decide (kv.1 = f)).map Prod.snd = some d → ∃ v, vs.lookup f = some v ∧ Rp K H v d
  | _, _, d, .nil, h => by cases h
  | (k', v) :: vs, (_, d') :: ds, d, .cons a t, h => by
    rw [lookup_find]
    rw [List.find?_cons] at h ⊢
    by_cases hk : k' = f
    · subst hk
      simp only [decide_true] at h ⊢
      cases h
      exact ⟨v, rfl, a⟩
    · simp only [hk, decide_false] at h ⊢
      obtain ⟨u, h1, h2⟩ := rpFs_find (f := f) t h
      rw [lookup_find] at h1
      exact ⟨u, h1, h2⟩
theorem pd_fld {e : Expr} {C f : Str} {pos : Pos} (cl : Cls K (He.ga K C)) (na : NoAttr K (He.ga K C) f) (he : PD X K e g) (hb : attributeBase e f X.env (eval e X.env) = eval e X.env := by rfl) : PD X K (.Attribute e f pos) (gUn (fldN C f) g) := fun hK => by
  subst hK
  refine pe_imp (pe_fld (he rfl) hb) fun σ H Q ⟨env, F, M, M0, n, rp, o, hg, k⟩ => ?_
  obtain ⟨x, h1, h2⟩ := gUn_some hg
  refine ⟨env, F, M, M0, x, rp, o, h1, fun v F' H' s' o' w => ?_⟩
  unfold fldN at h2
  split at h2
  · rename_i C' fs
    split at h2
    · rename_i hC
      subst hC
      cases q : (fs.find? fun kv => decide (kv.1 = f)) with
      | none =>
        rw [q] at h2
        cases h2
      | some kv =>
        rw [q] at h2
        cases h2
        cases w.f with
        | obj ho r =>
          obtain ⟨u, hu, ru⟩ := rpFs_find (f := f) (d := kv.2) r (by rw [q]; rfl)
          exact ⟨_, _, _, _, u, rfl, o'.fr _ _ ho, cl, na, hu, k u F' H' s' o' (Vw.of ru)⟩
    · cases h2
  · rename_i C' fs
    split at h2
    · rename_i hC
      subst hC
      obtain ⟨S, w, hs⟩ := w
      cases w with
      | obj w =>
        obtain ⟨u, A, T, B, h3, rfl, h4, _⟩ := w.kid h2
        have hm := o'.mu _ (List.mem_append_left _ (hs _ List.mem_cons_self))
        exact ⟨_, _, _, _, u, rfl, hm, cl, na, h3, k u F' H' s' o' ⟨T, h4, fun c hc => hs c (List.mem_cons_of_mem _ (List.mem_append_right _ (List.mem_append_left _ hc)))⟩⟩
    · cases h2
  · cases h2
end
end Pu

/-! ## Pu: objects made and changed, methods, errors -/
namespace Pu
open PySem PySem.Spec PyProof.Rows L2 Ed
def putFN (f : Str) (n : N) : List (Str × N) → List (Str × N)
  | [] => [(f, n)]
  | (g, x) :: r => if g = f then (g, n) :: r else (g, x) :: putFN f n r
section
variable {K : PySem.W.Frag} {F : Hp}
theorem OwFs.putF {f : Str} {v : V} {n : N} {Sv : Cells} (w : Ow K F v n Sv) : ∀ {vs : List (Str × V)} {ns : List (Str × N)} {S : Cells}, OwFs K F vs ns S → ∃ S' T, (Sv ++ S).Perm (T ++ S') ∧ OwFs K F (L2.putF f v vs) (putFN f n ns) S'
  | _, _, _, .nil => ⟨Sv ++ [], [], .refl _, .cons w .nil⟩
  | (k, u) :: vs, (_, m) :: ns, _, .cons (S := S0) (T := T0) a t => by
    unfold L2.putF putFN
    by_cases h : k = f
    · rw [if_pos h, if_pos h]
      refine ⟨Sv ++ T0, S0, ?_, .cons w t⟩
      exact perm_mid Sv S0 T0
    · rw [if_neg h, if_neg h]
      obtain ⟨S', T, h1, h2⟩ := OwFs.putF w t
      refine ⟨S0 ++ S', T, ?_, .cons a h2⟩
      exact perm_by fun c => (by have := by_perm h1 c; simp only [List.count_append] at this ⊢; omega)
theorem OwFs.len : ∀ {vs : List (Str × V)} {ns : List (Str × N)} {S : Cells}, OwFs K F vs ns S → vs.length = ns.length
  | _, _, _, .nil => rfl
  | _, _, _, .cons _ t => congrArg (· + 1) t.len
end
/-- e.f = x, the object at a path -/
def sFldP (C f : Str) (g : G) (p : PTH) (fv : FX) : FSt := fun env e => fv env (fun r env1 => ∃ a dx fs m pp, g env1 = some (.obj a dx C fs) ∧ r.nd = some m ∧ p env1 = some pp ∧ env1.path pp = some (.obj a dx C fs) ∧ fs.length < 1000 ∧ e.nx (env1.putP pp (.obj a dx C (putFN f m fs)))) e.ex
section
variable {X : Cx} {K : PySem.W.Frag} {W : WX} {g : G} {p : PTH} {fa fb : FX} {C f : Str}
theorem pp_fldP {st : Stmt} {o : Expr} (cl : Cls K (He.ga K C)) (na : NoAttr K (He.ga K C) f) (ho : PD X K o g) (h : ∀ {to : TE}, PE X o to → PS X st (sFld X.K to (LX K W fa) f)) : PP X K W st (sFldP C f g p fa) := fun hK => by
  refine ps_imp (h (ho hK)) fun E σ H ⟨env, F, M, M0, e, rp, o, hh, ft⟩ => ?_
  subst hK
  refine ⟨env, F, M, M0, _, _, rp, o, hh, fun r env1 v S F1 M1 H1 ⟨a, dx, fs, m, pp, hg, hr, hp, hpn, hl, hq⟩ s1 sl rp1 o1 => ?_, ft.ex⟩
  have hw := slot_nd sl hr
  have o1' : Own F1 (M1 ++ (S ++ M0)) H1 := o1.perm (perm_mid S M1 M0)
  refine ⟨env1, F1, M1, S ++ M0, _, rp1, o1', hg, fun u F2 H2 s2 o2 w2 => ?_⟩
  obtain ⟨S2, w2, hs⟩ := w2
  have hu := w2.ad (a := a) rfl
  subst hu
  unfold Env.path at hpn
  split at hpn
  · rename_i n hn
    obtain ⟨u, A, T, B, rfl, ow, rep⟩ := (rp1.mono s2).path hn hpn
    have hu := ow.ad (a := a) rfl
    subst hu
    cases ow with
    | obj ow =>
      rename_i fvs T0
      have o4 : Own F2 ((a, .ins (He.ga X.K C) dx fvs) :: (T0 ++ (A ++ (B ++ (S ++ M0))))) H2 := by
        refine o2.perm ?_
        exact perm_by fun c => (by simp only [List.count_append, List.count_cons]; omega)
      have hm := o4.mu _ List.mem_cons_self
      obtain ⟨S', X', hp1, hd⟩ := OwFs.putF (f := f) (hw.mono s2) ow
      have o5 := own_upd (A := []) (y := .ins (He.ga X.K C) dx (L2.putF f v fvs)) o4
      have o6 : Own F2 (X' ++ ((A ++ (((a, .ins (He.ga X.K C) dx (L2.putF f v fvs)) :: S') ++ B)) ++ M0)) (upd H2 a (.ins (He.ga X.K C) dx (L2.putF f v fvs))) := by
        refine o5.perm ?_
        exact perm_by fun c => (by have := by_perm hp1 c; simp only [List.count_append, List.count_cons, List.nil_append] at this ⊢; omega)
      refine ⟨a, _, dx, fvs, rfl, hm, cl, na, by rw [ow.len]; exact hl, ?_⟩
      refine ft.nx _ _ F2 _ _ hq (s1.trans s2) ?_ (o6.sub (List.sublist_append_right X' _))
      unfold Env.putP
      rw [hn]
      exact rep F2 _ _ (Same.refl _) (.obj hd)
  · cases hpn
end
/-! ### errors -/
/-- raise C(args): the fields are nm of the arguments -/
def sRaise (C : Str) (ok : List D → Prop) (nm : List D → List (Str × D)) (fa : FA) : FSt := fun env e => fa env (fun as env' => ∃ ds, vals as = some ds ∧ ok ds ∧ e.ex C (nm ds) env') e.ex
/-- an error whose fields are its arguments, in order -/
theorem pp_raise {X : Cx} {K : PySem.W.Frag} {W : WX} {st : Stmt} {fa : FA} {C : Str} {sp : Sp} {ok : List D → Prop} {nm : List D → List (Str × D)}
    (h : PS X st (tRaise (tMkO (He.ga K C) sp [] (LAX K W fa)) W))
    (hm : ∀ {F H : Hp} {M : Cells} {vs : List V} {ds : List D} {Q : XK}, Own F M H → RpAll K F vs ds → ok ds → (∀ d F' H' fvs, Same F F' → Own F' M H' → F' d = some (.xd fvs) → RpFs K F' fvs (nm ds) → Q (.ref (He.ga K C)) (some d) H') → MkE (He.ga K C) sp vs H Q) :
    PP X K W st (sRaise C ok nm fa) := fun hK => ps_imp h fun E σ H ⟨env, F, M, M0, e, rp, o, hh, ft⟩ =>
  ⟨env, F, M, M0, _, _, rp, o, hh, fun as env' vs F' M' H' ⟨ds, hd, hok, hx⟩ s' ar rp' o' => hm (Q := fun cls d H' => W cls d σ H') o' (vals_rp ar hd) hok fun d F2 H2 fvs s2 o2 h2 r2 => ft.ex _ _ env' _ _ σ F2 M' H2 hx (s'.trans s2) ⟨rfl, d, fvs, rfl, h2, r2⟩ (rp'.mono s2) o2, ft.ex⟩
/-- try: body except C as n (slot i): suite a d, a and d: where the error and its fields are laid -/
def sTry (m : Str → Option Bool) (i : Nat) (body : FSt) (suite : Addr → Value → Option Addr → FSt) : FSt := fun env e => body env { e with ex := fun C fs env' => ∃ b, m C = some b ∧ (b = true → i < env'.length ∧ ∀ a cls d, suite a cls d (env'.set i (some (.fz (.exc a cls d C fs)))) { e with nx := fun env2 => e.nx (env2.set i none), bk := fun env2 => e.bk (env2.set i none), ct := fun env2 => e.ct (env2.set i none) }) ∧ (b = false → e.ex C fs env') }
/-- e.f within the suite -/
noncomputable def gXf (a : Addr) (cls : Value) (d : Option Addr) (C f : Str) : N → Option N
  | .f (.exc a' cls' d' C' fs) => open Classical in if a' = a ∧ cls' = cls ∧ d' = d ∧ C' = C then (fs.find? fun kv => decide (kv.1 = f)).map fun kv => .f kv.2 else none
  | _ => none
theorem ev_xf {a : Addr} {cls : Value} {d : Option Addr} {C f : Str} {fs : List (Str × D)} {v : D} (h : (fs.find? fun kv => decide (kv.1 = f)).map Prod.snd = some v) : gXf a cls d C f (.f (.exc a cls d C fs)) = some (.f v) := by
  unfold gXf
  dsimp only
  rw [if_pos ⟨rfl, rfl, rfl, rfl⟩]
  cases q : (fs.find? fun kv => decide (kv.1 = f)) with
  | none =>
    rw [q] at h
    cases h
  | some kv =>
    rw [q] at h
    cases h
    rfl
theorem pd_xf {X : Cx} {K : PySem.W.Frag} {a : Addr} {C f : Str} {oe : Obj} {cls : Value} {d : Option Addr} {pn : List (Addr × Obj)} {e : Expr} {g : G} {pos : Pos} (T : XfC K (He.ga K C)) (hno : PySem.W.findIn K (.ref (He.ga K C)) f = some none)
    (hz : Zc cls d oe) (hf : ∃ vs, oe.data = .fields vs) (he : PD (X.suite a ((a, oe) :: pn)) K e g) (hb : attributeBase e f X.env (eval e X.env) = eval e X.env := by rfl) :
    PD (X.suite a ((a, oe) :: pn)) K (.Attribute e f pos) (gUn (gXf a cls d C f) g) := fun hK => by
  have hK' : X.K = K := hK
  subst hK'
  refine pe_imp (pe_xf T hno hz hf (he hK) hb) fun σ H Q ⟨env, F, M, M0, n, rp, o, hg, k⟩ => ?_
  obtain ⟨x, h1, h2⟩ := gUn_some hg
  refine ⟨env, F, M, M0, x, rp, o, h1, fun v F' H' s' o' w => ?_⟩
  unfold gXf at h2
  split at h2
  · rename_i a' cls' d' C' fs
    split at h2
    · rename_i hc
      obtain ⟨rfl, rfl, rfl, rfl⟩ := hc
      cases q : (fs.find? fun kv => decide (kv.1 = f)) with
      | none =>
        rw [q] at h2
        cases h2
      | some kv =>
        rw [q] at h2
        cases h2
        cases w.f with
        | exc hd r =>
          obtain ⟨u, hu, ru⟩ := rpFs_find (f := f) (d := kv.2) r (by rw [q]; rfl)
          exact ⟨rfl, rfl, _, _, u, rfl, o'.fr _ _ hd, hu, k u F' H' s' o' (Vw.of ru)⟩
    · cases h2
  · cases h2
theorem rep_drop {K : PySem.W.Frag} {F H : Hp} {σ : L2.St} {env : Env} {M M0 : Cells} (rp : Rep K F σ env M) (o : Own F (M ++ M0) H) (i : Nat) (x : Option V) : ∃ M', Rep K F (σ.set i x) (env.set i none) M' ∧ Own F (M' ++ M0) H := by
  obtain ⟨M', sub, r⟩ := rp.drop i
  obtain ⟨T, hT⟩ := sub_perm sub
  refine ⟨M', ?_, own_less (hT.trans List.perm_append_comm) o⟩
  by_cases hi : i < env.length
  · have z := rep_any (o := x) r (List.getElem?_set_self hi)
    rw [List.set_set] at z
    exact z
  · have hs : ¬ i < σ.length := by rw [rp.len]; exact hi
    rw [List.set_eq_of_length_le (by omega)] at r ⊢
    rw [List.set_eq_of_length_le (by omega)] at r
    rw [List.set_eq_of_length_le (by omega)]
    exact r
theorem pp_try {X : Cx} {K : PySem.W.Frag} {W : WX} {st : Stmt} {c : Value} {i : Nat} {body : FSt} {suite : Addr → Value → Option Addr → FSt} {m : Str → Option Bool}
    (h : PS X st (tTryAs K c i (fun W => LS K W body) (fun a cls d => LS K W (suite a cls d)) W))
    (hm : ∀ C b, m C = some b → PySem.W.exmOne K (.ref (He.ga K C)) c = some b) : PP X K W st (sTry m i body suite) := fun hK => ps_imp h fun E σ H ⟨env, F, M, M0, e, rp, o, hh, ft⟩ =>
  ⟨env, F, M, M0, _, rp, o, hh, ⟨ft.nx, ft.rt, ft.bk, ft.ct, fun C fs env' cls d σ' F' M' H' ⟨b, hb, h1, h2⟩ s' xr rp' o' => by
    obtain ⟨rfl, da, fvs, rfl, hda, hfs⟩ := id xr
    refine ⟨b, hm C b hb, fun hbt a na => ?_, fun hbf => ft.ex C fs env' _ _ σ' F' M' H' (h2 hbf) s' xr rp' o'⟩
    obtain ⟨hi, hs⟩ := h1 hbt
    obtain ⟨A, S0, B, hM, put⟩ := rp'.put hi
    subst hM
    have rp2 := put F' (.fz (.exc a (.ref (He.ga K C)) (some da) C fs)) (.ref a) [] (Same.refl _) ⟨rfl, .exc hda hfs⟩
    refine ⟨_, F', _, M0, _, rp2, own_put (S := []) o', hs a _ _, ?_⟩
    have fu := ft.up s'
    refine ⟨fun env2 σ2 F2 M3 H2 hq s2 rp3 o3 => ?_, fu.rt, fun env2 σ2 F2 M3 H2 hq s2 rp3 o3 => ?_, fun env2 σ2 F2 M3 H2 hq s2 rp3 o3 => ?_, fu.ex⟩
    · obtain ⟨M4, rp4, o4⟩ := rep_drop rp3 o3 i none
      exact fu.nx _ _ F2 M4 H2 hq s2 rp4 o4
    · obtain ⟨M4, rp4, o4⟩ := rep_drop rp3 o3 i none
      exact fu.bk _ _ F2 M4 H2 hq s2 rp4 o4
    · obtain ⟨M4, rp4, o4⟩ := rep_drop rp3 o3 i none
      exact fu.ct _ _ F2 M4 H2 hq s2 rp4 o4⟩⟩
end Pu

/-! ## Pu: isinstance, methods, new objects, constants of the module -/
namespace Pu
open PySem PySem.Spec PyProof.Rows L2 Ed
/-! ### isinstance of built-in types -/
def tyD : D → Option String
  | .non => some "NoneType"
  | .bl _ => some "bool"
  | .int _ => some "int"
  | .str _ => some "str"
  | .lst _ => some "list"
  | .tup _ => some "tuple"
  | .dic _ => some "dict"
  | _ => none
theorem ty_of {K : PySem.W.Frag} {H : Hp} {v : V} {d : D} {t : String} (r : Rp K H v d) (h : tyD d = some t) : TyX K H v (.type t) := by
  cases r with
  | non => cases h; exact .base .non
  | bl b => cases h; exact .base (.bl b)
  | int i => cases h; exact .base (.int i)
  | str s => cases h; exact .base (.str s)
  | lst hh a => cases h; exact .base (.lst hh)
  | tup hh a =>
    cases h
    rcases hh with (hh | ⟨o, hh⟩) | ⟨o, its, n, hk, hc, _⟩
    · exact .base (.tup hh)
    · exact .fTuple hh
    · exact .kTuple hk hc
  | dic hh a => cases h; exact .base (.dK hh)
  | _ => cases h
def isiB (T : String) (d : D) : Option Bool := match tyD d with
  | some t => kitB t T
  | none => none
def isiD (T : String) : D → Option D := fun d => (isiB T d).map D.bl
section
variable {X : Cx} {K : PySem.W.Frag} {W : WX} {e : Expr} {g : G} {pos p : Pos}
/-- isinstance(e, T) -/
theorem pd_isi {T : String} {call : Expr} (h : PE X call (tCB (rIsi X.K) (tCons (LG K g) (tCons (tC (.ty T)) tNil)))) : PD X K call (gUn (fUn (isiD T)) g) := fun hK => by
  subst hK
  refine pe_imp h fun σ H Q ⟨env, F, M, M0, n, rp, o, hg, k⟩ => ?_
  obtain ⟨x, h1, h2⟩ := gUn_some hg
  refine ⟨env, F, M, M0, x, rp, o, h1, fun v F' H' s' o' w => ?_⟩
  unfold fUn isiD isiB at h2
  cases q : tyD x.toD with
  | none =>
    rw [q] at h2
    cases h2
  | some t =>
    rw [q] at h2
    dsimp only at h2
    cases q2 : kitB t T with
    | none =>
      rw [q2] at h2
      cases h2
    | some b =>
      rw [q2] at h2
      cases h2
      exact ⟨v, .ty T, .type t, .type T, b, rfl, .ty T, ty_of (w.rp o') q, kit_ty q2, k (.bl b) F' H' s' o' (Vw.of (.bl b))⟩
/-- isinstance(e, (T, U)) -/
def isiD2 (T U : String) : D → Option D := fun d => match isiB T d, isiB U d with
  | some a, some b => some (.bl (a || b))
  | _, _ => none
theorem pd_isi2 {T U : String} {call : Expr} (h : PE X call (tCB (rIsiT X.K) (tCons (LG K g) (tCons (tTup (tCons (tC (.ty T)) (tCons (tC (.ty U)) tNil))) tNil)))) : PD X K call (gUn (fUn (isiD2 T U)) g) := fun hK => by
  subst hK
  refine pe_imp h fun σ H Q ⟨env, F, M, M0, n, rp, o, hg, k⟩ => ?_
  obtain ⟨x, h1, h2⟩ := gUn_some hg
  refine ⟨env, F, M, M0, x, rp, o, h1, fun v F' H' s' o' w => ?_⟩
  unfold fUn isiD2 isiB at h2
  cases q : tyD x.toD with
  | none =>
    rw [q] at h2
    cases h2
  | some t =>
    rw [q] at h2
    dsimp only at h2
    cases q1 : kitB t T with
    | none =>
      rw [q1] at h2
      cases h2
    | some b1 =>
      cases q2 : kitB t U with
      | none =>
        rw [q1, q2] at h2
        cases h2
      | some b2 =>
        rw [q1, q2] at h2
        cases h2
        refine ⟨by show 2 ≤ sizeLine; decide, fun tp hp => ?_⟩
        have n := o'.free hp
        have o2 := o'.newF (x := .tup [.ty T, .ty U]) hp
        refine ⟨v, tp, [.ty T, .ty U], .type t, [.type T, .type U], b1 || b2, rfl, upd_same, .cons (.ty T) (.cons (.ty U) .nil), ty_of ((w.rp o').mono (same_upd hp)) q, ?_, k (.bl _) _ _ (s'.trans (same_upd n)) o2 (Vw.of (.bl _))⟩
        refine kitAny_cons (kit_ty q1) (fun hb => ?_) (fun hb => by rw [hb]; rfl)
        rw [hb, Bool.false_or]
        refine kitAny_cons (kit_ty q2) (fun hb2 => ?_) (fun hb => hb)
        rw [hb2]
        rfl
end
end Pu

namespace Pu
open PySem PySem.Spec PyProof.Rows L2 Ed
/-! ### a method that may raise -/
def tMethW (C : Addr) (m : Str) (sp : Sp) (W : WX) (ta : TE) (t : TA) : TE := fun σ H Q => ta σ H fun x H1 => ∃ a dx fs, x = .ref a ∧ H1 a = some (.ins C dx fs) ∧ fs.lookup m = none ∧ t σ H1 fun vs H2 => sp (x :: vs) H2 Q fun cls d H' => W cls d σ H'
theorem pe_methW {X : Cx} {k : Nat} {C f : Addr} {m : Str} {sp : Sp} {W : WX} {o e : Expr} {es : List Expr} {ta : TE} {t : TA} {apos pos : Pos} {pl : Sem Bool} (he : PE X o ta) (c : Cls X.K C) (hm : Meth X.K C m f)
    (F : FnR X.prog X.w X.K X.mg X.base (CX X.prog X.w) k f sp) (hr : Room k X.A) (tk : Takes X W) (ha : PA X (e :: es) t)
    (hst : starEach (e :: es) X.env = (false, eval e X.env) :: starEach es X.env := by rfl) (hpl : (backTo pos (starEach es X.env)).any (·.1) = false := by rfl)
    (ht : eval (.Call (.Attribute o m apos) (e :: es) [] pos) X.env = (do
      let ov ← eval o X.env
      standAt apos.atName
      let (f, first) ← holding [ov] (getMethod ov m pl)
      callWith pos f first (backTo pos (starEach (e :: es) X.env)) (backToKw pos (keywordEach [] X.env))) := by rfl) :
    PE X (.Call (.Attribute o m apos) (e :: es) [] pos) (tMethW C m sp W ta t) := by
  refine ⟨fun pins s σ H Q I h => ?_⟩
  refine PySem.W.methodCall_KW (pl := pl) (thn (he.run pins s σ H _ I h) fun u s1 ⟨x, H1, I1, rx, a, dx, fs, ex, ea, l, q⟩ => ?_) ht
  subst ex
  obtain rfl : u = Value.ref a := rx
  refine getmeth_ok I1 ea c hm l ?_
  refine PySem.W.callWith_K (first := [.ref a]) (h₀ := X.base) I.ok.mod.kin hm.kp (thn (ha.run pos pins s1 σ H1 _ I1 q) fun us s2 ⟨vs, H2, I2, r, q2⟩ => ⟨I2.kIn, ?_⟩) hst hpl
  exact run_fnW (us := .ref a :: us) (vs := .ref a :: vs) F hr tk I2 (.cons rfl r) q2
/-! ### an object whose __init__ may raise -/
def tMakeW (C : Addr) (sp : Sp) (W : WX) (t : TA) : TE := fun σ H Q => t σ H fun vs H1 => ∀ x dx, H1 x = Option.none → H1 dx = Option.none → dx ≠ x →
  sp (V.ref x :: vs) (upd (upd H1 dx (.own x)) x (.ins C dx [])) (fun v H2 => v = .non ∧ Q (.ref x) H2) fun cls d H' => W cls d σ H'
theorem run_makeW {X : Cx} {k : Nat} {f C : Addr} {sp : Sp} {W : WX} {pins : List (Addr × Obj)} {σ : L2.St} {H : Hp} {s : Shared} {Q : VK} {us : List Value} {vs : List V} (M : Mk X.K C f) (F : FnR X.prog X.w X.K X.mg X.base (CX X.prog X.w) k f sp) (hr : Room (k + 1) X.A) (tk : Takes X W) (I : Inv X pins σ H s) (r : Vals vs us)
    (h : ∀ x dx, H x = Option.none → H dx = Option.none → dx ≠ x → sp (V.ref x :: vs) (upd (upd H dx (.own x)) x (.ins C dx [])) (fun v H2 => v = .non ∧ Q (.ref x) H2) fun cls d H' => W cls d σ H') :
    wpAny (model X.prog X.w) X.A (call (.ref C) us) (EP X pins σ Q) X.xe s := by
  have hq := h (s.heap.objs.size + 1) s.heap.objs.size (I.hok.fresh (Nat.le_succ _)) (I.hok.fresh (Nat.le_refl _)) (Nat.ne_of_lt (Nat.lt_succ_self _))
  have I2 := Inv.made (C := C) I
  have r2 : Vals (V.ref (s.heap.objs.size + 1) :: vs) (Value.ref (s.heap.objs.size + 1) :: us) := .cons rfl r
  refine wpAny_call (make_map (f := f) I.kIn M.makes M.init (beq_iff_eq.mp M.fn) (codeAny_mono (F _ X.stack _ _ (Value.ref (s.heap.objs.size + 1) :: us) _ _ _ (hr.make C us []) (I2.env0.make C us []) r2 hq) fun r s' hq' => ?_))
  cases r with
  | error e => exact tk e s' (XE.of_call I2 (fun _ _ _ z => z) hq')
  | ok fl =>
    cases fl with
    | ret u =>
      obtain ⟨v, H', I3, rv, ev, q3⟩ := I2.after hq'
      subst ev
      exact ⟨rv, ⟨V.ref (s.heap.objs.size + 1), H', I3, rfl, q3⟩⟩
    | next => exact False.elim hq'
    | brk => exact False.elim hq'
    | cont => exact False.elim hq'
theorem pe_makeW {X : Cx} {k : Nat} {f C : Addr} {sp : Sp} {W : WX} {x : Str} {e : Expr} {es : List Expr} {t : TA} {p pos : Pos} (M : Mk X.K C f) (F : FnR X.prog X.w X.K X.mg X.base (CX X.prog X.w) k f sp) (hr : Room (k + 1) X.A) (hg : Gl X x) (hm : X.mg x = some (.ref C)) (tk : Takes X W) (ha : PA X (e :: es) t) (hdb : (x == ("__debug__" : Str)) = false := by decide)
    (he : starEach (e :: es) X.env = (false, eval e X.env) :: starEach es X.env := by rfl) (hpl : (backTo pos (starEach es X.env)).any (·.1) = false := by rfl) : PE X (.Call (.Name x p) (e :: es) [] pos) (tMakeW C sp W t) := by
  refine ⟨fun pins s σ H Q I h => ?_⟩
  refine wpAny_Call_Name_kw (ld_glob I hg hm ?_ hdb)
  refine PySem.W.callWith_K (h₀ := X.base) I.ok.mod.kin M.kp (thn (ha.run pos pins s σ H _ I h) fun us s1 ⟨vs, H1, I1, r, q⟩ => ⟨I1.kIn, ?_⟩) he hpl
  exact run_makeW M F hr tk I1 r q
/-! ### methods over slots -/
/-- a receiver that is kept -/
def xMethV (C m : Str) (n : Nat) (S : FS) (fx : FX) (fa : FA) : FX := fun env q w => xD fx env w fun d env1 => ∃ fs, d = .obj C fs ∧ (fs.find? fun kv => decide (kv.1 = m)) = none ∧ fa env1 (fun as env2 => ndA as = true ∧ ∃ ss, slots env2 as = some ss ∧ ss.length + 1 = n ∧ S (.fz d :: ss) (fun r ss' => q r (back env2 (.v d :: as) ss')) (fun c fs ss' => w c fs (back env2 (.v d :: as) ss'))) w
/-- a receiver that is owned, in slot i -/
def xMethB (C m : Str) (n : Nat) (S : FS) (i : Nat) (fa : FA) : FX := fun env q w => ∃ a dx fs, env[i]? = some (some (.ow (.obj a dx C fs))) ∧ (fs.find? fun kv => decide (kv.1 = m)) = none ∧ fa env (fun as env2 => ndA (.b i :: as) = true ∧ ∃ ss, slots env2 (.b i :: as) = some ss ∧ ss.length = n ∧ S ss (fun r ss' => q r (back env2 (.b i :: as) ss')) (fun c fs ss' => w c fs (back env2 (.b i :: as) ss'))) w
theorem rpFs_none {K : PySem.W.Frag} {H : Hp} {f : Str} : ∀ {vs : List (Str × V)} {ds : List (Str × D)}, RpFs K H vs ds → (ds.find? fun kv => decide (kv.1 = f)) = none → vs.lookup f = none
  | _, _, .nil, _ => rfl
  | (k', v) :: vs, (_, d') :: ds, .cons a t, h => by
    rw [lookup_find]
    rw [List.find?_cons] at h ⊢
    by_cases hk : k' = f
    · subst hk
      simp at h
    · simp only [hk, decide_false] at h ⊢
      have z := rpFs_none (f := f) t h
      rw [lookup_find] at z
      exact z
theorem owFs_none {K : PySem.W.Frag} {F : Hp} {f : Str} : ∀ {vs : List (Str × V)} {ds : List (Str × N)} {S : Cells}, OwFs K F vs ds S → (ds.find? fun kv => decide (kv.1 = f)) = none → vs.lookup f = none
  | _, _, _, .nil, _ => rfl
  | (k', v) :: vs, (_, d') :: ds, _, .cons a t, h => by
    rw [lookup_find]
    rw [List.find?_cons] at h ⊢
    by_cases hk : k' = f
    · subst hk
      simp at h
    · simp only [hk, decide_false] at h ⊢
      have z := owFs_none (f := f) t h
      rw [lookup_find] at z
      exact z
section
variable {X : Cx} {K : PySem.W.Frag} {W : WX} {fx : FX} {fa : FA} {C m : Str} {n i : Nat} {S : FS} {call : Expr}
theorem px_methV (h : PE X call (tMethW (He.ga K C) m (spP K n S) W (LX K W fx) (LAX K W fa))) : PX X K W call (xMethV C m n S fx fa) := fun hK => pe_imp h fun σ H Q ⟨env, F, M, M0, q, w, rp, o, hx, k, kw⟩ =>
  lx_d rp o hx kw fun d env1 v F1 M1 H1 ⟨fs, hd, hnm, hfa⟩ s1 r1 rp1 o1 => by
    subst hd
    have r1' := r1
    cases r1 with
    | obj ho rf =>
      refine ⟨_, _, _, rfl, o1.fr _ _ ho, rpFs_none rf hnm, ?_⟩
      refine ⟨env1, F1, M1, M0, _, w, rp1, o1, hfa, fun as env2 vs F2 M2 H2 ⟨nd, ss, hss, hn, hS⟩ s2 ar rp2 o2 => ?_, kw.up s1⟩
      exact call_core (as := .v (.obj C fs) :: as) (ss := .fz (.obj C fs) :: ss) (w' := w) (q := q) k (s1.trans s2) (.v (r1'.mono s2) ar) rp2 o2 nd (by show (slots env2 as).map _ = _; rw [hss]; rfl) hn hS fun c fs env' cls d F' M' H' a b c' d' e' => kw c fs env' cls d σ F' M' H' a b c' d' e'
theorem px_methB (h : PE X call (tMethW (He.ga K C) m (spP K n S) W (tVar i) (LAX K W fa))) : PX X K W call (xMethB C m n S i fa) := fun hK => pe_imp h fun σ H Q ⟨env, F, M, M0, q, w, rp, o, ⟨a, dx, fs, hs, hnm, hfa⟩, k, kw⟩ => by
  obtain ⟨v, A, S0, B, hv, sl, rfl, _⟩ := rp.at hs
  cases sl with
  | obj sl =>
    refine ⟨_, hv, _, _, _, rfl, o.mu _ (List.mem_append_left _ (List.mem_append_right _ (List.mem_append_left _ List.mem_cons_self))), owFs_none sl hnm, ?_⟩
    refine ⟨env, F, _, M0, _, w, rp, o, hfa, fun as env2 vs F2 M2 H2 ⟨nd, ss, hss, hn, hS⟩ s2 ar rp2 o2 => ?_, kw⟩
    exact call_core (as := .b i :: as) (w' := w) (q := q) k s2 (.b hv ar) rp2 o2 nd hss hn hS fun c fs env' cls d F' M' H' a b c' d' e' => kw c fs env' cls d σ F' M' H' a b c' d' e'
/-! ### new objects -/
def xMake (C : Str) (n : Nat) (S : FS) (fa : FA) : FX := fun env q w => fa env (fun as env1 => ndA as = true ∧ ∃ ss, slots env1 as = some ss ∧ ss.length + 1 = n ∧ ∀ a dx, S (.ow (.obj a dx C []) :: ss) (fun r ss' => ∃ n' ss2, r = .fz .non ∧ ss' = .ow n' :: ss2 ∧ n'.ad = some a ∧ q (.ow n') (back env1 as ss2)) (fun c fs ss' => ∃ s0 ss2, ss' = s0 :: ss2 ∧ w c fs (back env1 as ss2))) w
theorem px_make (h : PE X call (tMakeW (He.ga K C) (spP K n S) W (LAX K W fa))) : PX X K W call (xMake C n S fa) := fun hK => pe_imp h fun σ H Q ⟨env, F, M, M0, q, w, rp, o, hx, k, kw⟩ =>
  ⟨env, F, M, M0, _, w, rp, o, hx, fun as env1 vs F1 M1 H1 ⟨nd, ss, hss, hn, hS⟩ s1 ar rp1 o1 x dx nx ndx ne => by
    obtain ⟨Ms, R, h1, h2, h3⟩ := call_split ar rp1 hss nd
    have ox : Own F1 ((x, .ins (He.ga K C) dx []) :: (M1 ++ M0)) (upd (upd H1 dx (.own x)) x (.ins (He.ga K C) dx [])) := by
      refine Own.newM (o1.lose ndx) ?_
      rw [upd_ne (Ne.symm ne)]
      exact nx
    have o2 : Own F1 (((x, .ins (He.ga K C) dx []) :: Ms) ++ (R ++ M0)) (upd (upd H1 dx (.own x)) x (.ins (He.ga K C) dx [])) := by
      refine ox.perm ?_
      exact perm_by fun c => (by have := by_perm h2 c; simp only [List.count_append, List.count_cons, List.cons_append] at this ⊢; omega)
    refine ⟨.ow (.obj x dx C []) :: ss, F1, _, R ++ M0, _, _, hn, SlAll.cons (S := [(x, .ins (He.ga K C) dx [])]) (Ow.obj .nil) h1, o2, hS x dx, fun r ss' v S' F' Ms' H' ⟨n', ss2, hr, hss', had, hq⟩ s' sr sa o' => ?_, fun c fs ss' cls d F' Ms' H' ⟨s0, ss2, hss', hw⟩ s' xr sa o' => ?_⟩
    · subst hr hss'
      obtain ⟨rfl, sr⟩ := sr
      cases sr
      cases sa with
      | cons a1 a2 =>
        rename_i S1 Ms2
        have hv := Ow.ad a1 had
        obtain ⟨M2, T, p2, r2⟩ := h3 F' ss2 _ s' a2
        refine ⟨rfl, k _ _ (.ref x) S1 F' M2 H' hq (s1.trans s') a1 r2 ?_⟩
        have pp : ([] ++ ((S1 ++ Ms2) ++ (R ++ M0))).Perm (T ++ (S1 ++ (M2 ++ M0))) := perm_by fun c => (by have := by_perm p2 c; simp only [List.count_append, List.nil_append] at this ⊢; omega)
        exact (o'.perm pp).sub (List.sublist_append_right T _)
    · subst hss'
      cases sa with
      | cons a1 a2 =>
        rename_i S1 Ms2
        obtain ⟨M2, T, p2, r2⟩ := h3 F' ss2 _ s' a2
        refine kw c fs _ cls d σ F' M2 H' hw (s1.trans s') xr r2 ?_
        have pp : ((S1 ++ Ms2) ++ (R ++ M0)).Perm ((S1 ++ T) ++ (M2 ++ M0)) := perm_by fun c => (by have := by_perm p2 c; simp only [List.count_append] at this ⊢; omega)
        exact (o'.perm pp).sub (List.sublist_append_right _ _), kw⟩
end
/-- a promise of a def that raises nothing serves where it might -/
theorem FnR.x0 {P : Program} {w : World} {K : PySem.W.Frag} {mg : Str → Option Value} {base : Heap} {k : Nat} {f : Addr} {n : Nat} {S : FS} (h : FnR P w K mg base CX0 k f (spP K n S)) : True := trivial
end Pu

/-! ## Pu: == and != of dicts of data -/
namespace Pu
open PySem PySem.Spec PyProof.Rows L2 Ed
inductive HitsD (K : PySem.W.Frag) (H : Hp) (ls : List (Key × V)) : List (Key × V) → Bool → Prop
  | nil : HitsD K H ls [] true
  | miss {k : Key} {v : V} {r : List (Key × V)} : valV ls k = none → HitsD K H ls ((k, v) :: r) false
  | hit {k : Key} {v u : V} {r : List (Key × V)} {p q : PyData} {b : Bool} : valV ls k = some u → Dp K H v p → Dp K H u q → SeqAt.shaped p = true → SeqAt.shaped q = true → HitsD K H ls r b → HitsD K H ls ((k, v) :: r) (PyData.eqv p q && b)
theorem hits_keq {X : Cx} {pins : List (Addr × Obj)} {σ : L2.St} {H : Hp} {s : Shared} (I : Inv X pins σ H s) {A : Around} (hu : A.in1.units + 64 < cLine) {ls : List (Key × V)} {vb : List (Key × Value)} (rb : KV ls vb) {ks : List (Key × V)} {va : List (Key × Value)}
    (ra : KV ks va) : ∀ {b : Bool}, HitsD X.K H ls ks b → PySem.W.KeqHits A.in1 s vb va b := by
  unfold KV at ra
  induction ra with
  | nil =>
    intro b h
    cases h
    exact .nil
  | @cons p q ps qs h t k =>
    intro b hb
    obtain ⟨h1, h2⟩ := h
    obtain ⟨key, v⟩ := q
    have h1' : p.1 = key := h1
    obtain ⟨pk, pv⟩ := p
    cases hb with
    | miss hm =>
      refine .miss ?_
      have rr : RelO none (valueAt vb pk) := by rw [← hm]; exact rb.val pk
      have h1'' : pk = key := h1'
      rw [h1''] at rr
      cases e : valueAt vb key with
      | none => rfl
      | some y =>
        rw [e] at rr
        cases rr
    | hit hm d1 d2 s1 s2 hr =>
      rename_i u p1 q1 b1
      have rr : RelO (some u) (valueAt vb pk) := by rw [← hm]; exact rb.val pk
      obtain ⟨y, hy, ry⟩ := rr.some_of
      have h1'' : pk = key := h1'
      rw [h1''] at hy
      obtain ⟨as, r1⟩ := Dp.reads I _ _ _ d1 h2
      obtain ⟨bs, r2⟩ := Dp.reads I _ _ _ d2 ry
      exact .hit hy (PySem.W.keq_at r1 r2 s1 s2 hu) (k hr)
def rEqDD (K : PySem.W.Frag) : R2 := fun x y H Q => ∃ a b ks ls r, x = .ref a ∧ y = .ref b ∧ H a = some (.dK ks) ∧ H b = some (.dK ls) ∧ HitsD K H ls ks r ∧ Q (.bl (ks.length == ls.length && r)) H
def rNeDD (K : PySem.W.Frag) : R2 := fun x y H Q => ∃ a b ks ls r, x = .ref a ∧ y = .ref b ∧ H a = some (.dK ks) ∧ H b = some (.dK ls) ∧ HitsD K H ls ks r ∧ Q (.bl (!(ks.length == ls.length && r))) H
section
variable {X : Cx}
theorem op_eqDD (hu : X.A.units + 66 < cLine) : OpR X (compareOp .Eq) (rEqDD X.K) := by
  intro pins s σ H x y v u Q I rx ry h
  obtain ⟨a, b, ks, ls, r, rfl, rfl, ea, eb, hh, q⟩ := h
  obtain rfl : v = Value.ref a := rx
  obtain rfl : u = Value.ref b := ry
  obtain ⟨_, ya, va, ra, da⟩ := (show ObjOk X.prog X.w H s.heap a (.dK ks) from I.hok a _ ea)
  obtain ⟨_, yb, vb, rb, db⟩ := (show ObjOk X.prog X.w H s.heap b (.dK ls) from I.hok b _ eb)
  refine PySem.W.keq_eq (knd := mixKind X.prog X.w) ya yb da db (by omega) (fun _ => hits_keq I (by show X.A.units + 1 + 64 < _; omega) rb ra hh) ?_
  rw [← ra.length, ← rb.length]
  exact ⟨.bl _, H, I, rfl, q⟩
theorem op_neDD (hu : X.A.units + 66 < cLine) : OpR X (compareOp .NotEq) (rNeDD X.K) := by
  intro pins s σ H x y v u Q I rx ry h
  obtain ⟨a, b, ks, ls, r, rfl, rfl, ea, eb, hh, q⟩ := h
  obtain rfl : v = Value.ref a := rx
  obtain rfl : u = Value.ref b := ry
  obtain ⟨_, ya, va, ra, da⟩ := (show ObjOk X.prog X.w H s.heap a (.dK ks) from I.hok a _ ea)
  obtain ⟨_, yb, vb, rb, db⟩ := (show ObjOk X.prog X.w H s.heap b (.dK ls) from I.hok b _ eb)
  refine PySem.W.keq_ne (knd := mixKind X.prog X.w) ya yb da db (by omega) (fun _ => hits_keq I (by show X.A.units + 1 + 64 < _; omega) rb ra hh) ?_
  rw [← ra.length, ← rb.length]
  exact ⟨.bl _, H, I, rfl, q⟩
end
def hitsB (ls : List (Key × D)) : List (Key × D) → Option Bool
  | [] => some true
  | (k, d) :: r => match dfind ls k with
    | none => some false
    | some e => match toP d, toP e, hitsB ls r with
      | some p, some q, some b => if SeqAt.shaped p = true ∧ SeqAt.shaped q = true then some (PyData.eqv p q && b) else none
      | _, _, _ => none
def eqdB : D → D → Option Bool
  | .dic ks, .dic ls => (hitsB ls ks).map fun r => ks.length == ls.length && r
  | _, _ => none
def eqdD : D → D → Option D := fun x y => (eqdB x y).map D.bl
def nedD : D → D → Option D := fun x y => (eqdB x y).map fun b => .bl (!b)
theorem rpDic_len {K : PySem.W.Frag} {H : Hp} : ∀ {vs : List (Key × V)} {ds : List (Key × D)}, RpDic K H vs ds → vs.length = ds.length
  | _, _, .nil => rfl
  | _, _, .cons _ t => by rw [List.length_cons, List.length_cons, rpDic_len t]
theorem hitsB_inv {K : PySem.W.Frag} {H : Hp} {vl : List (Key × V)} {ls : List (Key × D)} (rl : RpDic K H vl ls) : ∀ {vk : List (Key × V)} {ks : List (Key × D)} {b : Bool}, RpDic K H vk ks → hitsB ls ks = some b → HitsD K H vl vk b
  | _, _, _, .nil, h => by
    cases h
    exact .nil
  | _, (k, d) :: ks, b, .cons a t, h => by
    unfold hitsB at h
    rcases rpDic_find (k := k) rl with ⟨e1, e2⟩ | ⟨v, d', e1, e2, rv⟩
    · rw [e2] at h
      cases h
      exact .miss e1
    · rw [e2] at h
      dsimp only at h
      split at h
      · rename_i p q b' q1 q2 q3
        split at h
        · rename_i c
          cases h
          exact .hit e1 (rp_dp a q1) (rp_dp rv q2) c.1 c.2 (hitsB_inv rl t q3)
        · cases h
      · cases h
theorem eqdB_inv {K : PySem.W.Frag} {H : Hp} {v1 v2 : V} {d1 d2 : D} {b : Bool} (r1 : Rp K H v1 d1) (r2 : Rp K H v2 d2) (h : eqdB d1 d2 = some b) : ∃ a c ks ls r, v1 = .ref a ∧ v2 = .ref c ∧ H a = some (.dK ks) ∧ H c = some (.dK ls) ∧ HitsD K H ls ks r ∧ b = (ks.length == ls.length && r) := by
  unfold eqdB at h
  split at h
  · rename_i ks ls
    cases r1 with
    | dic h1 a1 =>
      cases r2 with
      | dic h2 a2 =>
        cases q : hitsB ls ks with
        | none =>
          rw [q] at h
          cases h
        | some r =>
          rw [q] at h
          cases h
          exact ⟨_, _, _, _, r, rfl, rfl, h1, h2, hitsB_inv a2 a1 q, by rw [rpDic_len a1, rpDic_len a2]⟩
  · cases h
theorem s2_eqd {K : PySem.W.Frag} : S2 K (rEqDD K) (fOp eqdD) := s2_flat fun H v1 v2 d1 d2 d Q r1 r2 e => by
  unfold eqdD at e
  cases q : eqdB d1 d2 with
  | none =>
    rw [q] at e
    cases e
  | some b =>
    rw [q] at e
    cases e
    refine ⟨rfl, fun k => ?_⟩
    obtain ⟨a, c, ks, ls, r, h1, h2, h3, h4, h5, rfl⟩ := eqdB_inv r1 r2 q
    exact ⟨a, c, ks, ls, r, h1, h2, h3, h4, h5, k⟩
theorem s2_ned {K : PySem.W.Frag} : S2 K (rNeDD K) (fOp nedD) := s2_flat fun H v1 v2 d1 d2 d Q r1 r2 e => by
  unfold nedD at e
  cases q : eqdB d1 d2 with
  | none =>
    rw [q] at e
    cases e
  | some b =>
    rw [q] at e
    cases e
    refine ⟨rfl, fun k => ?_⟩
    obtain ⟨a, c, ks, ls, r, h1, h2, h3, h4, h5, rfl⟩ := eqdB_inv r1 r2 q
    exact ⟨a, c, ks, ls, r, h1, h2, h3, h4, h5, k⟩
section
variable {X : Cx} {K : PySem.W.Frag} {a b : Expr} {ga gb : G} {pos : Pos} {W : WX} {fa fb : FX}
theorem pd_eqd (hu : X.A.units + 66 < cLine) (ha : PD X K a ga) (hb : PD X K b gb) : PD X K (.Compare a [.Eq] [b] pos) (gOp (fOp eqdD) ga gb) := fun hK => by
  subst hK
  exact pd_cmp (op_eqDD hu) s2_eqd ha hb (nobehind _ (by decide) (by decide)) rfl
theorem pd_ned (hu : X.A.units + 66 < cLine) (ha : PD X K a ga) (hb : PD X K b gb) : PD X K (.Compare a [.NotEq] [b] pos) (gOp (fOp nedD) ga gb) := fun hK => by
  subst hK
  exact pd_cmp (op_neDD hu) s2_ned ha hb (nobehind _ (by decide) (by decide)) rfl
theorem pb_eqd (hu : X.A.units + 66 < cLine) (ha : PD X K a ga) (hb : PD X K b gb) : PB X K (.Compare a [.Eq] [b] pos) (bV (gOp (fOp eqdD) ga gb)) := fun hK => by
  subst hK
  exact pb_cmp (op_eqDD hu) s2_eqd ha hb (nobehind _ (by decide) (by decide)) rfl
theorem pb_ned (hu : X.A.units + 66 < cLine) (ha : PD X K a ga) (hb : PD X K b gb) : PB X K (.Compare a [.NotEq] [b] pos) (bV (gOp (fOp nedD) ga gb)) := fun hK => by
  subst hK
  exact pb_cmp (op_neDD hu) s2_ned ha hb (nobehind _ (by decide) (by decide)) rfl
theorem px_eqd (hu : X.A.units + 66 < cLine) (ha : PX X K W a fa) (hb : PX X K W b fb) : PX X K W (.Compare a [.Eq] [b] pos) (xOp (fOp eqdD) fa fb) := fun hK => by
  subst hK
  exact px_cmp (op_eqDD hu) s2_eqd ha hb (nobehind _ (by decide) (by decide)) rfl
theorem px_ned (hu : X.A.units + 66 < cLine) (ha : PX X K W a fa) (hb : PX X K W b fb) : PX X K W (.Compare a [.NotEq] [b] pos) (xOp (fOp nedD) fa fb) := fun hK => by
  subst hK
  exact px_cmp (op_neDD hu) s2_ned ha hb (nobehind _ (by decide) (by decide)) rfl
theorem pxt_eqd (hu : X.A.units + 66 < cLine) (ha : PX X K W a fa) (hb : PX X K W b fb) : PXT X K W (.Compare a [.Eq] [b] pos) (tXb (xOp (fOp eqdD) fa fb)) := fun hK => by
  subst hK
  exact pxt_op (op_eqDD hu) s2_eqd ha hb (nobehind _ (by decide) (by decide)) rfl
theorem pxt_ned (hu : X.A.units + 66 < cLine) (ha : PX X K W a fa) (hb : PX X K W b fb) : PXT X K W (.Compare a [.NotEq] [b] pos) (tXb (xOp (fOp nedD) fa fb)) := fun hK => by
  subst hK
  exact pxt_op (op_neDD hu) s2_ned ha hb (nobehind _ (by decide) (by decide)) rfl
end
theorem spP_no {K : PySem.W.Frag} {n : Nat} {C : FS} {vs : List V} {H : Hp} {Q : VK} {E : XK} (h : ∀ ss q w, C ss q w → False) : ¬ spP K n C vs H Q E := fun ⟨ss, _, _, _, q, w, _, _, _, hC, _⟩ => h ss q w hC
end Pu

/-! ## Pu: names as data -/
namespace Pu
open PySem PySem.Spec PyProof.Rows L2 Ed
theorem units66 {k : Nat} {A : Around} (r : Room k A) : A.units + 66 < cLine := by have := r.un; omega
/-- names as data -/
def dN (l : Names) : D := .lst (l.map D.str)
/-- a dict as a table of bases -/
structure TabD (kvs : List (Key × D)) (B : Str → Names) (dom : Names) : Prop where
  ex : ∀ x ∈ dom, dfind kvs (.inr x) = some (dN (B x))
  sm : dom.length ≤ 30
  few : ∀ x ∈ dom, (B x).length ≤ 10
abbrev RW := Str × Names
def numS (c : Str) (i : Nat) : Str := c ++ Str.ofString (toString (i : Int))
theorem num_inj : ∀ i : Fin 20, ∀ j : Fin 20, Str.ofString (toString ((i : Nat) : Int)) = Str.ofString (toString ((j : Nat) : Int)) → i = j := by decide +kernel
theorem app_inj {c d u v : Str} (hl : c.length = d.length) (h : c ++ u = d ++ v) : u = v := by
  have e : c.cps.toList ++ u.cps.toList = d.cps.toList ++ v.cps.toList := by
    rw [← Array.toList_append, ← Array.toList_append]
    exact congrArg (fun z : Str => z.cps.toList) h
  have hl' : c.cps.toList.length = d.cps.toList.length := hl
  have e2 := List.append_inj_right e hl'
  cases u
  cases v
  congr 1
  exact Array.toList_inj.mp e2
theorem numS_inj {c d : Str} {i j : Nat} (hc : c.length = d.length) (hi : i < 20) (hj : j < 20) (h : numS c i = numS d j) : i = j := by
  have e := num_inj ⟨i, hi⟩ ⟨j, hj⟩ (app_inj hc h)
  exact congrArg Fin.val e
theorem num_ok : ∀ i : Fin 20, PyData.strOk (Str.ofString (toString ((i : Nat) : Int))) = true := by decide +kernel
theorem num_len : ∀ i : Fin 20, (Str.ofString (toString ((i : Nat) : Int))).length ≤ 2 := by decide +kernel
def namesOf (rs : List RW) : Names := rs.map Prod.fst
def basesOf (rs : List RW) (x : Str) : Names := match rs.find? (fun r => decide (r.1 = x)) with
  | some r => r.2
  | none => []
def rankOf (rs : List RW) (x : Str) : Nat := rs.findIdx (fun r => decide (r.1 = x))
theorem log_small {i : Nat} (h : i < 20) : ((0 : Int) + (i : Int)).natAbs.log2 < 1920 := by
  rw [Int.zero_add, Int.natAbs_natCast]
  by_cases hz : i = 0
  · rw [hz]
    decide
  · exact (Nat.log2_lt hz).mpr (Nat.lt_of_lt_of_le (show i < 2 ^ 5 by omega) (by decide))
theorem erase_perm {α : Type} : ∀ {l : List α} {i : Nat} (h : i < l.length), (l[i] :: l.eraseIdx i).Perm l
  | a :: r, 0, _ => .refl _
  | a :: r, i + 1, h => by
    have hi : i < r.length := Nat.lt_of_succ_lt_succ h
    exact (List.Perm.swap a r[i] (r.eraseIdx i)).trans ((erase_perm hi).cons a)
theorem putD_new {kvs : List (Key × D)} {k : Key} {d : D} (h : ∀ kv ∈ kvs, kv.1 ≠ k) : putD kvs k d = kvs ++ [(k, d)] := by
  unfold putD
  rw [if_neg]
  intro z
  obtain ⟨kv, h1, h2⟩ := List.any_eq_true.mp z
  exact h kv h1 (of_decide_eq_true h2)
def dRw (r : RW) : D := .tup [.str r.1, dN r.2]
theorem neD_nil {l : Names} (h : ∀ x ∈ l, PyData.strOk x = true) : neD (dN l) (.lst []) = some (.bl (!l.isEmpty)) := by
  unfold neD
  rw [eqB_deep (p := .list (l.map .str)) (q := .list []) (by unfold dN toP; rw [toPs_str]; rfl) rfl ((shp_strs h).shaped) (by rfl) rfl]
  cases l <;> rfl
theorem dfind_put {kvs : List (Key × D)} {k j : Key} {d : D} : dfind (putD kvs j d) k = if k = j then some d else dfind kvs k := by
  have rep : ∀ (l : List (Key × D)), dfind (l.map fun kv => if kv.1 = j then (kv.1, d) else kv) k = if k = j then (if (l.any fun kv => decide (kv.1 = j)) = true then some d else none) else dfind l k := by
    intro l
    induction l with
    | nil => by_cases e : k = j <;> simp [dfind, e]
    | cons p r ih =>
      unfold dfind at ih ⊢
      rw [List.map_cons, List.find?_cons, List.find?_cons, List.any_cons]
      by_cases h1 : p.1 = j
      · rw [if_pos h1]
        by_cases h2 : k = j
        · subst h2
          simp [h1]
        · have : p.1 ≠ k := fun z => h2 (z.symm.trans h1)
          simp only [this, decide_false]
          rw [if_neg h2] at ih ⊢
          exact ih
      · rw [if_neg h1]
        by_cases h2 : p.1 = k
        · have h3 : ¬ k = j := fun z => h1 (h2.trans z)
          simp [h2, h3]
        · simp only [h2, decide_false, h1, Bool.false_or]
          exact ih
  have app : ∀ (l : List (Key × D)), dfind (l ++ [(j, d)]) k = (dfind l k).or (if j = k then some d else none) := by
    intro l
    unfold dfind
    rw [List.find?_append]
    cases l.find? (fun kv => decide (kv.1 = k)) with
    | some p => rfl
    | none =>
      rw [Option.none_or, Option.map_none, Option.none_or, List.find?_cons]
      by_cases e : j = k <;> simp [e]
  unfold putD
  split
  · rename_i h
    rw [rep, if_pos h]
  · rename_i h
    rw [app]
    by_cases e : k = j
    · subst e
      have hn : dfind kvs k = none := by
        unfold dfind
        rw [List.find?_eq_none.mpr fun kv hkv z => h (List.any_eq_true.mpr ⟨kv, hkv, z⟩)]
        rfl
      rw [hn]
      simp
    · rw [if_neg e, if_neg (Ne.symm e)]
      cases dfind kvs k <;> rfl
theorem merge_find {v : D} {k : Key} : ∀ {kvs acc : List (Key × D)}, ((∃ u, (k, u) ∈ kvs) ∨ dfind acc k = some v) → (∀ u, (k, u) ∈ kvs → u = v) → dfind (mergeD acc kvs) k = some v
  | [], acc, h, _ => by
    rcases h with ⟨u, h⟩ | h
    · cases h
    · exact h
  | (j, y) :: r, acc, h, hp => by
    show dfind (mergeD (putD acc j y) r) k = some v
    refine merge_find ?_ fun u hu => hp u (List.mem_cons_of_mem _ hu)
    by_cases e : k = j
    · refine .inr ?_
      rw [dfind_put, if_pos e, hp y (by rw [e]; exact List.mem_cons_self)]
    · rcases h with ⟨u, h⟩ | h
      · rcases List.mem_cons.mp h with h | h
        · cases h
          exact absurd rfl e
        · exact .inl ⟨u, h⟩
      · refine .inr ?_
        rw [dfind_put, if_neg e]
        exact h
def kvR (r : RW) : Key × D := (.inr r.1, dN r.2)
theorem prs_rows : ∀ (rs : List RW), prs (rs.map dRw) = some (rs.map kvR)
  | [] => rfl
  | r :: rs => by
    show (match keyD (.str r.1), prs (rs.map dRw) with
      | some k, some q => some ((k, dN r.2) :: q)
      | _, _ => none) = _
    rw [prs_rows rs]
    rfl
theorem lf_dict {n : N} {rs : List RW} (h : kidsL n = some (rs.map dRw)) : gdict [n] = some (.f (.dic (mergeD [] (rs.map kvR)))) := by
  unfold gdict
  dsimp only
  rw [h]
  dsimp only
  rw [prs_rows]
  rfl
theorem tab_rows {rs : List RW} {B : Str → Names} {dom : Names} (hd : ∀ x ∈ dom, ∃ r ∈ rs, r.1 = x) (hB : ∀ r ∈ rs, r.1 ∈ dom → B r.1 = r.2) (sm : dom.length ≤ 30) (few : ∀ x ∈ dom, (B x).length ≤ 10) : TabD (mergeD [] (rs.map kvR)) B dom := by
  refine ⟨fun x hx => ?_, sm, few⟩
  obtain ⟨r, hr, rfl⟩ := hd x hx
  refine merge_find (.inl ⟨dN r.2, List.mem_map.mpr ⟨r, hr, rfl⟩⟩) fun u hu => ?_
  obtain ⟨q, hq, e⟩ := List.mem_map.mp hu
  have e1 : q.1 = r.1 := Sum.inr.inj (congrArg Prod.fst e)
  have e2 : dN q.2 = u := congrArg Prod.snd e
  rw [← e2, ← e1, hB q hq (by rw [e1]; exact hx)]
theorem eqv_strs : ∀ l : Names, PyData.eqvAll (l.map .str) (l.map .str) = true
  | [] => rfl
  | x :: l => by
    rw [List.map_cons, PyData.eqvAll, eqv_strs l, PyData.eqv]
    simp
theorem neD_same {b : Bool} {l : Names} (h : ∀ x ∈ l, PyData.strOk x = true) : neD (.tup [.bl b, dN l]) (.tup [.bl b, dN l]) = some (.bl false) := by
  have t : toP (.tup [.bl b, dN l]) = some (.tuple [.bool b, .list (l.map .str)]) := by
    unfold dN
    simp only [toP, toPs, toPs_str, Option.map_some]
  have s : SeqAt.shaped (.tuple [.bool b, .list (l.map .str)]) = true := (shp_tuple (n := 1) fun d hd => by
    rcases List.mem_cons.mp hd with rfl | hd
    · exact shp_bool _ _
    · rw [List.mem_singleton.mp hd]
      exact shp_strs h).shaped
  unfold neD
  rw [eqB_deep t t s s rfl]
  have e : PyData.eqv (.tuple [.bool b, .list (l.map .str)]) (.tuple [.bool b, .list (l.map .str)]) = true := by
    rw [PyData.eqv, PyData.eqvAll, PyData.eqvAll, PyData.eqvAll, PyData.eqv, PyData.eqv, eqv_strs]
    simp
  rw [e]
  rfl
theorem giR_some {g : G} {env : Env} {n : Int} (h : g env = some (.f (.int n))) (h1 : n < 2 ^ 62) (h2 : -(2 ^ 62) ≤ n) : giR g env = some (rng 0 n.toNat) := by
  unfold giR
  rw [h]
  dsimp only
  rw [if_pos ⟨h1, h2⟩]
theorem nfind_f (x : Key) : ∀ (l : List (Key × D)), nfind (l.map fun kv : Key × D => (kv.1, N.f kv.2)) x = (dfind l x).map N.f := by
  intro l
  unfold nfind dfind
  rw [List.find?_map]
  rw [show ((fun kv : Key × N => decide (kv.1 = x)) ∘ fun kv : Key × D => (kv.1, N.f kv.2)) = fun kv : Key × D => decide (kv.1 = x) from rfl]
  cases l.find? (fun kv : Key × D => decide (kv.1 = x)) <;> rfl
theorem lf_dget {a : Addr} {kvs : List (Key × D)} {x : Str} {d : D} (h : dfind kvs (.inr x) = some d) : dgetD (od a kvs) (.f (.str x)) = some (.f d) := by
  show nfind (kvs.map fun kv : Key × D => (kv.1, N.f kv.2)) (.inr x) = _
  rw [nfind_f, h]
  rfl
theorem lf_dgetF {kvs : List (Key × D)} {x : Str} {d : D} (h : dfind kvs (.inr x) = some d) : dgetD (.f (.dic kvs)) (.f (.str x)) = some (.f d) := by
  show (dfind kvs (.inr x)).map N.f = _
  rw [h]
  rfl
theorem lf_dnin {a : Addr} {kvs : List (Key × D)} {x : Str} : fOp dninD (.f (.str x)) (od a kvs) = some (.f (.bl (!(dfind kvs (.inr x)).isSome))) := by
  unfold fOp
  rw [od_toD]
  rfl
theorem lf_din {a : Addr} {kvs : List (Key × D)} {x : Str} : fOp dinD (.f (.str x)) (od a kvs) = some (.f (.bl (dfind kvs (.inr x)).isSome)) := by
  unfold fOp
  rw [od_toD]
  rfl
theorem mem_cutL {α : Type} {xs : List α} {lo hi : Option Int} {x : α} (h : x ∈ cutL xs lo hi) : x ∈ xs := by
  unfold cutL at h
  exact List.mem_of_mem_drop (List.mem_of_mem_take h)
theorem ev_sl {ga : G} {gl gh : GO} {env : Env} {n : N} {l h : Option Int} {ds : List D} (h1 : ga env = some n) (h2 : gl env = some l) (h3 : gh env = some h) (hk : kidsL n = some ds) : gSl slL ga gl gh env = some (.f (.lst (cutL ds l h))) := by
  unfold gSl
  rw [h1, h2, h3]
  dsimp only
  unfold slL
  rw [hk]
  rfl
theorem ev_goS {g : G} {env : Env} {i : Int} (h : g env = some (.f (.int i))) : goS g env = some (some i) := by
  unfold goS
  rw [h]
theorem strI_some {i : Nat} (hi : i < 20) : fA1 strD [.f (.int (0 + (i : Int)))] = some (.f (.str (Str.ofString (toString (i : Int))))) := by
  rw [lf_strI (log_small hi), Int.zero_add]
theorem eqv_str (a b : Str) : PyData.eqv (.str a) (.str b) = decide (a = b) := by
  rw [PyData.eqv]
  by_cases h : a = b <;> simp [h]
theorem eqv_strs2 : ∀ l m : Names, PyData.eqvAll (l.map .str) (m.map .str) = decide (l = m)
  | [], [] => rfl
  | [], y :: m => by
    rw [List.map_nil, List.map_cons, PyData.eqvAll]
    simp
  | x :: l, [] => by
    rw [List.map_nil, List.map_cons, PyData.eqvAll]
    simp
  | x :: l, y :: m => by
    rw [List.map_cons, List.map_cons, PyData.eqvAll, eqv_strs2 l m, eqv_str]
    by_cases h1 : x = y <;> by_cases h2 : l = m <;> simp [h1, h2]
theorem toP_names (l : Names) : toP (dN l) = some (.list (l.map .str)) := by
  unfold dN toP
  rw [toPs_str]
  rfl
theorem eqB_names {l m : Names} (h : ∀ x ∈ l, PyData.strOk x = true) (h2 : ∀ x ∈ m, PyData.strOk x = true) : eqB (dN l) (dN m) = some (decide (l = m)) := by
  rw [eqB_deep (toP_names l) (toP_names m) ((shp_strs h).shaped) ((shp_strs h2).shaped) rfl, PyData.eqv, eqv_strs2]
theorem eqD_names {l m : Names} (h : ∀ x ∈ l, PyData.strOk x = true) (h2 : ∀ x ∈ m, PyData.strOk x = true) : eqD (dN l) (dN m) = some (.bl (decide (l = m))) := by
  unfold eqD
  rw [eqB_names h h2]
  rfl
theorem neD_names {l m : Names} (h : ∀ x ∈ l, PyData.strOk x = true) (h2 : ∀ x ∈ m, PyData.strOk x = true) : neD (dN l) (dN m) = some (.bl (!decide (l = m))) := by
  unfold neD
  rw [eqB_names h h2]
  rfl
theorem eqB_told {b c : Bool} {l m : Names} (h : ∀ x ∈ l, PyData.strOk x = true) (h2 : ∀ x ∈ m, PyData.strOk x = true) : eqB (.tup [.bl b, dN l]) (.tup [.bl c, dN m]) = some (decide (b = c ∧ l = m)) := by
  have t : ∀ (b : Bool) (l : Names), toP (.tup [.bl b, dN l]) = some (.tuple [.bool b, .list (l.map .str)]) := fun b l => by
    unfold dN
    simp only [toP, toPs, toPs_str, Option.map_some]
  have s : ∀ {b : Bool} {l : Names}, (∀ x ∈ l, PyData.strOk x = true) → SeqAt.shaped (.tuple [.bool b, .list (l.map .str)]) = true := fun h => (shp_tuple (n := 1) fun d hd => by
    rcases List.mem_cons.mp hd with rfl | hd
    · exact shp_bool _ _
    · rw [List.mem_singleton.mp hd]
      exact shp_strs h).shaped
  rw [eqB_deep (t b l) (t c m) (s h) (s h2) rfl, PyData.eqv, PyData.eqvAll, PyData.eqvAll, PyData.eqvAll, PyData.eqv, PyData.eqv, eqv_strs2]
  by_cases e1 : b = c <;> by_cases e2 : l = m <;> simp [e1, e2]
theorem eqD_told {b c : Bool} {l m : Names} (h : ∀ x ∈ l, PyData.strOk x = true) (h2 : ∀ x ∈ m, PyData.strOk x = true) : eqD (.tup [.bl b, dN l]) (.tup [.bl c, dN m]) = some (.bl (decide (b = c ∧ l = m))) := by
  unfold eqD
  rw [eqB_told h h2]
  rfl
theorem neD_told {b c : Bool} {l m : Names} (h : ∀ x ∈ l, PyData.strOk x = true) (h2 : ∀ x ∈ m, PyData.strOk x = true) : neD (.tup [.bl b, dN l]) (.tup [.bl c, dN m]) = some (.bl (!decide (b = c ∧ l = m))) := by
  unfold neD
  rw [eqB_told h h2]
  rfl
/-! ### rows -/
theorem nodup_ix {α : Type} : ∀ {l : List α} {i j : Nat}, l.Nodup → ∀ (hi : i < l.length) (hj : j < l.length), l[i] = l[j] → i = j
  | x :: l, 0, 0, _, _, _, _ => rfl
  | x :: l, 0, j + 1, h, _, hj, e => absurd (show x ∈ l from (show l[j]'(Nat.lt_of_succ_lt_succ hj) = x from e.symm) ▸ List.getElem_mem (Nat.lt_of_succ_lt_succ hj)) (List.nodup_cons.mp h).1
  | x :: l, i + 1, 0, h, hi, _, e => absurd (show x ∈ l from (show l[i]'(Nat.lt_of_succ_lt_succ hi) = x from e) ▸ List.getElem_mem (Nat.lt_of_succ_lt_succ hi)) (List.nodup_cons.mp h).1
  | x :: l, i + 1, j + 1, h, hi, hj, e => congrArg (· + 1) (nodup_ix (List.nodup_cons.mp h).2 (Nat.lt_of_succ_lt_succ hi) (Nat.lt_of_succ_lt_succ hj) e)
structure RowsOk (rs : List RW) : Prop where
  nd : (namesOf rs).Nodup
  sk : ∀ x ∈ namesOf rs, PyData.strOk x = true ∧ x.length ≤ 4
  ch : ∀ i r, rs[i]? = some r → r.2.length ≤ 5 ∧ ∀ y ∈ r.2, y ∈ (rs.take i).map Prod.fst
  ln : rs.length ≤ 16
theorem RowsOk.inj {rs : List RW} (h : RowsOk rs) {i j : Nat} {r q : RW} (hi : rs[i]? = some r) (hj : rs[j]? = some q) (e : r.1 = q.1) : i = j := by
  have h1 : (namesOf rs)[i]? = some r.1 := by unfold namesOf; rw [List.getElem?_map, hi]; rfl
  have h2 : (namesOf rs)[j]? = some q.1 := by unfold namesOf; rw [List.getElem?_map, hj]; rfl
  obtain ⟨l1, e1⟩ := List.getElem?_eq_some_iff.mp h1
  obtain ⟨l2, e2⟩ := List.getElem?_eq_some_iff.mp h2
  exact nodup_ix h.nd l1 l2 (e1.trans (e.trans e2.symm))
theorem RowsOk.bases {rs : List RW} (h : RowsOk rs) {r : RW} (hr : r ∈ rs) : basesOf rs r.1 = r.2 := by
  unfold basesOf
  cases e : rs.find? (fun q => decide (q.1 = r.1)) with
  | none =>
    have := List.find?_eq_none.mp e r hr
    simp at this
  | some q =>
    have e1 : q.1 = r.1 := by
      have z := List.find?_some e
      exact of_decide_eq_true z
    obtain ⟨i, hi⟩ := List.getElem?_of_mem hr
    obtain ⟨j, hj⟩ := List.getElem?_of_mem (List.mem_of_find?_eq_some e)
    have e2 := h.inj hj hi e1
    subst e2
    rw [hi] at hj
    cases hj
    rfl
theorem RowsOk.rank {rs : List RW} (h : RowsOk rs) {i : Nat} {r : RW} (hi : rs[i]? = some r) : rankOf rs r.1 = i := by
  unfold rankOf
  have hm := List.mem_of_getElem? hi
  have hlt : rs.findIdx (fun q => decide (q.1 = r.1)) < rs.length := List.findIdx_lt_length_of_exists ⟨r, hm, decide_eq_true rfl⟩
  have h1 : (rs[rs.findIdx (fun q => decide (q.1 = r.1))]).1 = r.1 := of_decide_eq_true (List.findIdx_getElem (w := hlt))
  exact h.inj (List.getElem?_eq_getElem hlt) hi h1
theorem RowsOk.dag {rs : List RW} (h : RowsOk rs) : Dag (basesOf rs) (rankOf rs) (namesOf rs) := ⟨fun x hx y hy => by
  obtain ⟨r, hr, rfl⟩ := List.mem_map.mp hx
  rw [h.bases hr] at hy
  obtain ⟨i, hi⟩ := List.getElem?_of_mem hr
  have hm := (h.ch i r hi).2 y hy
  obtain ⟨q, hq, rfl⟩ := List.mem_map.mp hm
  obtain ⟨j, hj⟩ := List.getElem?_of_mem hq
  have hji : j < i := by
    have := (List.getElem?_eq_some_iff.mp hj).1
    rw [List.length_take] at this
    omega
  rw [List.getElem?_take_of_lt hji] at hj
  refine ⟨List.mem_map.mpr ⟨q, List.mem_of_getElem? hj, rfl⟩, ?_⟩
  rw [h.rank hj, h.rank hi]
  exact hji⟩
theorem RowsOk.snoc {rs : List RW} (h : RowsOk rs) {x : Str} {ch : Names} (hx : x ∉ namesOf rs) (x1 : PyData.strOk x = true) (x2 : x.length ≤ 4) (hl : rs.length < 16) (h3 : ch.length ≤ 5) (hc : ∀ y ∈ ch, y ∈ namesOf rs) : RowsOk (rs ++ [(x, ch)]) := by
  have en : namesOf (rs ++ [(x, ch)]) = namesOf rs ++ [x] := by unfold namesOf; rw [List.map_append]; rfl
  refine ⟨?_, ?_, fun i r hi => ?_, by rw [List.length_append]; show _ + 1 ≤ _; omega⟩
  · rw [en]
    refine List.nodup_append.mpr ⟨h.nd, List.nodup_cons.mpr ⟨fun z => (by cases z), List.nodup_nil⟩, fun a ha b hb e => ?_⟩
    rw [List.mem_singleton.mp hb] at e
    exact hx (e ▸ ha)
  · rw [en]
    intro y hy
    rcases List.mem_append.mp hy with hy | hy
    · exact h.sk y hy
    · rw [List.mem_singleton.mp hy]
      exact ⟨x1, x2⟩
  · by_cases e : i < rs.length
    · rw [List.getElem?_append_left e] at hi
      rw [List.take_append_of_le_length (by omega)]
      exact h.ch i r hi
    · have e2 : i = rs.length := by
        have := (List.getElem?_eq_some_iff.mp hi).1
        rw [List.length_append] at this
        have : i < rs.length + 1 := this
        omega
      subst e2
      rw [List.getElem?_append_right (Nat.le_refl _), Nat.sub_self] at hi
      cases hi
      rw [List.take_append_of_le_length (Nat.le_refl _), List.take_length]
      exact ⟨h3, hc⟩
theorem RowsOk.nil : RowsOk [] := ⟨List.nodup_nil, fun _ z => (by cases z), fun _ _ z => (by cases z), Nat.zero_le _⟩
theorem RowsOk.small {rs : List RW} (ok : RowsOk rs) {x : Str} (hx : x ∈ namesOf rs) : rankOf rs x < 20 := by
  obtain ⟨r, hr, rfl⟩ := List.mem_map.mp hx
  obtain ⟨i, hi⟩ := List.getElem?_of_mem hr
  rw [ok.rank hi]
  have := (List.getElem?_eq_some_iff.mp hi).1
  have := ok.ln
  omega
/-- the table, whatever order the rows stand in -/
theorem RowsOk.tab {rs qs : List RW} (ok : RowsOk rs) (hp : ∀ r, r ∈ qs ↔ r ∈ rs) : TabD (mergeD [] (qs.map kvR)) (basesOf rs) (namesOf rs) := by
  refine tab_rows (fun x hx => ?_) (fun r hr _ => ok.bases ((hp r).mp hr)) ?_ fun x hx => ?_
  · obtain ⟨r, hr, rfl⟩ := List.mem_map.mp hx
    exact ⟨r, (hp r).mpr hr, rfl⟩
  · unfold namesOf
    rw [List.length_map]
    have := ok.ln
    omega
  · obtain ⟨r, hr, rfl⟩ := List.mem_map.mp hx
    obtain ⟨i, hi⟩ := List.getElem?_of_mem hr
    rw [ok.bases hr]
    have := (ok.ch i r hi).1
    omega
theorem res_in {B : Str → Names} {ρ : Str → Nat} {dom : Names} (dag : Dag B ρ dom) {x : Str} (hx : x ∈ dom) : ∀ y ∈ (resV (linR B ρ x)).2, y ∈ dom := by
  cases e : linR B ρ x with
  | ok l => exact (told_in dag hx).1 l e
  | error l => exact (told_in dag hx).2 l e
theorem numS_ok {c : Str} {i : Nat} (hc : PyData.strOk c = true) (hi : i < 20) : PyData.strOk (numS c i) = true := by
  have n1 := num_ok ⟨i, hi⟩
  unfold numS PyData.strOk
  show (c.cps ++ _).all _ = true
  rw [Array.all_append, Bool.and_eq_true]
  exact ⟨hc, n1⟩
theorem numS_len {c : Str} {i : Nat} (hi : i < 20) : (numS c i).length ≤ c.length + 2 := by
  have n2 := num_len ⟨i, hi⟩
  have e : (numS c i).length = c.length + (Str.ofString (toString (i : Int))).length := Array.size_append
  have n2 : (Str.ofString (toString (i : Int))).length ≤ 2 := n2
  omega
end Pu

namespace Ed
open PySem PySem.Spec PyProof.Rows L2
def topS (i : Nat) : Stmt := PySem.Challenge.pw_everydoor_k10_orders_of_classes.main.body.getD i (.Pass ⟨0, 0, 0, 0⟩)
abbrev s_Barred___init__ : Stmt := inClass (topS 2) 0
abbrev s_linearize : Stmt := topS 4
abbrev s_order_into : Stmt := topS 5
abbrev s_merged : Stmt := topS 6
abbrev s_first_free_head : Stmt := topS 7
abbrev s_distinct : Stmt := topS 8
abbrev s__law_source : Stmt := topS 10
abbrev s__law_draw : Stmt := topS 11
abbrev s__law_merge_or_heads : Stmt := topS 12
abbrev s__law_place : Stmt := topS 13
abbrev s__law_asked : Stmt := topS 14
abbrev s_law : Stmt := topS 15
abbrev n_Barred___init__ : List Str := ["self", "heads"]
theorem sc_Barred___init__ : SupScope n_Barred___init__ ["self", "heads"] (defScope s_Barred___init__) := ⟨rfl, rfl, rfl, by decide +kernel, rfl, by decide +kernel, by decide +kernel, by decide +kernel, rfl, rfl⟩
abbrev n_linearize : List Str := ["bases", "name", "done"]
theorem sc_linearize : FnScope n_linearize ["bases", "name"] (defScope s_linearize) := ⟨rfl, rfl, rfl, by decide +kernel, rfl, by decide +kernel, by decide +kernel⟩
abbrev n_order_into : List Str := ["bases", "name", "done", "base", "rows"]
theorem sc_order_into : FnScope n_order_into ["bases", "name", "done"] (defScope s_order_into) := ⟨rfl, rfl, rfl, by decide +kernel, rfl, by decide +kernel, by decide +kernel⟩
abbrev n_merged : List Str := ["rows", "result", "taken", "row"]
theorem sc_merged : FnScope n_merged ["rows"] (defScope s_merged) := ⟨rfl, rfl, rfl, by decide +kernel, rfl, by decide +kernel, by decide +kernel⟩
abbrev n_first_free_head : List Str := ["rows", "row", "other"]
theorem sc_first_free_head : FnScope n_first_free_head ["rows"] (defScope s_first_free_head) := ⟨rfl, rfl, rfl, by decide +kernel, rfl, by decide +kernel, by decide +kernel⟩
abbrev n_distinct : List Str := ["names", "result", "name"]
theorem sc_distinct : FnScope n_distinct ["names"] (defScope s_distinct) := ⟨rfl, rfl, rfl, by decide +kernel, rfl, by decide +kernel, by decide +kernel⟩
abbrev n__law_source : List Str := ["_law_script", "_law_greats", "_law_lessers", "_law_cell"]
theorem sc__law_source : FnScope n__law_source ["_law_script"] (defScope s__law_source) := ⟨rfl, rfl, rfl, by decide +kernel, rfl, by decide +kernel, by decide +kernel⟩
abbrev n__law_draw : List Str := ["_law_source_here", "_law_limit", "_law_greats", "_law_lessers", "_law_value", "_law_turn", "_law_primes", "_law_mixed"]
theorem sc__law_draw : FnScope n__law_draw ["_law_source_here", "_law_limit"] (defScope s__law_draw) := ⟨rfl, rfl, rfl, by decide +kernel, rfl, by decide +kernel, by decide +kernel⟩
abbrev n__law_merge_or_heads : List Str := ["_law_rows", "_law_joined", "_law_free", "_law_heads", "_law_row", "_law_other", "_law_name"]
theorem sc__law_merge_or_heads : FnScope n__law_merge_or_heads ["_law_rows"] (defScope s__law_merge_or_heads) := ⟨rfl, rfl, rfl, by decide +kernel, rfl, by decide +kernel, by decide +kernel⟩
abbrev n__law_place : List Str := ["_law_bases", "_law_name", "_law_orders", "_law_base", "_law_heads", "_law_found"]
theorem sc__law_place : FnScope n__law_place ["_law_bases", "_law_name", "_law_orders"] (defScope s__law_place) := ⟨rfl, rfl, rfl, by decide +kernel, rfl, by decide +kernel, by decide +kernel⟩
abbrev n__law_asked : List Str := ["_law_bases", "_law_name", "_law_told", "e"]
theorem sc__law_asked : FnScope n__law_asked ["_law_bases", "_law_name"] (defScope s__law_asked) := ⟨rfl, rfl, rfl, by decide +kernel, rfl, by decide +kernel, by decide +kernel⟩
abbrev n_law : List Str := ["_law_script", "_law_source_here", "_law_names", "_law_rows", "_law_k", "_law_name", "_law_rest", "_law_bases", "_law_j", "_law_at", "_law_form", "_law_asked_here", "_law_orders", "_law_heads", "_law_result", "_law_given", "_law_first", "_law_second", "_law_other", "_law_row"]
theorem sc_law : FnScope n_law ["_law_script"] (defScope s_law) := ⟨rfl, rfl, rfl, by decide +kernel, rfl, by decide +kernel, by decide +kernel⟩
def d_linearize : He.DefD := ⟨("linearize", none), "linearize", "linearize", defArgs s_linearize, defBody s_linearize, defScope s_linearize, [], []⟩
def d_order_into : He.DefD := ⟨("order_into", none), "order_into", "order_into", defArgs s_order_into, defBody s_order_into, defScope s_order_into, [], []⟩
def d_merged : He.DefD := ⟨("merged", none), "merged", "merged", defArgs s_merged, defBody s_merged, defScope s_merged, [], []⟩
def d_first_free_head : He.DefD := ⟨("first_free_head", none), "first_free_head", "first_free_head", defArgs s_first_free_head, defBody s_first_free_head, defScope s_first_free_head, [], []⟩
def d_distinct : He.DefD := ⟨("distinct", none), "distinct", "distinct", defArgs s_distinct, defBody s_distinct, defScope s_distinct, [], []⟩
def d__law_source : He.DefD := ⟨("_law_source", none), "_law_source", "_law_source", defArgs s__law_source, defBody s__law_source, defScope s__law_source, [], []⟩
def d__law_draw : He.DefD := ⟨("_law_draw", none), "_law_draw", "_law_draw", defArgs s__law_draw, defBody s__law_draw, defScope s__law_draw, [], []⟩
def d__law_merge_or_heads : He.DefD := ⟨("_law_merge_or_heads", none), "_law_merge_or_heads", "_law_merge_or_heads", defArgs s__law_merge_or_heads, defBody s__law_merge_or_heads, defScope s__law_merge_or_heads, [], []⟩
def d__law_place : He.DefD := ⟨("_law_place", none), "_law_place", "_law_place", defArgs s__law_place, defBody s__law_place, defScope s__law_place, [], []⟩
def d__law_asked : He.DefD := ⟨("_law_asked", none), "_law_asked", "_law_asked", defArgs s__law_asked, defBody s__law_asked, defScope s__law_asked, [], []⟩
def d_law : He.DefD := ⟨("law", none), "law", "law", defArgs s_law, defBody s_law, defScope s_law, [], []⟩
def e_Barred : SupD := ⟨("Barred", some "__init__"), "__init__", "Barred.__init__", defArgs s_Barred___init__, defBody s_Barred___init__, defScope s_Barred___init__⟩
def su : List SupD := [e_Barred]
def fn : List He.DefD := [d_linearize, d_order_into, d_merged, d_first_free_head, d_distinct, d__law_source, d__law_draw, d__law_merge_or_heads, d__law_place, d__law_asked, d_law]
def fa : List He.Fa := [.glo "linearize", .glo "order_into", .glo "merged", .glo "first_free_head", .glo "distinct", .glo "_law_source", .glo "_law_draw", .glo "_law_merge_or_heads", .glo "_law_place", .glo "_law_asked", .glo "law", .free "any", .free "dict", .free "int", .free "isinstance", .free "len", .free "list", .free "range", .free "str", .free "super", .glo "Barred", .noat "Barred" "heads", .exm "Barred" "Barred" true]
structure Tx (K : PySem.W.Frag) (mg : Str → Option Value) : Prop where
  g_linearize : mg "linearize" = some (.ref (He.ga K "linearize"))
  g_order_into : mg "order_into" = some (.ref (He.ga K "order_into"))
  g_merged : mg "merged" = some (.ref (He.ga K "merged"))
  g_first_free_head : mg "first_free_head" = some (.ref (He.ga K "first_free_head"))
  g_distinct : mg "distinct" = some (.ref (He.ga K "distinct"))
  g__law_source : mg "_law_source" = some (.ref (He.ga K "_law_source"))
  g__law_draw : mg "_law_draw" = some (.ref (He.ga K "_law_draw"))
  g__law_merge_or_heads : mg "_law_merge_or_heads" = some (.ref (He.ga K "_law_merge_or_heads"))
  g__law_place : mg "_law_place" = some (.ref (He.ga K "_law_place"))
  g__law_asked : mg "_law_asked" = some (.ref (He.ga K "_law_asked"))
  g_law : mg "law" = some (.ref (He.ga K "law"))
  z_any : mg "any" = none
  z_dict : mg "dict" = none
  z_int : mg "int" = none
  z_isinstance : mg "isinstance" = none
  z_len : mg "len" = none
  z_list : mg "list" = none
  z_range : mg "range" = none
  z_str : mg "str" = none
  z_super : mg "super" = none
  g_Barred : mg "Barred" = some (.ref (He.ga K "Barred"))
  na_Barred_heads : NoAttr K (He.ga K "Barred") "heads"
  ex_Barred_Barred : PySem.W.exmOne K (.ref (He.ga K "Barred")) (.ref (He.ga K "Barred")) = some true
  S_Barred : SupC K (He.ga K "Barred") (He.ma K (He.ga K "Barred") "__init__") (PySem.Challenge.pw_everydoor_k10_orders_of_classes.main.file) e_Barred
  xf_Barred : XfC K (He.ga K "Barred")
  F_linearize : ∃ fd, FunD K d_linearize.name d_linearize.qual d_linearize.params d_linearize.body d_linearize.scope (d_linearize.dvs K) (d_linearize.kws K) (He.fAd K d_linearize.at_) fd
  F_order_into : ∃ fd, FunD K d_order_into.name d_order_into.qual d_order_into.params d_order_into.body d_order_into.scope (d_order_into.dvs K) (d_order_into.kws K) (He.fAd K d_order_into.at_) fd
  F_merged : ∃ fd, FunD K d_merged.name d_merged.qual d_merged.params d_merged.body d_merged.scope (d_merged.dvs K) (d_merged.kws K) (He.fAd K d_merged.at_) fd
  F_first_free_head : ∃ fd, FunD K d_first_free_head.name d_first_free_head.qual d_first_free_head.params d_first_free_head.body d_first_free_head.scope (d_first_free_head.dvs K) (d_first_free_head.kws K) (He.fAd K d_first_free_head.at_) fd
  F_distinct : ∃ fd, FunD K d_distinct.name d_distinct.qual d_distinct.params d_distinct.body d_distinct.scope (d_distinct.dvs K) (d_distinct.kws K) (He.fAd K d_distinct.at_) fd
  F__law_source : ∃ fd, FunD K d__law_source.name d__law_source.qual d__law_source.params d__law_source.body d__law_source.scope (d__law_source.dvs K) (d__law_source.kws K) (He.fAd K d__law_source.at_) fd
  F__law_draw : ∃ fd, FunD K d__law_draw.name d__law_draw.qual d__law_draw.params d__law_draw.body d__law_draw.scope (d__law_draw.dvs K) (d__law_draw.kws K) (He.fAd K d__law_draw.at_) fd
  F__law_merge_or_heads : ∃ fd, FunD K d__law_merge_or_heads.name d__law_merge_or_heads.qual d__law_merge_or_heads.params d__law_merge_or_heads.body d__law_merge_or_heads.scope (d__law_merge_or_heads.dvs K) (d__law_merge_or_heads.kws K) (He.fAd K d__law_merge_or_heads.at_) fd
  F__law_place : ∃ fd, FunD K d__law_place.name d__law_place.qual d__law_place.params d__law_place.body d__law_place.scope (d__law_place.dvs K) (d__law_place.kws K) (He.fAd K d__law_place.at_) fd
  F__law_asked : ∃ fd, FunD K d__law_asked.name d__law_asked.qual d__law_asked.params d__law_asked.body d__law_asked.scope (d__law_asked.dvs K) (d__law_asked.kws K) (He.fAd K d__law_asked.at_) fd
  F_law : ∃ fd, FunD K d_law.name d_law.qual d_law.params d_law.body d_law.scope (d_law.dvs K) (d_law.kws K) (He.fAd K d_law.at_) fd
def exB (K : PySem.W.Frag) : Bool := true && (supB K "Barred" (PySem.Challenge.pw_everydoor_k10_orders_of_classes.main.file)) && (xfB K (He.ga K "Barred"))
theorem tx_of {K : PySem.W.Frag} {mg : Str → Option Value} {h : Heap} (X : K.In h) (G : h.Ns mainGlobals mg) (c : He.SaysD fa fn K) {w : World} (cs : SaysY fa fn su exB w K) (e : exB K = true) : Tx K mg := by
  unfold exB at e
  simp only [Bool.and_eq_true] at e
  obtain ⟨⟨_, hx0⟩, hx1⟩ := e
  exact { g_linearize := He.glo_ok X G (c.fact 0 (f := .glo "linearize") rfl), g_order_into := He.glo_ok X G (c.fact 1 (f := .glo "order_into") rfl), g_merged := He.glo_ok X G (c.fact 2 (f := .glo "merged") rfl), g_first_free_head := He.glo_ok X G (c.fact 3 (f := .glo "first_free_head") rfl), g_distinct := He.glo_ok X G (c.fact 4 (f := .glo "distinct") rfl), g__law_source := He.glo_ok X G (c.fact 5 (f := .glo "_law_source") rfl), g__law_draw := He.glo_ok X G (c.fact 6 (f := .glo "_law_draw") rfl), g__law_merge_or_heads := He.glo_ok X G (c.fact 7 (f := .glo "_law_merge_or_heads") rfl), g__law_place := He.glo_ok X G (c.fact 8 (f := .glo "_law_place") rfl), g__law_asked := He.glo_ok X G (c.fact 9 (f := .glo "_law_asked") rfl), g_law := He.glo_ok X G (c.fact 10 (f := .glo "law") rfl), z_any := He.free_ok X G (c.fact 11 (f := .free "any") rfl), z_dict := He.free_ok X G (c.fact 12 (f := .free "dict") rfl), z_int := He.free_ok X G (c.fact 13 (f := .free "int") rfl), z_isinstance := He.free_ok X G (c.fact 14 (f := .free "isinstance") rfl), z_len := He.free_ok X G (c.fact 15 (f := .free "len") rfl), z_list := He.free_ok X G (c.fact 16 (f := .free "list") rfl), z_range := He.free_ok X G (c.fact 17 (f := .free "range") rfl), z_str := He.free_ok X G (c.fact 18 (f := .free "str") rfl), z_super := He.free_ok X G (c.fact 19 (f := .free "super") rfl), g_Barred := He.glo_ok X G (c.fact 20 (f := .glo "Barred") rfl), na_Barred_heads := He.noat_ok (c.fact 21 (f := .noat "Barred" "heads") rfl), ex_Barred_Barred := He.exm_ok (c.fact 22 (f := .exm "Barred" "Barred" true) rfl), F_linearize := c.def_ 0 (d := d_linearize) rfl, F_order_into := c.def_ 1 (d := d_order_into) rfl, F_merged := c.def_ 2 (d := d_merged) rfl, F_first_free_head := c.def_ 3 (d := d_first_free_head) rfl, F_distinct := c.def_ 4 (d := d_distinct) rfl, F__law_source := c.def_ 5 (d := d__law_source) rfl, F__law_draw := c.def_ 6 (d := d__law_draw) rfl, F__law_merge_or_heads := c.def_ 7 (d := d__law_merge_or_heads) rfl, F__law_place := c.def_ 8 (d := d__law_place) rfl, F__law_asked := c.def_ 9 (d := d__law_asked) rfl, F_law := c.def_ 10 (d := d_law) rfl, S_Barred := sup_of rfl (cs.def_ 0 (d := e_Barred) rfl) hx0, xf_Barred := xfB_ok hx1 }
abbrev R : PySem.W.OpenRow := PySem.W.OpenLaw.row PySem.Challenge.rw_everydoor_k10_orders_of_classes
abbrev hk : PySem.W.Hook := hookY 4 fa fn su exB
def ob (s : PySem.W.SharedT) : AlY := obsY 4 fa fn su exB (HandSHeadRun.getT s)
theorem ob_eq (s : PySem.W.SharedT) : ob s = hk.obs s.abs := obsY_eq (HandSHeadRun.getT_eq s)
def PF (P : Program) : Prop := (P.main.file == (PySem.Challenge.pw_everydoor_k10_orders_of_classes.main.file)) = true ∧ (P.main.scope.names.lookup ("super" : Str)).isSome = false
def loose : List Str := ["DoorError", "Barred", "linearize", "order_into", "merged", "first_free_head", "distinct", "_law_source", "_law_draw", "_law_merge_or_heads", "_law_place", "_law_asked"]
theorem run (w : World) : HandSHeadRun.RunEq R (PySem.W.view R.prog [15]) hk ob 3000 loose w := by
  intro os
  kernel_rfl
end Ed
namespace Ed
open PySem PySem.Spec PyProof.Rows L2
local macro_rules | `(tactic| walk_at "hp1") => `(tactic| first | exact (Own.fr (by assumption)) _ _ (by assumption) | exact Own.get (by assumption) 0 | exact Own.get (by assumption) 1 | exact Own.get (by assumption) 2 | exact Own.get (by assumption) 3 | exact Own.get (by assumption) 4 | exact Own.get (by assumption) 5 | exact Own.get (by assumption) 6 | exact Own.get (by assumption) 7 | exact Own.get (by assumption) 8 | exact Own.get (by assumption) 9)
local macro_rules | `(tactic| walk_at "same") => `(tactic| repeat (first | exact Same.refl _ | assumption | exact Own.fr (by assumption) | exact same_upd (by assumption) | refine Same.trans ?_ (Own.fr (by assumption)) | refine Same.trans ?_ (by assumption) | refine Same.trans ?_ (same_upd (by assumption))))
local macro_rules | `(tactic| walk_at "hp") => `(tactic| first | exact SqL.of ((Own.fr (by assumption)) _ _ (by assumption)) | exact SqT.of ((Own.fr (by assumption)) _ _ (by assumption)) | exact SqL.of ((Own.fr (by assumption)) _ _ upd_same) | exact SqT.of ((Own.fr (by assumption)) _ _ upd_same) | exact SqL.of (Own.get (by assumption) 0) | exact SqL.of (Own.get (by assumption) 1) | exact SqL.of (Own.get (by assumption) 2) | exact SqL.of (Own.get (by assumption) 3) | exact SqL.of (Own.get (by assumption) 4) | exact SqL.of (Own.get (by assumption) 5) | exact SqL.of (Own.get (by assumption) 6) | exact SqL.of (Own.get (by assumption) 7) | exact SqL.of (Own.get (by assumption) 8) | exact SqL.of (Own.get (by assumption) 9) | exact SqT.of (Own.get (by assumption) 0) | exact SqT.of (Own.get (by assumption) 1) | exact SqT.of (Own.get (by assumption) 2) | exact SqT.of (Own.get (by assumption) 3) | exact SqT.of (Own.get (by assumption) 4) | exact SqT.of (Own.get (by assumption) 5) | exact SqT.of (Own.get (by assumption) 6) | exact SqT.of (Own.get (by assumption) 7) | exact SqT.of (Own.get (by assumption) 8) | exact SqT.of (Own.get (by assumption) 9) | walk_at "hp1" | assumption | (apply Same.seq _ (by assumption); walk_at "same") | (apply Same.tup _ (by assumption); walk_at "same"))
local macro_rules | `(tactic| walk_at "lt") => `(tactic| first | omega | assumption | exact cdivW_of (by omega) (by omega) | exact Or.inr ⟨by omega, by omega⟩ | exact Or.inl ⟨by omega, by omega⟩ | exact ⟨by omega, by omega, by omega⟩)
local macro_rules | `(tactic| walk_at "r1") => `(tactic| first
  | with_reducible refine r_seq ?_ | with_reducible refine r_asg ?_ | with_reducible refine r_name ?_ | with_reducible refine r_op ?_ | with_reducible refine r_c ?_ | with_reducible refine r_cons ?_ | with_reducible refine r_nil ?_
  | ((with_reducible apply r_var); rfl) | with_reducible refine r_I0 ?_ | with_reducible refine r_test ?_ | with_reducible refine r_isbl ?_ | with_reducible refine r_cb ?_ | with_reducible refine r_int ?_ | with_reducible refine r_intB ?_
  | with_reducible refine r_if ?_ | with_reducible refine r_ifE ?_ | with_reducible refine r_and ?_ | with_reducible refine r_or ?_ | with_reducible refine r_not ?_ | with_reducible refine r_andV ?_ | with_reducible refine r_orV ?_ | with_reducible refine r_notV ?_ | with_reducible refine r_chain ?_
  | with_reducible refine r_drop ?_ | with_reducible refine r_ret ?_ | with_reducible refine r_retN ?_ | with_reducible refine r_next ?_ | with_reducible refine r_B ?_ | with_reducible refine r_sub ?_ | with_reducible refine r_gcons ?_ | with_reducible refine r_gnil ?_
  | with_reducible refine r_own ?_ | with_reducible refine r_bm ?_ | with_reducible refine r_bm0 ?_ | with_reducible refine r_sl ?_ | with_reducible refine r_nopart ?_ | with_reducible refine r_part ?_ | with_reducible refine r_isint ?_ | with_reducible refine r_tup ?_ | with_reducible refine r_lst ?_ | with_reducible refine r_U ?_ | with_reducible refine r_un ?_ | with_reducible refine r_min2 ?_
  | ((with_reducible refine r_eq ?_ ?_); rfl) | ((with_reducible refine r_ne ?_ ?_); rfl)
  | ((with_reducible refine r_I ?_ ?_); walk_at "lt")
  | ((with_reducible apply r_ixL); walk_at "hp"; rfl)
  | ((with_reducible apply r_ixT); walk_at "hp"; rfl)
  | ((with_reducible apply r_len); walk_at "hp")
  | ((with_reducible apply r_lenT); walk_at "hp")
  | ((with_reducible apply r_tyL); walk_at "hp")
  | with_reducible refine r_sfld ?_ | with_reducible refine r_tfld' ?_ | with_reducible refine r_make ?_ | with_reducible refine r_methR ?_ | with_reducible refine r_yes ?_
  | ((with_reducible apply r_getF); walk_at "hp1"; assumption; assumption; rfl)
  | ((with_reducible apply r_recv); walk_at "hp1"; rfl)
  | with_reducible refine r_rev ?_ | with_reducible refine r_isN ?_ | with_reducible refine r_notN ?_ | with_reducible refine r_ownW ?_ | with_reducible refine r_raise ?_ | with_reducible refine r_mkO ?_ | with_reducible refine r_tryAs ?_ | with_reducible refine r_ownK ?_ | with_reducible refine r_dnew ?_ | with_reducible refine r_dget ?_ | with_reducible refine r_din ?_ | with_reducible refine r_dnin ?_ | with_reducible refine r_dput ?_ | with_reducible refine r_jn ?_ | with_reducible refine r_js1 ?_ | with_reducible refine r_js0 ?_ | with_reducible refine r_fmt ?_ | with_reducible refine r_gcons ?_ | with_reducible refine r_gnil ?_
  | with_reducible refine r_m1 ?_ | with_reducible refine r_isS ?_ | with_reducible refine r_starts ?_ | with_reducible refine r_ends ?_
  | with_reducible refine r_for ?_ | with_reducible refine r_lc ?_ | with_reducible refine r_iList ?_ | with_reducible refine r_iTup ?_ | with_reducible refine r_iRng1 ?_ | with_reducible refine r_iRng2 ?_
  | ((with_reducible apply r_exL); walk_at "hp") | ((with_reducible apply r_exT); walk_at "hp") | ((with_reducible refine r_bnd ?_ ?_ ?_); omega; omega)
  | ((with_reducible refine r_wipe ?_ ?_); rfl)
  | with_reducible refine ⟨_, rfl, ?_⟩)
local macro_rules | `(tactic| walk_at "rd") => `(tactic| repeat (walk_at "r1"))
section
variable {P : Program} {w : World} {K : PySem.W.Frag} {mg : Str → Option Value} {base : Heap}
theorem ok__law_source (T : Tx K mg) (hP : PF P) : Ok1 P w K mg base "_law_source" 1 (spSource K) := by
  obtain ⟨fd, F⟩ := T.F__law_source

  refine ok1_of F T.g__law_source sc__law_source (fun vs H Q E h => sp1_len h) (fun _ _ _ _ _ _ us hl => match us, hl with | [_], _ => rfl) (fun cdv A outer s H vs Q E hr h => ?_)
  obtain ⟨v0, rfl, h⟩ := h
  refine ⟨_, (pss_cons (ps_setLc (i := 1) (own := [("_law_cell", 3)]) (g := (gName 3)) (by rfl) sc__law_source.nd rfl rfl (sw_true rfl rfl rfl (by decide +kernel)) (kPiL K (pe_slice (kSlL K) (pv 0) po_none (po_some pe_int))) (blkOk_by (own := [("_law_cell", 3)]) (N := n__law_source) (sc := defScope s__law_source) (by decide +kernel)) (fun _ _ _ _ _ => (pg_name (i := 3) sc__law_source.nd rfl (.inl rfl))) (fun _ _ _ _ _ => by exact (pts_one (pt_cmpR op_ge (pv 3) (pe_op op_pow pe_int pe_int) (nomark _)))) (fun _ _ _ _ _ => by exact (pe_callTy c_int1 (by rfl) T.z_int (by decide +kernel) (pa_cons (pv 3) pa_nil))))
      (pss_cons (ps_setLc (i := 2) (own := [("_law_cell", 3)]) (g := (gName 3)) (by rfl) sc__law_source.nd rfl rfl (sw_true rfl rfl rfl (by decide +kernel)) (kPiL K (pe_slice (kSlL K) (pv 0) po_none (po_some pe_int))) (blkOk_by (own := [("_law_cell", 3)]) (N := n__law_source) (sc := defScope s__law_source) (by decide +kernel)) (fun _ _ _ _ _ => (pg_name (i := 3) sc__law_source.nd rfl (.inl rfl))) (fun _ _ _ _ _ => by exact (pts_one (pt_cmpR op_lt (pv 3) (pe_op op_pow pe_int pe_int) (nomark _)))) (fun _ _ _ _ _ => by exact (pe_op op_mod (pe_callTy c_int1 (by rfl) T.z_int (by decide +kernel) (pa_cons (pv 3) pa_nil)) pe_int)))
      (pss_one (ps_ret (pe_lst (pa_cons (pv 1) (pa_cons (pv 2) (pa_cons pe_int (pa_cons pe_int pa_nil))))))))), ?_⟩
  try dsimp only [cxOf, Cx.nox, Cx.wish]

  obtain ⟨a, ns, F, M, rfl, hS, hl, o, k⟩ := h
  walk_at "rd"
  refine r_slL o (o.fr.seq hS) fun l1 H1 n1 o1 => ?_
  rw [cut_iL] at o1
  walk_at "rd"
  refine lcb (walk_list (xs := iL (cutL ns none (some 63)))) o1 (fun i acc F' M' => F' = F ∧ M' = (l1, .lst (iL (cutL ns none (some 63)))) :: M ∧ ∃ g, acc = iL g ∧ g.length ≤ i) ⟨rfl, rfl, [], rfl, Nat.zero_le _⟩ ?_ ?_ ?_
  · rintro D i acc F' M' H' _ ⟨rfl, rfl, _⟩ o'
    exact SqL.of (o'.get 1)
  · rintro D i x acc F' M' H' H'' hi ⟨rfl, rfl, g, rfl, hg⟩ o' ⟨rfl, hx⟩
    obtain ⟨n, hn, rfl⟩ := iL_get hx
    have hc := cutL_len ns none (some 63)
    rw [len_iL] at hi
    walk_at "rd"
    refine ite2 (fun hc => ?_) (fun hc => ?_)
    · walk_at "rd"
      exact lcN ⟨_, _, _, small1000 (by rw [len_iL]; omega), ⟨rfl, rfl, g ++ [n], iL_app _ _, by rw [List.length_append]; exact Nat.succ_le_succ hg⟩, o'⟩
    · exact ⟨_, _, _, ⟨rfl, rfl, g, rfl, by omega⟩, o'⟩
  rintro D acc F' M' H' nD ⟨rfl, rfl, g, rfl, hg⟩ o2
  have o2 : Own F' ((D, HO.lst (iL g)) :: M) H' := o2.sub (.cons_cons _ (.cons _ (.refl _)))
  walk_at "rd"
  refine r_slL o2 (o2.fr.seq hS) fun l2 H2 n2 o3 => ?_
  rw [cut_iL] at o3
  walk_at "rd"
  refine lcb (walk_list (xs := iL (cutL ns none (some 63)))) o3 (fun i acc F' M' => F' = _ ∧ M' = (l2, .lst (iL (cutL ns none (some 63)))) :: (D, HO.lst (iL g)) :: M ∧ ∃ l, acc = iL l ∧ l.length ≤ i) ⟨rfl, rfl, [], rfl, Nat.zero_le _⟩ ?_ ?_ ?_
  · rintro D i acc F' M' H' _ ⟨rfl, rfl, _⟩ o'
    exact SqL.of (o'.get 1)
  · rintro D i x acc F' M' H' H'' hi ⟨rfl, rfl, g, rfl, hg⟩ o' ⟨rfl, hx⟩
    obtain ⟨n, hn, rfl⟩ := iL_get hx
    have hc := cutL_len ns none (some 63)
    rw [len_iL] at hi
    walk_at "rd"
    refine ite2 (fun hc => ?_) (fun hc => ?_)
    · walk_at "rd"
      exact lcN ⟨_, _, _, small1000 (by rw [len_iL]; omega), ⟨rfl, rfl, g ++ [n % 2147483647], iL_app _ _, by rw [List.length_append]; exact Nat.succ_le_succ hg⟩, o'⟩
    · exact ⟨_, _, _, ⟨rfl, rfl, g, rfl, by omega⟩, o'⟩
  rintro E acc F' M' H' nE ⟨rfl, rfl, l, rfl, hl⟩ o4
  have o4 : Own F' [(E, HO.lst (iL l)), (D, HO.lst (iL g))] H' ∧ Own F' ((E, HO.lst (iL l)) :: (D, HO.lst (iL g)) :: M) H' := ⟨o4.sub (.cons_cons _ (.cons _ (.cons_cons _ (List.nil_sublist _)))), o4.sub (.cons_cons _ (.cons _ (.refl _)))⟩
  walk_at "rd"
  refine newL o4.2 fun p H3 _ o5 => ?_
  exact k p [(p, _), (D, _), (E, _)] H3 ⟨D, E, g, l, 0, 0, rfl⟩ (o5.perm (.cons _ (.swap _ _ _)))

theorem ok__law_draw (T : Tx K mg) (hP : PF P) : Ok1 P w K mg base "_law_draw" 1 (spDraw) := by
  obtain ⟨fd, F⟩ := T.F__law_draw

  refine ok1_of F T.g__law_draw sc__law_draw (fun vs H Q E h => sp2_len h) (fun _ _ _ _ _ _ us hl => match us, hl with | [_, _], _ => rfl) (fun cdv A outer s H vs Q E hr h => ?_)
  obtain ⟨v0, v1, rfl, h⟩ := h
  refine ⟨_, (pss_cons (ps_set (i := 2) sc__law_draw.nd rfl (.inl rfl) (pe_ix (kIxL K) (pv 0) pe_int (fun _ _ => rfl)))
      (pss_cons (ps_set (i := 3) sc__law_draw.nd rfl (.inl rfl) (pe_ix (kIxL K) (pv 0) pe_int (fun _ _ => rfl)))
      (pss_cut (ps_if (PW.pt (pw_and (pt_cmpR op_eq (pe_ix (kIxL K) (pv 0) pe_int (fun _ _ => rfl)) pe_int (nomark _)) (pw_and1 (pt_cmpR (kNeD K hr.units) (pv 2) (pe_lst pa_nil) (nomark _))))) (pss_one (ps_asg (pe_bm PySem.F.plainAttrs_list PySem.F.slot_list_pop PySem.F.type_list_pop mt_popAt (pv 2) (pa_cons pe_int pa_nil)) (pg_sub (pv 0) pe_int set_list))) pss_nil)
      (pss_cons (ps_set (i := 4) sc__law_draw.nd rfl (.inl rfl) (pe_op op_mod (pe_callTy c_int1 (by rfl) T.z_int (by decide +kernel) (pa_cons (pe_ix (kIxL K) (pv 0) pe_int (fun _ _ => rfl)) pa_nil)) (pv 1)))
      (pss_cons (ps_asg (pe_op op_fdivW (pe_callTy c_int1 (by rfl) T.z_int (by decide +kernel) (pa_cons (pe_ix (kIxL K) (pv 0) pe_int (fun _ _ => rfl)) pa_nil)) (pv 1)) (pg_sub (pv 0) pe_int set_list))
      (pss_cons (ps_set (i := 5) sc__law_draw.nd rfl (.inl rfl) (pe_ix (kIxL K) (pv 0) pe_int (fun _ _ => rfl)))
      (pss_cons (ps_asg (pe_op op_add (pv 5) pe_int) (pg_sub (pv 0) pe_int set_list))
      (pss_cut (ps_if (pt_cmpR (kNeD K hr.units) (pv 3) (pe_lst pa_nil) (nomark _)) (pss_cons (ps_set (i := 6) sc__law_draw.nd rfl (.inl rfl) (pe_lst (pa_cons pe_int (pa_cons pe_int (pa_cons pe_int (pa_cons pe_int (pa_cons pe_int (pa_cons pe_int (pa_cons pe_int (pa_cons pe_int pa_nil))))))))))
      (pss_cons (ps_set (i := 7) sc__law_draw.nd rfl (.inl rfl) (pe_op op_mod (pe_callTy c_int1 (by rfl) T.z_int (by decide +kernel) (pa_cons (pe_op op_add (pe_op op_mul (pe_ix (kIxL K) (pv 3) (pe_op op_mod (pv 5) (pe_callB (kLen K) (by rfl) T.z_len (by decide +kernel) (pa_cons (pv 3) pa_nil))) (fun _ _ => rfl)) (pe_ix (kIxL K) (pv 6) (pe_op op_mod (pv 5) pe_int) (fun _ _ => rfl))) (pe_op op_mul (pe_op op_add (pv 5) pe_int) pe_int)) pa_nil)) pe_int))
      (pss_one (ps_set (i := 4) sc__law_draw.nd rfl (.inl rfl) (pe_op op_add (pv 4) (pe_op op_mod (pe_callTy c_int1 (by rfl) T.z_int (by decide +kernel) (pa_cons (pe_op op_add (pe_op op_mul (pv 7) (pv 7)) (pv 5)) pa_nil)) pe_int)))))) pss_nil)
      (pss_one (ps_ret (pe_op op_mod (pv 4) (pv 1)))))))))))), ?_⟩
  try dsimp only [cxOf, Cx.nox, Cx.wish]

  obtain ⟨a, m, F, S, M, rfl, rfl, h0, h1, hs, o, k⟩ := h
  obtain ⟨ag, al, g, l, c, t, rfl⟩ := hs
  walk_at "rd"
  -- if the rest is used up, the next great number
  refine r_cut (fun σ' H' => ∃ (g : List Int) (c : Int), σ' = [some (.ref a), some (.int m), some (.ref ag), some (.ref al), none, none, none, none] ∧ Own F ([(a, HO.lst [V.ref ag, V.ref al, V.int c, V.int t]), (ag, HO.lst (iL g)), (al, HO.lst (iL l))] ++ M) H') ?_ ?_
  · walk_at "rd"
    refine ite2 (fun hc => ?_) (fun hc => ?_)
    · walk_at "rd"
      refine newL o fun p H1 _ o1 => ?_
      refine r_neD (.lst (SqL.of (o1.get 2)) (dpAll_iL g)) (.lst (SqL.of (o1.get 0)) .nil) (shp_iL g).shaped (shp_iL []).shaped ?_
      rw [eqv_iL_nil]
      walk_at "rd"
      cases g with
      | nil => exact iteF ⟨[], c, rfl, o1.tail⟩
      | cons n g =>
        refine iteT ?_
        walk_at "rd"
        refine r_popAt o1.tail 1 rfl (by decide) (by decide) (j := 0) (six rfl (by rw [len_iL]; simp)) rfl fun H2 o2 => ?_
        walk_at "rd"
        refine r_setL o2 0 rfl (j := 2) rfl fun H3 o3 => ?_
        exact ⟨g, n, rfl, o3⟩
    · refine iteF ?_
      walk_at "rd"
      exact ⟨g, c, rfl, o⟩
  · rintro σ' H1 ⟨g, c, rfl, o⟩
    walk_at "rd"
    refine r_setL o 0 rfl (j := 2) rfl fun H2 o => ?_
    walk_at "rd"
    refine r_setL o 0 rfl (j := 3) rfl fun H3 o => ?_
    refine r_cut (fun σ' H' => ∃ (z : Int) (y5 y6 y7 : Option V), σ' = [some (.ref a), some (.int m), some (.ref ag), some (.ref al), some (.int z), y5, y6, y7] ∧ Own F ([(a, HO.lst [V.ref ag, V.ref al, V.int (c / m), V.int (t + 1)]), (ag, HO.lst (iL g)), (al, HO.lst (iL l))] ++ M) H') ?_ ?_
    · walk_at "rd"
      refine newL o fun p H1 _ o1 => ?_
      refine r_neD (.lst (SqL.of (o1.get 3)) (dpAll_iL l)) (.lst (SqL.of (o1.get 0)) .nil) (shp_iL l).shaped (shp_iL []).shaped ?_
      rw [eqv_iL_nil]
      walk_at "rd"
      cases l with
      | nil => exact iteF ⟨_, _, _, _, rfl, o1.tail⟩
      | cons n l =>
        refine iteT ?_
        walk_at "rd"
        refine newL o1.tail fun p H2 _ o2 => ?_
        walk_at "rd"
        have hn : (0 : Int) < ((iL (n :: l)).length : Int) := by rw [len_iL, List.length_cons]; omega
        refine r_I hn ?_
        have e0 := Int.emod_nonneg t (show ((iL (n :: l)).length : Int) ≠ 0 by omega)
        have e1 := Int.emod_lt_of_pos t hn
        have hj : (t % ((iL (n :: l)).length : Int)).toNat < (n :: l).length := by rw [len_iL] at e0 e1 ⊢; omega
        refine r_ixL (SqL.of (o2.get 3)) (at_of (Int.toNat_of_nonneg e0).symm (get_iL hj)) ?_
        walk_at "rd"
        have e2 := Int.emod_nonneg t (show (8 : Int) ≠ 0 by decide)
        have e3 := Int.emod_lt_of_pos t (show (0 : Int) < 8 by decide)
        obtain ⟨q, hq, hq1, hq2⟩ : ∃ q : Int, atI [V.int 48271, V.int 69621, V.int 16807, V.int 39373, V.int 62089, V.int 40692, V.int 52774, V.int 31743] (t % 8) = some (.int q) ∧ 0 ≤ q ∧ q < 100000 := by
          have h8 : t % 8 = 0 ∨ t % 8 = 1 ∨ t % 8 = 2 ∨ t % 8 = 3 ∨ t % 8 = 4 ∨ t % 8 = 5 ∨ t % 8 = 6 ∨ t % 8 = 7 := by omega
          rcases h8 with h | h | h | h | h | h | h | h <;> rw [h] <;> exact ⟨_, rfl, by decide, by decide⟩
        refine r_ixL (SqL.of (o2.get 0)) hq ?_
        walk_at "rd"
        generalize hz : (n :: l)[(t % ((iL (n :: l)).length : Int)).toNat] * q + (t + 1) * 104729 = z
        have z0 := Int.emod_nonneg z (show (2147483647 : Int) ≠ 0 by decide)
        have z1 := Int.emod_lt_of_pos z (show (0 : Int) < 2147483647 by decide)
        walk_at "rd"
        exact ⟨_, _, _, _, rfl, o2.tail⟩
    · rintro σ' H1 ⟨z, y5, y6, y7, rfl, o⟩
      walk_at "rd"
      exact k _ _ _ (Int.emod_nonneg _ (by omega)) (Int.emod_lt_of_pos _ h0) ⟨ag, al, g, l, _, _, rfl⟩ o

theorem ok_Barred___init__ (T : Tx K mg) (hP : PF P) : FnR P w K mg base CX0 1 (He.ma K (He.ga K "Barred") "__init__") (spErrL K (He.ga K "Barred") "heads") := by
  refine fn_sup (N := n_Barred___init__) (ps := ["self", "heads"]) T.S_Barred rfl sc_Barred___init__ rfl rfl (by decide +kernel) hP.1 hP.2 T.z_super ?_ (fun _ _ _ _ _ _ _ _ us hl => BindsTo.of_eq (match us, hl with | [_, _], _ => rfl)) (fun cdv cc A outer s H vs Q E hr h => ?_)
  · rintro vs H Q E ⟨a, l, xs, rfl, _⟩
    rfl
  obtain ⟨a, l, xs, rfl, hl, ha, k⟩ := h
  refine ⟨_, _, a, _, pe_str, (pss_one (ps_ost (pv 0) (pe_callTy (kListOf K) (by rfl) T.z_list (by decide +kernel) (pa_cons (pv 1) pa_nil)))), rfl, ha, ?_⟩
  try dsimp only [cxS]
  refine ⟨rfl, ha, ?_⟩
  show tCB (rListOf K) (tCons (tVar 1) tNil) _ _ _
  refine r_cb (r_cons (r_var rfl (r_nil ?_)))
  refine ⟨l, xs, rfl, .inl hl, fun q hq => ?_⟩
  refine r_var rfl ?_
  exact ⟨a, _, rfl, T.S_Barred.oex, T.na_Barred_heads, .inl ⟨by rw [upd_ne (ne_of_none ha hq)]; exact ha, fun dx h1 h2 => k q hq dx h1 h2⟩⟩

def spDist (K : PySem.W.Frag) : Sp := sp1 fun v H Q => ∃ (l : Addr) (xs : Names) (F : Hp) (M : Cells), v = .ref l ∧ SqL K F l (xs.map V.str) ∧ xs.length ≤ 500 ∧ Own F M H ∧ ∀ r H', F r = none → Own (upd F r (.lst ((dist xs).map V.str))) M H' → Q (.ref r) H'
theorem distF_take {xs : Names} {acc : Names} : ∀ {i : Nat} {x : Str}, xs[i]? = some x → distF acc (xs.take (i + 1)) = (if x ∈ distF acc (xs.take i) then distF acc (xs.take i) else distF acc (xs.take i) ++ [x]) := by
  induction xs generalizing acc with
  | nil =>
    intro i x h
    cases h
  | cons a r ih =>
    intro i x h
    cases i with
    | zero =>
      cases h
      rfl
    | succ i => exact ih h
theorem distF_le {xs acc : Names} : (distF acc xs).length ≤ acc.length + xs.length := by
  induction xs generalizing acc with
  | nil => exact Nat.le_refl _
  | cons a r ih =>
    unfold distF
    refine Nat.le_trans ih ?_
    rw [List.length_cons]
    split
    · omega
    · rw [List.length_append]
      show acc.length + 1 + _ ≤ _
      omega
theorem ok_distinct (T : Tx K mg) (hP : PF P) : Ok1 P w K mg base "distinct" 1 (spDist K) := by
  obtain ⟨fd, F⟩ := T.F_distinct

  refine ok1_of F T.g_distinct sc_distinct (fun vs H Q E h => sp1_len h) (fun _ _ _ _ _ _ us hl => match us, hl with | [_], _ => rfl) (fun cdv A outer s H vs Q E hr h => ?_)
  obtain ⟨v0, rfl, h⟩ := h
  refine ⟨_, (pss_cons (ps_set (i := 1) sc_distinct.nd rfl (.inl rfl) (pe_lst pa_nil))
      (pss_cons (ps_for PassesOwn.never rfl (kPiL K (pv 0)) (pg_name (i := 2) sc_distinct.nd rfl (.inl rfl))
      (pss_one (ps_if (pt_cmpR (kNotIn K) (pv 2) (pv 1) (by rfl)) (pss_one (ps_expr (pe_bm PySem.F.plainAttrs_list PySem.F.slot_list_append PySem.F.type_list_append mt_append (pv 1) (pa_cons (pv 2) pa_nil)))) pss_nil)))
      (pss_one (ps_ret (pv 1))))), ?_⟩
  try dsimp only [cxOf, Cx.nox, Cx.wish]

  obtain ⟨l, xs, F, M, rfl, hl, hn, o, k⟩ := h
  walk_at "rd"
  refine newL o fun R H1 nR o1 => ?_
  walk_at "rd"
  refine forb_list (K := K) (xs := xs.map V.str) (fun i σ H => ∃ y2, σ = [some (.ref l), some (.ref R), y2] ∧ Own F ((R, .lst ((distF [] (xs.take i)).map V.str)) :: M) H) ⟨_, rfl, o1⟩ ?_ ?_ ?_
  · rintro i σ H' _ ⟨y2, rfl, o'⟩
    exact o'.fr.seq hl
  · rintro i x σ H' hx ⟨y2, rfl, o'⟩
    obtain ⟨z, hz, rfl⟩ := map_get hx
    have hi : i < xs.length := (List.getElem?_eq_some_iff.mp hz).1
    walk_at "rd"
    refine r_inS (SqL.of (o'.get 0)) ?_
    walk_at "rd"
    have e := distF_take (acc := []) hz
    by_cases hm : z ∈ distF [] (xs.take i)
    · rw [if_pos hm] at e
      refine ite2 (fun h => absurd h (by simp [hm])) (fun _ => ?_)
      walk_at "rd"
      rw [e]
      exact o'
    · rw [if_neg hm] at e
      refine ite2 (fun _ => ?_) (fun h => absurd h (by simp [hm]))
      walk_at "rd"
      refine r_append o' 0 rfl (small1000 ?_) fun H2 o2 => ?_
      · have := distF_le (xs := xs.take i) (acc := [])
        rw [List.length_take, List.length_nil] at this
        rw [List.length_map]
        omega
      exact ⟨_, rfl, by rw [e, List.map_append]; exact o2⟩
  · rintro σ H' ⟨y2, rfl, o'⟩
    rw [List.length_map, List.take_length] at o'
    walk_at "rd"
    exact k R H' nR (o'.fz 0)

def vO : Option Str → V
  | none => .non
  | some x => .str x
theorem cutL_from {α : Type} (l : List α) (k : Nat) : cutL l (some (k : Int)) none = l.drop k := by
  unfold cutL
  rw [HT.sIx_nat, HT.sIx_none]
  by_cases h : k ≤ l.length
  · rw [Nat.min_eq_left h, List.take_of_length_le (by rw [List.length_drop]; omega)]
  · rw [Nat.min_eq_right (by omega), List.drop_of_length_le (Nat.le_refl _), List.drop_of_length_le (by omega), List.take_nil]
theorem at0 {h : Str} {q : Names} : atI ((h :: q).map V.str) (0 : Int) = some (.str h) := atI_nat (j := 0) rfl
theorem cut1 (r : Names) : cutV (r.map V.str) (some 1) none = (r.drop 1).map V.str := by
  rw [cutV_eq, cutL_map, show (some (1 : Int)) = some ((1 : Nat) : Int) from rfl, cutL_from]
def spFfh (K : PySem.W.Frag) : Sp := sp1 fun v H Q => ∃ (rows : List Names) (F : Hp) (M : Cells), Dp K F v (.list (rows.map dS)) ∧ (∀ r ∈ rows, r ≠ []) ∧ rows.length ≤ 500 ∧ Own F M H ∧ ∀ H', Own F M H' → Q (vO (ffh rows rows)) H'
theorem ffh_drop {all : List Names} : ∀ {rows : List Names} {i : Nat} {h : Str} {q : Names}, rows[i]? = some (h :: q) → ffh (rows.drop i) all = if barredBy all h = true then ffh (rows.drop (i + 1)) all else some h := by
  intro rows i h q e
  have hi : i < rows.length := (List.getElem?_eq_some_iff.mp e).1
  have e2 : rows.drop i = (h :: q) :: rows.drop (i + 1) := by
    rw [List.drop_eq_getElem_cons hi]
    rw [List.getElem?_eq_getElem hi] at e
    rw [Option.some.inj e]
  rw [e2]
  rfl
theorem ok_first_free_head (T : Tx K mg) (hP : PF P) : Ok1 P w K mg base "first_free_head" 1 (spFfh K) := by
  obtain ⟨fd, F⟩ := T.F_first_free_head

  refine ok1_of F T.g_first_free_head sc_first_free_head (fun vs H Q E h => sp1_len h) (fun _ _ _ _ _ _ us hl => match us, hl with | [_], _ => rfl) (fun cdv A outer s H vs Q E hr h => ?_)
  obtain ⟨v0, rfl, h⟩ := h
  refine ⟨_, (pss_cons (ps_for PassesOwn.never rfl (kPiL K (pv 0)) (pg_name (i := 1) sc_first_free_head.nd rfl (.inr rfl))
      (pss_one (ps_if (pt_not (pt_val (pe_callB (kAny K) (by rfl) T.z_any (by decide +kernel) (pa_cons (pe_lc (own := [("other", 2)]) (g := (gName 2)) (by rfl) sc_first_free_head.nd (kPiL K (pv 0)) (blkOk_by (own := [("other", 2)]) (N := n_first_free_head) (sc := defScope s_first_free_head) (by decide +kernel)) (fun _ _ _ _ _ => (pg_name (i := 2) sc_first_free_head.nd rfl (.inl rfl))) (fun _ _ _ _ _ => by exact pts_nil) (fun _ _ _ _ _ => by exact (pe_cmpR (kIn K) (pe_ix (kIxL K) (pv 1) pe_int (fun _ _ => rfl)) (pe_slice (kSlL K) (pv 2) (po_some pe_int) po_none) (by rfl)))) pa_nil)))) (pss_one (ps_ret (pe_ix (kIxL K) (pv 1) pe_int (fun _ _ => rfl)))) pss_nil)))
      (pss_one (ps_ret pe_non))), ?_⟩
  try dsimp only [cxOf, Cx.nox, Cx.wish]

  obtain ⟨rows, F, M, hd, hne, hn, o, k⟩ := h
  obtain ⟨l, xs, rfl, hq, ha⟩ := dp_list_inv hd
  have hlen : xs.length = rows.length := by rw [dpAll_len ha, List.length_map]
  have nth : ∀ {i : Nat} {v : V}, xs[i]? = some v → ∃ r a, rows[i]? = some r ∧ v = .ref a ∧ SqL K F a (r.map V.str) ∧ r ≠ [] := by
    intro i v hv
    obtain ⟨d, hd, dv⟩ := dpAll_get ha hv
    obtain ⟨r, hr, rfl⟩ := map_get hd
    obtain ⟨a, rfl, ha⟩ := dp_names dv
    exact ⟨r, a, hr, rfl, ha, hne r (List.mem_of_getElem? hr)⟩
  walk_at "rd"
  refine forb_list (K := K) (xs := xs) (fun i σ H => ∃ y1 y2, σ = [some (.ref l), y1, y2] ∧ Own F M H ∧ ffh (rows.drop i) rows = ffh rows rows) ⟨_, _, rfl, o, rfl⟩ ?_ ?_ ?_
  · rintro i σ H' _ ⟨y1, y2, rfl, o', _⟩
    exact o'.fr.seq hq
  · rintro i v σ H' hv ⟨y1, y2, rfl, o', hf⟩
    obtain ⟨r, a, hr, rfl, har, hr0⟩ := nth hv
    cases r with
    | nil => exact absurd rfl hr0
    | cons h q =>
    walk_at "rd"
    refine lcb (walk_list (xs := xs)) o' (fun j acc F' M' => F' = F ∧ M' = M ∧ acc = ((rows.take j).map fun o => decide (h ∈ o.drop 1)).map V.bl) ⟨rfl, rfl, rfl⟩ ?_ ?_ ?_
    · rintro D j acc F' M' H2 _ ⟨rfl, rfl, _⟩ o2
      exact o2.fr.seq hq
    · rintro D j y acc F' M' H2 H3 hj ⟨rfl, rfl, rfl⟩ o2 ⟨rfl, hy⟩
      obtain ⟨r2, a2, hr2, rfl, har2, _⟩ := nth hy
      walk_at "rd"
      refine iteT ?_
      walk_at "rd"
      refine r_ixL (o2.fr.seq har) at0 ?_
      walk_at "rd"
      refine r_slLF o2 (o2.fr.seq har2) fun c H4 nc o3 => ?_
      rw [cut1] at o3
      refine r_inS (SqL.of (o3.fr _ _ upd_same)) ?_
      have o4 := o3.less (same_upd nc)
      refine lcN ⟨_, _, _, small1000 ?_, ⟨rfl, rfl, ?_⟩, o4⟩
      · rw [List.length_map, List.length_map, List.length_take]
        omega
      · rw [take_snoc hr2, List.map_append, List.map_append]
        rfl
    rintro D acc F' M' H2 nD ⟨rfl, rfl, rfl⟩ o2
    rw [hlen, List.take_length] at o2
    walk_at "rd"
    refine r_any (SqL.of (o2.get 0)) ?_
    have eb : (rows.map fun o => decide (h ∈ o.drop 1)).any id = barredBy rows h := by
      unfold barredBy
      rw [List.any_map]
      rfl
    rw [eb]
    have ef := ffh_drop (all := rows) hr
    rw [hf] at ef
    walk_at "rd"
    by_cases hb : barredBy rows h = true
    · rw [if_pos hb] at ef
      rw [hb]
      refine iteF ?_
      walk_at "rd"
      exact ⟨_, _, rfl, o2.tail, ef.symm⟩
    · rw [if_neg hb] at ef
      rw [Bool.eq_false_iff.mpr hb]
      refine iteT ?_
      walk_at "rd"
      refine r_ixL (o2.tail.fr.seq har) at0 ?_
      rw [ef] at k
      exact k _ o2.tail
  · rintro σ H' ⟨y1, y2, rfl, o', hf⟩
    rw [hlen, List.drop_length] at hf
    rw [← hf] at k
    walk_at "rd"
    exact k _ o'

def spMerged (K : PySem.W.Frag) : Sp := sx1 fun v H Q E => ∃ (rows : List Names) (F : Hp) (M : Cells), Dp K F v (.list (rows.map dS)) ∧ rows.length ≤ 50 ∧ tot rows ≤ 400 ∧ Own F M H ∧
  (∀ l r F' H', merge rows = .ok l → Same F F' → F' r = some (.lst (l.map V.str)) → Own F' M H' → Q (.ref r) H') ∧
  ∀ hs q d F' H', merge rows = .error hs → Same F F' → F' d = some (.xd [("heads", .ref q)]) → Own F' ((q, .lst (hs.map V.str)) :: M) H' → E (.ref (He.ga K "Barred")) (some d) H'
theorem full_ne {rows : List Names} : ∀ r ∈ full rows, r ≠ [] := fun r hr => by
  have h := (List.mem_filter.mp hr).2
  intro e
  rw [e] at h
  cases h
theorem full_len (rows : List Names) : (full rows).length ≤ rows.length := List.length_filter_le _ _
theorem full_snoc (rows : List Names) (r : Names) : full (rows ++ [r]) = if r.isEmpty = true then full rows else full rows ++ [r] := by
  unfold full
  rw [List.filter_append]
  cases r with
  | nil => simp
  | cons a b => simp
theorem heads_len (rows : List Names) : (heads rows).length ≤ rows.length := List.length_filterMap_le _ _
theorem heads_snoc {rows : List Names} {h : Str} {q : Names} : heads (rows ++ [h :: q]) = heads rows ++ [h] := by
  unfold heads
  rw [List.filterMap_append]
  rfl
/-- the rows that are not empty: [row for row in rows if len(row) > 0] -/
theorem lc_full {K : PySem.W.Frag} {F H : Hp} {M : Cells} {l : Addr} {xs : List V} {rows : List Names} {σ : L2.St} {vs : List Nat} {j : Nat} {Q : VK} (o : Own F M H) (hq : SqL K F l xs) (ha : DpAll K F xs (rows.map dS)) (hl : rows.length ≤ 500)
    (hw : ∀ v, wipe ((wipe σ vs).set j (some v)) vs = wipe σ vs) (hj : ∀ v, ((wipe σ vs).set j (some v))[j]? = some (some v))
    (k : ∀ D F' H', Same F F' → Own F' M H' → Dp K F' (.ref D) (.list ((full rows).map dS)) → Q (.ref D) H') :
    LcB (Itl K l) (gName j) (tTest (tOp (rI0 fun i j => V.bl (decide (i > j))) (tCB (rLenQ K) (tCons (tVar j) tNil)) (tC (.int 0)))) (tVar j) vs σ Q H := by
  refine lcb (walk_list (xs := xs)) o (fun i acc F' M' => F' = F ∧ M' = M ∧ DpAll K F acc ((full (rows.take i)).map dS)) ⟨rfl, rfl, .nil⟩ ?_ ?_ ?_
  · rintro D i acc F' M' H' _ ⟨rfl, rfl, _⟩ o'
    exact o'.fr.seq hq
  · rintro D m y acc F' M' H' H'' hi ⟨rfl, rfl, hacc⟩ o' ⟨rfl, hy⟩
    obtain ⟨d, hd, dv⟩ := dpAll_get ha hy
    obtain ⟨r, hr, rfl⟩ := map_get hd
    obtain ⟨a, rfl, har⟩ := dp_names dv
    refine ⟨hw _, ?_⟩
    refine r_test (r_op (r_cb (r_cons (r_var (hj _) (r_nil (r_len (o'.fr.seq har) (r_c (r_I0 ⟨_, rfl, ?_⟩))))))))
    have es := full_snoc (rows.take m) r
    rw [← take_snoc hr] at es
    cases r with
    | nil =>
      refine iteF ?_
      exact ⟨acc, _, _, ⟨rfl, rfl, by rw [es]; exact hacc⟩, o'⟩
    | cons x q =>
      refine ite2 (fun _ => ?_) (fun h => absurd (decide_eq_true (by rw [List.length_map, List.length_cons]; omega)) h)
      refine r_var (hj _) ?_
      refine lcN ⟨acc, _, _, small1000 ?_, ⟨rfl, rfl, ?_⟩, o'⟩
      · have e := dpAll_len hacc
        have e2 := full_len (rows.take m)
        rw [List.length_map] at e
        rw [List.length_take] at e2
        omega
      · rw [es]
        show DpAll K F' _ ((full (rows.take m) ++ [x :: q]).map dS)
        rw [List.map_append]
        exact dpAll_snoc hacc dv
  · rintro D acc F' M' H' nD ⟨rfl, rfl, hacc⟩ o'
    have hlen : xs.length = rows.length := by rw [dpAll_len ha, List.length_map]
    rw [hlen, List.take_length] at hacc
    exact k D _ H' (same_upd nD) (o'.fz 0) (dp_newL nD hacc)
theorem ok_merged (T : Tx K mg) (hP : PF P) : Ok1x P w K mg base "merged" 3 (spMerged K) := by
  obtain ⟨fd, F⟩ := T.F_merged
  have G_first_free_head := ok_first_free_head (P := P) (w := w) (base := base) T hP
  have G_distinct := ok_distinct (P := P) (w := w) (base := base) T hP
  have GE_Barred := ok_Barred___init__ (P := P) (w := w) (base := base) T hP
  refine ok1x_of F T.g_merged sc_merged (fun vs H Q E h => sx1_len h) (fun _ _ _ _ _ _ us hl => match us, hl with | [_], _ => rfl) (fun cdv A outer s H vs Q E hr h tkE hpo => ?_)
  obtain ⟨v0, rfl, h⟩ := h
  refine ⟨_, (pss_cons (ps_set (i := 1) sc_merged.nd rfl (.inl rfl) (pe_lst pa_nil))
      (pss_cons (ps_setLc (i := 0) (own := [("row", 3)]) (g := (gName 3)) (by rfl) sc_merged.nd rfl rfl (sw_true rfl rfl rfl (by decide +kernel)) (kPiL K (pv 0)) (blkOk_by (own := [("row", 3)]) (N := n_merged) (sc := defScope s_merged) (by decide +kernel)) (fun _ _ _ _ _ => (pg_name (i := 3) sc_merged.nd rfl (.inl rfl))) (fun _ _ _ _ _ => by exact (pts_one (pt_cmpR op_gt (pe_callB (kLen K) (by rfl) T.z_len (by decide +kernel) (pa_cons (pv 3) pa_nil)) pe_int (nomark _)))) (fun _ _ _ _ _ => by exact (pv 3)))
      (pss_cons (ps_while hpo (pt_cmpR op_gt (pe_callB (kLen K) (by rfl) T.z_len (by decide +kernel) (pa_cons (pv 0) pa_nil)) pe_int (nomark _))
      (pss_cons (ps_set (i := 2) sc_merged.nd rfl (.inr rfl) (pe_own G_first_free_head (hr.mono (by decide)) (by rfl) (pa_cons (pv 0) pa_nil)))
      (pss_cons (ps_if (pt_cmpR kIsN (pv 2) pe_non (nomark _)) (pss_one (kRaise rfl tkE (pmk_sup T.S_Barred.oex T.S_Barred.ini T.S_Barred.tI GE_Barred (hr.mono (by decide)) (by rfl) T.g_Barred (pa_cons (pe_own G_distinct (hr.mono (by decide)) (by rfl) (pa_cons (pe_lc (own := [("row", 3)]) (g := (gName 3)) (by rfl) sc_merged.nd (kPiL K (pv 0)) (blkOk_by (own := [("row", 3)]) (N := n_merged) (sc := defScope s_merged) (by decide +kernel)) (fun _ _ _ _ _ => (pg_name (i := 3) sc_merged.nd rfl (.inl rfl))) (fun _ _ _ _ _ => by exact pts_nil) (fun _ _ _ _ _ => by exact (pe_ix (kIxL K) (pv 3) pe_int (fun _ _ => rfl)))) pa_nil)) pa_nil)))) pss_nil)
      (pss_cons (ps_expr (pe_bm PySem.F.plainAttrs_list PySem.F.slot_list_append PySem.F.type_list_append mt_append (pv 1) (pa_cons (pv 2) pa_nil)))
      (pss_cons (ps_setLc (i := 0) (own := [("row", 3)]) (g := (gName 3)) (by rfl) sc_merged.nd rfl rfl (sw_true rfl rfl rfl (by decide +kernel)) (kPiL K (pv 0)) (blkOk_by (own := [("row", 3)]) (N := n_merged) (sc := defScope s_merged) (by decide +kernel)) (fun _ _ _ _ _ => (pg_name (i := 3) sc_merged.nd rfl (.inl rfl))) (fun _ _ _ _ _ => by exact pts_nil) (fun _ _ _ _ _ => by exact (pe_ifExp (pt_cmpR op_eq (pe_ix (kIxL K) (pv 3) pe_int (fun _ _ => rfl)) (pv 2) (nomark _)) (pe_slice (kSlL K) (pv 3) (po_some pe_int) po_none) (pv 3))))
      (pss_one (ps_setLc (i := 0) (own := [("row", 3)]) (g := (gName 3)) (by rfl) sc_merged.nd rfl rfl (sw_true rfl rfl rfl (by decide +kernel)) (kPiL K (pv 0)) (blkOk_by (own := [("row", 3)]) (N := n_merged) (sc := defScope s_merged) (by decide +kernel)) (fun _ _ _ _ _ => (pg_name (i := 3) sc_merged.nd rfl (.inl rfl))) (fun _ _ _ _ _ => by exact (pts_one (pt_cmpR op_gt (pe_callB (kLen K) (by rfl) T.z_len (by decide +kernel) (pa_cons (pv 3) pa_nil)) pe_int (nomark _)))) (fun _ _ _ _ _ => by exact (pv 3)))))))))
      (pss_one (ps_ret (pv 1)))))), ?_⟩
  try dsimp only [cxOf, Cx.nox, Cx.wish]

  obtain ⟨rows, F, M, hd, hl, ht, o, kq, ke⟩ := h
  obtain ⟨l, xs, rfl, hq, ha⟩ := dp_list_inv hd
  walk_at "rd"
  refine newL o fun R H1 nR o1 => ?_
  walk_at "rd"
  refine lc_full o1 hq ha (by omega) (fun _ => rfl) (fun _ => rfl) fun D F1 H2 s1 o2 hD => ?_
  walk_at "rd"
  refine whileb (fun m σ H => ∃ (F' : Hp) (D : Addr) (rs : List Names) (acc : Names) (y2 y3 : Option V), σ = [some (.ref D), some (.ref R), y2, y3] ∧ Same F F' ∧ Dp K F' (.ref D) (.list (rs.map dS)) ∧ (∀ r ∈ rs, r ≠ []) ∧ rs.length ≤ 50 ∧ m = tot rs ∧ acc.length + tot rs ≤ 400 ∧ Own F' ((R, .lst (acc.map V.str)) :: M) H ∧
    (∀ l, mergeN (tot rs + 1) rs = .ok l → merge rows = .ok (acc ++ l)) ∧ ∀ e, mergeN (tot rs + 1) rs = .error e → merge rows = .error e)
    ⟨F1, D, full rows, [], _, _, rfl, s1, hD, full_ne, Nat.le_trans (full_len _) hl, rfl, ?_, o2, fun l h => ?_, fun e h => ?_⟩ ?_
  · rw [tot_full]
    show 0 + _ ≤ _
    omega
  · rw [tot_full] at h
    exact h
  · rw [tot_full] at h
    exact h
  rintro m σ H3 ⟨F2, D2, rs, acc, y2, y3, rfl, s2, hd2, hne, hl2, rfl, hb, o3, hok, her⟩
  obtain ⟨D2', xs2, e, hq2, ha2⟩ := dp_list_inv hd2
  cases e
  have hlen : xs2.length = rs.length := by rw [dpAll_len ha2, List.length_map]
  walk_at "rd"
  cases rs with
  | nil =>
    refine whF (by rw [hlen]; rfl) ?_
    have hm := hok [] rfl
    rw [List.append_nil] at hm
    walk_at "rd"
    have n3 := o3.apart 0
    exact kq acc R _ H3 hm (s2.trans (same_upd n3)) upd_same (o3.fz 0)
  | cons r0 rs0 =>
  have h1 : 1 ≤ (r0 :: rs0).length := by rw [List.length_cons]; omega
  have hn0 : r0 :: rs0 ≠ [] := fun z => by cases z
  generalize r0 :: rs0 = rs at *
  refine whT (by rw [hlen]; exact decide_eq_true (by omega)) ?_
  have em : mergeN (tot rs + 1) rs = (match ffh rs rs with
    | none => .error (dist (heads rs))
    | some t => match mergeN (tot rs) (stepR rs t) with
      | .ok l => .ok (t :: l)
      | .error e => .error e) := by
    show (if rs = [] then _ else _) = _
    rw [if_neg hn0]
    try rfl
  have nth : ∀ {F3 : Hp} {i : Nat} {v : V}, Same F2 F3 → xs2[i]? = some v → ∃ h q a, rs[i]? = some (h :: q) ∧ v = .ref a ∧ SqL K F3 a ((h :: q).map V.str) ∧ Dp K F3 v (dS (h :: q)) := by
    intro F3 i v s3 hv
    obtain ⟨d, hd, dv⟩ := dpAll_get ha2 hv
    obtain ⟨r, hr, rfl⟩ := map_get hd
    obtain ⟨a, rfl, har⟩ := dp_names dv
    cases r with
    | nil => exact absurd rfl (hne _ (List.mem_of_getElem? hr))
    | cons h q => exact ⟨h, q, a, hr, rfl, s3.seq har, dp_mono s3 dv⟩
  walk_at "rd"
  refine ⟨_, rfl, rs, F2, _, hd2, hne, by omega, o3, fun H4 o4 => ?_⟩
  cases hf : ffh rs rs with
  | none =>
    rw [hf] at em
    have hme := her _ em
    walk_at "rd"
    refine iteT ?_
    walk_at "rd"
    refine lcb (walk_list (xs := xs2)) o4 (fun i acc' F' M' => F' = F2 ∧ M' = (R, .lst (acc.map V.str)) :: M ∧ acc' = (heads (rs.take i)).map V.str) ⟨rfl, rfl, rfl⟩ ?_ ?_ ?_
    · rintro D i acc' F' M' H' _ ⟨rfl, rfl, _⟩ o'
      exact o'.fr.seq hq2
    · rintro D i y acc' F' M' H' H'' hi ⟨rfl, rfl, rfl⟩ o' ⟨rfl, hy⟩
      obtain ⟨h, q, a, hr, rfl, har, _⟩ := nth (Same.refl _) hy
      walk_at "rd"
      refine iteT ?_
      walk_at "rd"
      refine r_ixL (o'.fr.seq har) at0 ?_
      refine lcN ⟨_, _, _, small1000 ?_, ⟨rfl, rfl, ?_⟩, o'⟩
      · have e2 := heads_len (rs.take i)
        rw [List.length_take] at e2
        rw [List.length_map]
        omega
      · rw [take_snoc hr, heads_snoc, List.map_append]
        rfl
    rintro D acc' F' M' H5 nD ⟨rfl, rfl, rfl⟩ o5
    rw [hlen, List.take_length] at o5
    have hh := heads_len rs
    have sD := same_upd (x := HO.lst ((heads rs).map V.str)) nD
    have o6 := o5.fz 0
    walk_at "rd"
    refine ⟨_, rfl, D, heads rs, _, _, rfl, SqL.of upd_same, by omega, o6, fun rr H6 nrr o7 => ?_⟩
    have srr := same_upd (x := HO.lst ((dist (heads rs)).map V.str)) nrr
    walk_at "rd"
    refine mkE_list (K := K) (F := _) o7 (SqL.of (o7.fr _ _ upd_same)) fun q d H7 nq nd o8 => ?_
    have sd := same_upd (x := HO.xd [("heads", V.ref q)]) nd
    exact ke (dist (heads rs)) q d _ H7 hme (s2.trans (sD.trans (srr.trans sd))) upd_same (o8.sub (.cons_cons _ (.cons _ (List.Sublist.refl _))))
  | some t =>
    rw [hf] at em
    obtain ⟨q0, hq0, _⟩ := ffh_mem hf
    have hlt := tot_step hq0
    walk_at "rd"
    refine ite2 (fun h => absurd h (by simp [vO])) (fun _ => ?_)
    walk_at "rd"
    refine r_append o4 0 rfl (small1000 (by rw [List.length_map]; omega)) fun H5 o5 => ?_
    walk_at "rd"
    refine lcb (walk_list (xs := xs2)) o5 (fun i acc' F' M' => Same F2 F' ∧ M' = (R, .lst (acc.map V.str ++ [V.str t])) :: M ∧ DpAll K F' acc' (((rs.take i).map (takeH t)).map dS)) ⟨Same.refl _, rfl, .nil⟩ ?_ ?_ ?_
    · rintro D i acc' F' M' H' _ ⟨s3, rfl, _⟩ o'
      exact (s3.trans o'.fr).seq hq2
    · rintro D i y acc' F' M' H' H'' hi ⟨s3, rfl, hacc⟩ o' ⟨rfl, hy⟩
      obtain ⟨h, q, a, hr, rfl, har, dv⟩ := nth s3 hy
      have hl' : acc'.length ≤ 1000 := by
        rw [dpAll_len hacc, List.length_map, List.length_map, List.length_take]
        omega
      walk_at "rd"
      refine iteT ?_
      walk_at "rd"
      refine r_ixL (o'.fr.seq har) at0 ?_
      walk_at "rd"
      by_cases he : h = t
      · refine ite2 (fun _ => ?_) (fun z => absurd (decide_eq_true (congrArg V.str he)) z)
        walk_at "rd"
        refine r_slLF o' (o'.fr.seq har) fun c H6 nc o6 => ?_
        rw [cut1] at o6
        refine lcN ⟨acc', _, _, small1000 hl', ⟨s3.trans (same_upd nc), rfl, ?_⟩, o6⟩
        rw [take_snoc hr, List.map_append, List.map_append]
        refine dpAll_snoc (dpAll_mono (same_upd nc) hacc) ?_
        have e2 : takeH t (h :: q) = q := if_pos he
        rw [e2]
        exact names_dp (SqL.of upd_same)
      · refine ite2 (fun z => absurd (V.str.inj (of_decide_eq_true z)) he) (fun _ => ?_)
        walk_at "rd"
        refine lcN ⟨acc', _, _, small1000 hl', ⟨s3, rfl, ?_⟩, o'⟩
        rw [take_snoc hr, List.map_append, List.map_append]
        refine dpAll_snoc hacc ?_
        have e2 : takeH t (h :: q) = h :: q := if_neg he
        rw [e2]
        exact dv
    rintro D3 acc' F3 M' H6 nD3 ⟨s3, rfl, hacc⟩ o6
    rw [hlen, List.take_length] at hacc
    have n6 := o6.apart 0
    have s6 := same_upd (x := HO.lst acc') n6
    have o7 := o6.fz 0
    walk_at "rd"
    refine lc_full o7 (SqL.of upd_same) (dpAll_mono s6 hacc) (by rw [List.length_map]; omega) (fun _ => rfl) (fun _ => rfl) fun D4 F4 H7 s7 o8 hD4 => ?_
    have ea : (acc ++ [t]).map V.str = acc.map V.str ++ [V.str t] := by rw [List.map_append]; rfl
    refine ⟨_, hlt, F4, D4, stepR rs t, acc ++ [t], _, _, rfl, s2.trans (s3.trans (s6.trans s7)), hD4, full_ne, ?_, rfl, ?_, by rw [ea]; exact o8, fun l h => ?_, fun e h => ?_⟩
    · refine Nat.le_trans (full_len _) ?_
      rw [List.length_map]
      exact hl2
    · rw [List.length_append]
      show acc.length + 1 + _ ≤ _
      omega
    · rw [mergeN_more (tot (stepR rs t) + 1) (tot rs) (stepR rs t) (by omega) hlt] at h
      dsimp only at em
      rw [h] at em
      rw [List.append_assoc]
      exact hok _ em
    · rw [mergeN_more (tot (stepR rs t) + 1) (tot rs) (stepR rs t) (by omega) hlt] at h
      dsimp only at em
      rw [h] at em
      exact her _ em

/-- the bases: a dict of names to lists of names -/
structure TabAt (K : PySem.W.Frag) (F : Hp) (b : Addr) (B : Str → Names) (dom : Names) : Prop where
  ex : ∃ kvs, F b = some (.dK kvs) ∧ ∀ x ∈ dom, ∃ l, valV kvs (.inr x) = some (.ref l) ∧ SqL K F l ((B x).map V.str)
  sm : dom.length ≤ 30
  few : ∀ x ∈ dom, (B x).length ≤ 10
theorem TabAt.mono {K : PySem.W.Frag} {F F' : Hp} {b : Addr} {B : Str → Names} {dom : Names} (e : Same F F') (h : TabAt K F b B dom) : TabAt K F' b B dom := by
  obtain ⟨kvs, h1, h2⟩ := h.ex
  refine ⟨⟨kvs, e _ _ h1, fun x hx => ?_⟩, h.sm, h.few⟩
  obtain ⟨l, h3, h4⟩ := h2 x hx
  exact ⟨l, h3, e.seq h4⟩
/-- what is done: names with their orders -/
structure DoneOk (K : PySem.W.Frag) (F : Hp) (dn : List (Key × V)) (B : Str → Names) (ρ : Str → Nat) (dom : Names) : Prop where
  nd : (dn.map Prod.fst).Nodup
  key : ∀ k ∈ dn.map Prod.fst, k ∈ dom.map Sum.inr
  val : ∀ y v, valV dn (.inr y) = some v → y ∈ dom ∧ ∃ l r, v = .ref r ∧ F r = some (.lst (l.map V.str)) ∧ linR B ρ y = .ok l
theorem DoneOk.mono {K : PySem.W.Frag} {F F' : Hp} {dn : List (Key × V)} {B : Str → Names} {ρ : Str → Nat} {dom : Names} (e : Same F F') (h : DoneOk K F dn B ρ dom) : DoneOk K F' dn B ρ dom := by
  refine ⟨h.nd, h.key, fun y v hv => ?_⟩
  obtain ⟨h1, l, r, h2, h3, h4⟩ := h.val y v hv
  exact ⟨h1, l, r, h2, e _ _ h3, h4⟩
theorem DoneOk.len {K : PySem.W.Frag} {F : Hp} {dn : List (Key × V)} {B : Str → Names} {ρ : Str → Nat} {dom : Names} (h : DoneOk K F dn B ρ dom) : dn.length ≤ dom.length := by
  have e := nodup_le h.nd h.key
  rw [List.length_map, List.length_map] at e
  exact e
theorem DoneOk.put {K : PySem.W.Frag} {F : Hp} {dn : List (Key × V)} {B : Str → Names} {ρ : Str → Nat} {dom : Names} (h : DoneOk K F dn B ρ dom) {x : Str} {l : Names} {r : Addr} (hx : x ∈ dom) (hn : valV dn (.inr x) = none) (hr : F r = some (.lst (l.map V.str))) (hl : linR B ρ x = .ok l) :
    DoneOk K F (putK dn (.inr x) (.ref r)) B ρ dom := by
  have e := putK_new (.ref r) hn
  refine ⟨?_, ?_, fun y v hv => ?_⟩
  · rw [e, List.map_append]
    refine (List.nodup_append.mpr ⟨h.nd, ?_, ?_⟩)
    · exact List.nodup_cons.mpr ⟨fun z => (by cases z), List.nodup_nil⟩
    · intro a ha b hb z
      rw [List.map_singleton, List.mem_singleton] at hb
      subst z
      rw [hb] at ha
      exact valV_not hn ha
  · rw [e, List.map_append]
    intro k hk
    rcases List.mem_append.mp hk with hk | hk
    · exact h.key k hk
    · rw [List.map_singleton, List.mem_singleton] at hk
      rw [hk]
      exact List.mem_map.mpr ⟨x, hx, rfl⟩
  · rw [valV_put] at hv
    by_cases hy : (Sum.inr y : Key) = .inr x
    · rw [if_pos hy] at hv
      cases hv
      cases hy
      exact ⟨hx, l, r, rfl, hr, hl⟩
    · rw [if_neg hy] at hv
      exact h.val y v hv
/-- all that stood there stands there -/
def Grows (dn dn' : List (Key × V)) : Prop := ∀ y v, valV dn (.inr y) = some v → valV dn' (.inr y) = some v
/-- what is new is not above -/
def Under (dn dn' : List (Key × V)) (ρ : Str → Nat) (n : Nat) : Prop := ∀ z v, valV dn' (.inr z) = some v → valV dn (.inr z) = some v ∨ ρ z ≤ n
def spOrder (K : PySem.W.Frag) (n : Nat) : Sp := sx3 fun v0 v1 v2 H Q E => ∃ (b d : Addr) (B : Str → Names) (ρ : Str → Nat) (dom : Names) (x : Str) (dn : List (Key × V)) (F : Hp) (M : Cells), v0 = .ref b ∧ v1 = .str x ∧ v2 = .ref d ∧ TabAt K F b B dom ∧ Dag B ρ dom ∧ x ∈ dom ∧ ρ x < n ∧ DoneOk K F dn B ρ dom ∧ Own F ((d, .dK dn) :: M) H ∧
  (∀ l r dn' F' H', linR B ρ x = .ok l → Same F F' → DoneOk K F' dn' B ρ dom → Grows dn dn' → Under dn dn' ρ (ρ x) → valV dn' (.inr x) = some (.ref r) → F' r = some (.lst (l.map V.str)) → Own F' ((d, .dK dn') :: M) H' → Q .non H') ∧
  ∀ hs q e dn' F' H', linR B ρ x = .error hs → Same F F' → F' e = some (.xd [("heads", .ref q)]) → Own F' ((q, .lst (hs.map V.str)) :: (d, .dK dn') :: M) H' → E (.ref (He.ga K "Barred")) (some e) H'
theorem step_order_into (T : Tx K mg) (hP : PF P) {n : Nat} (G_order_into : Ok1x P w K mg base "order_into" (4 + n) (spOrder K n)) : Ok1x P w K mg base "order_into" (4 + n + 1) (spOrder K (n + 1)) := by
  obtain ⟨fd, F⟩ := T.F_order_into
  have G_merged := ok_merged (P := P) (w := w) (base := base) T hP
  refine ok1x_of F T.g_order_into sc_order_into (fun vs H Q E h => sx3_len h) (fun _ _ _ _ _ _ us hl => match us, hl with | [_, _, _], _ => rfl) (fun cdv A outer s H vs Q E hr h tkE hpo => ?_)
  obtain ⟨v0, v1, v2, rfl, h⟩ := h
  refine ⟨_, (pss_cons (ps_if (pt_cmp (pc_din (hu_of hr) (pv 1) (pv 2))) (pss_one ps_retN) pss_nil)
      (pss_cons (ps_for hpo rfl (kPiL K (pe_dget (hu_of hr) (pv 0) (pv 1) (fun _ _ => rfl))) (pg_name (i := 3) sc_order_into.nd rfl (.inl rfl))
      (pss_one (ps_expr (pe_ownW G_order_into (hr.mono (by omega)) (by rfl) tkE (pa_cons (pv 0) (pa_cons (pv 3) (pa_cons (pv 2) pa_nil)))))))
      (pss_cons (ps_setLc (i := 4) (own := [("base", 3)]) (g := (gName 3)) (by rfl) sc_order_into.nd rfl rfl (sw_true rfl rfl rfl (by decide +kernel)) (kPiL K (pe_dget (hu_of hr) (pv 0) (pv 1) (fun _ _ => rfl))) (blkOk_by (own := [("base", 3)]) (N := n_order_into) (sc := defScope s_order_into) (by decide +kernel)) (fun _ _ _ _ _ => (pg_name (i := 3) sc_order_into.nd rfl (.inl rfl))) (fun _ _ _ _ _ => by exact pts_nil) (fun _ _ _ _ _ => by exact (pe_callTy (kListOf K) (by rfl) T.z_list (by decide +kernel) (pa_cons (pe_dget (hu_of hr) (pv 2) (pv 3) (fun _ _ => rfl)) pa_nil))))
      (pss_cons (ps_expr (pe_bm PySem.F.plainAttrs_list PySem.F.slot_list_append PySem.F.type_list_append mt_append (pv 4) (pa_cons (pe_callTy (kListOf K) (by rfl) T.z_list (by decide +kernel) (pa_cons (pe_dget (hu_of hr) (pv 0) (pv 1) (fun _ _ => rfl)) pa_nil)) pa_nil)))
      (pss_one (ps_dput (hu_of hr) (pv 2) (pv 1) (pe_op op_cat (pe_lst (pa_cons (pv 1) pa_nil)) (pe_ownW G_merged (hr.mono (by omega)) (by rfl) tkE (pa_cons (pv 4) pa_nil))) rfl)))))), ?_⟩
  try dsimp only [cxOf, Cx.nox, Cx.wish]

  obtain ⟨b, d, B, ρ, dom, x, dn, F, M, rfl, rfl, rfl, tb, dag, hx, hr', hdn, o, kq, ke⟩ := h
  obtain ⟨kvs, hb, hB⟩ := tb.ex
  obtain ⟨lb, hlb, hsq⟩ := hB x hx
  walk_at "rd"
  refine din (o.get 0) ?_
  walk_at "rd"
  cases hv : valV dn (.inr x) with
  | some v =>
    obtain ⟨_, l, r, rfl, h1, h2⟩ := hdn.val x v hv
    refine iteT ?_
    walk_at "rd"
    exact kq l r dn F H h2 (Same.refl _) hdn (fun _ _ z => z) (fun _ _ z => .inl z) hv h1 o
  | none =>
  refine iteF ?_
  walk_at "rd"
  refine dget (o.fr _ _ hb) hlb ?_
  walk_at "rd"
  have few := tb.few x hx
  refine forb_list (K := K) (xs := (B x).map V.str) (fun i σ H => ∃ (F' : Hp) (dn' : List (Key × V)) (y3 y4 : Option V), σ = [some (.ref b), some (.str x), some (.ref d), y3, y4] ∧ Same F F' ∧ DoneOk K F' dn' B ρ dom ∧ Grows dn dn' ∧ Under dn dn' ρ (ρ x) ∧ valV dn' (.inr x) = none ∧ Own F' ((d, .dK dn') :: M) H ∧ ∀ y ∈ (B x).take i, ∃ v, valV dn' (.inr y) = some v)
    ⟨F, dn, _, _, rfl, Same.refl _, hdn, (fun _ _ z => z), (fun _ _ z => .inl z), hv, o, fun y hy => by cases hy⟩ ?_ ?_ ?_
  · rintro i σ H' _ ⟨F', dn', y3, y4, rfl, s1, _, _, _, _, o', _⟩
    exact (s1.trans o'.fr).seq hsq
  · rintro i v σ H' hi ⟨F', dn', y3, y4, rfl, s1, hd1, hg1, hu1, hx1, o', hall⟩
    obtain ⟨y, hy, rfl⟩ := map_get hi
    obtain ⟨hyd, hyr⟩ := dag.sub x hx y (List.mem_of_getElem? hy)
    walk_at "rd"
    refine ⟨_, _, _, rfl, b, d, B, ρ, dom, y, dn', F', M, rfl, rfl, rfl, tb.mono s1, dag, hyd, by omega, hd1, o', fun l r dn2 F2 H2 hl2 s2 hd2 hg hu hv2 hr2 o2 => ?_, fun hs q e dn2 F2 H2 hl2 s2 he o2 => ?_⟩
    · walk_at "rd"
      refine ⟨F2, dn2, _, _, rfl, s1.trans s2, hd2, fun z v h => hg z v (hg1 z v h), fun z v h => ?_, ?_, o2, fun z hz => ?_⟩
      · rcases hu z v h with h | h
        · exact hu1 z v h
        · exact .inr (by omega)
      · cases e : valV dn2 (.inr x) with
        | none => rfl
        | some v =>
          rcases hu x v e with h | h
          · rw [hx1] at h
            cases h
          · omega
      · rw [take_snoc hy] at hz
        rcases List.mem_append.mp hz with hz | hz
        · obtain ⟨v, hv⟩ := hall z hz
          exact ⟨v, hg z v hv⟩
        · rw [List.mem_singleton.mp hz]
          exact ⟨_, hv2⟩
    · refine ke hs q e dn2 F2 H2 ?_ (s1.trans s2) he o2
      rw [linR_eq dag hx, linAll_err hy (fun z hz => ?_) hl2]
      obtain ⟨v, hv⟩ := hall z hz
      obtain ⟨_, l, r, _, _, h2⟩ := hd1.val z v hv
      exact ⟨l, h2⟩
  rintro σ H1 ⟨F1, dn1, y3, y4, rfl, s1, hd1, hg1, hu1, hx1, o1, hall⟩
  rw [List.length_map, List.take_length] at hall
  obtain ⟨g, hgok⟩ : ∃ g : Str → Names, ∀ y ∈ B x, linR B ρ y = .ok (g y) := by
    refine ⟨fun y => match linR B ρ y with
      | .ok l => l
      | .error _ => [], fun y hy => ?_⟩
    obtain ⟨v, hv⟩ := hall y hy
    obtain ⟨_, l, r, _, _, h2⟩ := hd1.val y v hv
    simp only [h2]
  have hla := linAll_ok hgok
  have heq := linR_eq dag hx
  rw [hla] at heq
  dsimp only at heq
  have glen : ∀ y ∈ B x, (g y).length ≤ 30 := fun y hy => Nat.le_trans (linR_len dag (dag.sub x hx y hy).1 (hgok y hy)) tb.sm
  walk_at "rd"
  refine dget (o1.fr _ _ (s1 _ _ hb)) hlb ?_
  walk_at "rd"
  refine lcb (walk_list (xs := (B x).map V.str)) o1 (fun i acc F' M' => Same F1 F' ∧ M' = (d, .dK dn1) :: M ∧ DpAll K F' acc ((((B x).take i).map g).map dS)) ⟨Same.refl _, rfl, .nil⟩ ?_ ?_ ?_
  · rintro D i acc F' M' H' _ ⟨s2, rfl, _⟩ o'
    exact (s1.trans (s2.trans o'.fr)).seq hsq
  · rintro D i y acc F' M' H' H'' hi ⟨s2, rfl, hacc⟩ o' ⟨rfl, hy⟩
    obtain ⟨z, hz, rfl⟩ := map_get hy
    have hzm := List.mem_of_getElem? hz
    obtain ⟨v, hv⟩ := hall z hzm
    obtain ⟨_, l, r, rfl, h1, h2⟩ := hd1.val z v hv
    have e : g z = l := Except.ok.inj ((hgok z hzm).symm.trans h2)
    subst e
    walk_at "rd"
    refine iteT ?_
    walk_at "rd"
    refine dget (o'.get 1) hv ?_
    walk_at "rd"
    refine r_listOfF o' (.inl (SqL.of (o'.fr _ _ (s2 _ _ h1)))) fun c H6 nc o6 => ?_
    refine lcN ⟨acc, _, _, small1000 ?_, ⟨s2.trans (same_upd nc), rfl, ?_⟩, o6⟩
    · rw [dpAll_len hacc, List.length_map, List.length_map, List.length_take]
      omega
    · rw [take_snoc hz, List.map_append, List.map_append]
      exact dpAll_snoc (dpAll_mono (same_upd nc) hacc) (names_dp (SqL.of upd_same))
  rintro D acc F2 M' H2 nD ⟨s2, rfl, hacc⟩ o2
  rw [List.length_map, List.take_length] at hacc
  walk_at "rd"
  refine dget (o2.fr _ _ ((s1.trans s2) _ _ hb)) hlb ?_
  walk_at "rd"
  refine r_listOfF o2 (.inl ((s1.trans (s2.trans o2.fr)).seq hsq)) fun c H3 nc o3 => ?_
  walk_at "rd"
  have sc := same_upd (x := HO.lst ((B x).map V.str)) nc
  have lacc : acc.length = (B x).length := by rw [dpAll_len hacc, List.length_map, List.length_map]
  refine r_append o3 0 rfl (small1000 (by omega)) fun H4 o4 => ?_
  walk_at "rd"
  refine newL o4 fun ln H5 nln o5 => ?_
  walk_at "rd"
  have nD5 := o5.apart 1
  have o6 := o5.fz 1
  have sD := same_upd (x := HO.lst (acc ++ [V.ref c])) nD5
  have hrows : Dp K (upd (upd F2 c (.lst ((B x).map V.str))) D (.lst (acc ++ [V.ref c]))) (.ref D) (.list ((((B x).map g) ++ [B x]).map dS)) := by
    refine dp_newL nD5 ?_
    rw [List.map_append]
    exact dpAll_snoc (dpAll_mono sc hacc) (names_dp (SqL.of upd_same))
  have htot : tot ((B x).map g ++ [B x]) ≤ 400 := by
    have h1 : ∀ (l : List Names), (∀ r ∈ l, r.length ≤ 30) → tot l ≤ l.length * 30 := by
      intro l
      induction l with
      | nil => exact fun _ => Nat.le_refl _
      | cons r q ih =>
        intro h
        have h2 := h r List.mem_cons_self
        have h3 := ih fun z hz => h z (List.mem_cons_of_mem _ hz)
        unfold tot at *
        rw [List.map_cons, List.sum_cons, List.length_cons]
        omega
    refine Nat.le_trans (h1 _ fun r hr => ?_) ?_
    · rcases List.mem_append.mp hr with hr | hr
      · obtain ⟨y, hy, rfl⟩ := List.mem_map.mp hr
        exact glen y hy
      · rw [List.mem_singleton.mp hr]
        omega
    · rw [List.length_append, List.length_map]
      show ((B x).length + 1) * 30 ≤ _
      omega
  have s3 := s1.trans (s2.trans (sc.trans sD))
  refine ⟨_, rfl, _, _, _, hrows, by rw [List.length_append, List.length_map]; show _ + 1 ≤ _; omega, htot, o6, fun m r F7 H7 hm s7 hr7 o7 => ?_, fun hs q e F7 H7 hm s7 he7 o7 => ?_⟩
  · rw [hm] at heq
    dsimp only at heq
    have hml : (x :: m).length ≤ 30 := Nat.le_trans (linR_len dag hx heq) tb.sm
    rw [List.length_cons] at hml
    refine r_catF o7 (o7.get 0) (o7.fr _ _ hr7) (sz1 (by rw [List.length_map]; show 1 + _ ≤ _; omega)) fun c2 H8 nc2 o8 => ?_
    have s8 := same_upd (x := HO.lst ([V.str x] ++ m.map V.str)) nc2
    walk_at "rd"
    have dl := hd1.len
    have sm := tb.sm
    refine dput o8 1 rfl (small1000 (by omega)) fun H9 o9 => ?_
    have s9 := s2.trans (sc.trans (sD.trans (s7.trans s8)))
    refine kq (x :: m) c2 _ _ H9 heq (s1.trans s9) ((hd1.mono s9).put (l := x :: m) hx hx1 upd_same heq) (fun z v h => ?_) (fun z v h => ?_) ?_ upd_same o9.tail
    · rw [valV_put, if_neg]
      · exact hg1 z v h
      · intro e
        cases e
        rw [hv] at h
        cases h
    · rw [valV_put] at h
      by_cases e : (Sum.inr z : Key) = .inr x
      · cases e
        exact .inr (Nat.le_refl _)
      · rw [if_neg e] at h
        exact hu1 z v h
    · rw [valV_put, if_pos rfl]
  · rw [hm] at heq
    exact ke hs q e dn1 F7 H7 heq (s3.trans s7) he7 (o7.sub (.cons_cons _ (.cons _ (List.Sublist.refl _))))
theorem ok_order_into_n (T : Tx K mg) (hP : PF P) : ∀ n, Ok1x P w K mg base "order_into" (4 + n) (spOrder K n)
  | 0 => by
    obtain ⟨fd, F⟩ := T.F_order_into
    refine ⟨_, T.g_order_into, F.kp, fun A outer s H us vs Q E hr e0 r h => ?_⟩
    obtain ⟨_, _, _, _, _, _, _, _, _, _, _, _, _, _, _, _, _, _, _, hz, _⟩ := h
    exact absurd hz (Nat.not_lt_zero _)
  | n + 1 => step_order_into T hP (ok_order_into_n T hP n)
theorem ok_order_into (T : Tx K mg) (hP : PF P) : Ok1x P w K mg base "order_into" 24 (spOrder K 20) := ok_order_into_n T hP 20
def spLin (K : PySem.W.Frag) : Sp := sx2 fun v0 v1 H Q E => ∃ (b : Addr) (B : Str → Names) (ρ : Str → Nat) (dom : Names) (x : Str) (F : Hp) (M : Cells), v0 = .ref b ∧ v1 = .str x ∧ TabAt K F b B dom ∧ Dag B ρ dom ∧ x ∈ dom ∧ ρ x < 20 ∧ Own F M H ∧
  (∀ l r F' H', linR B ρ x = .ok l → Same F F' → Own F' ((r, .lst (l.map V.str)) :: M) H' → Q (.ref r) H') ∧
  ∀ hs q e F' H', linR B ρ x = .error hs → Same F F' → F' e = some (.xd [("heads", .ref q)]) → Own F' ((q, .lst (hs.map V.str)) :: M) H' → E (.ref (He.ga K "Barred")) (some e) H'
theorem okf_linearize (T : Tx K mg) (hP : PF P) {f : Addr} {fd : FuncData} (F : FunD K d_linearize.name d_linearize.qual d_linearize.params d_linearize.body d_linearize.scope (d_linearize.dvs K) (d_linearize.kws K) f fd) : FnOk P w K mg base (CX P w) 25 f fd ["bases", "name"] (spLin K) := by
  have G_order_into := ok_order_into (P := P) (w := w) (base := base) T hP
  refine okfx_of F sc_linearize (fun vs H Q E h => sx2_len h) (fun cdv A outer s H vs Q E hr h tkE hpo => ?_)
  obtain ⟨v0, v1, rfl, h⟩ := h
  refine ⟨_, (pss_cons (ps_set (i := 2) sc_linearize.nd rfl (.inl rfl) pe_dnewK)
      (pss_cons (ps_expr (pe_ownW G_order_into (hr.mono (by decide)) (by rfl) tkE (pa_cons (pv 0) (pa_cons (pv 1) (pa_cons (pv 2) pa_nil)))))
      (pss_one (ps_ret (pe_callTy (kListOf K) (by rfl) T.z_list (by decide +kernel) (pa_cons (pe_dget (hu_of hr) (pv 2) (pv 1) (fun _ _ => rfl)) pa_nil)))))), ?_⟩
  try dsimp only [cxOf, Cx.nox, Cx.wish]

  obtain ⟨b, B, ρ, dom, x, F, M, rfl, rfl, tb, dag, hx, hr', o, kq, ke⟩ := h
  walk_at "rd"
  refine dnew o fun d H1 nd o1 => ?_
  walk_at "rd"
  refine ⟨_, _, _, rfl, b, d, B, ρ, dom, x, [], F, M, rfl, rfl, rfl, tb, dag, hx, hr', ⟨List.nodup_nil, fun _ z => (by cases z), fun _ _ z => (by cases z)⟩, o1, fun l r dn' F' H' hl s1 hd hg hu hv hr o2 => ?_, fun hs q e dn' F' H' hl s1 he o2 => ?_⟩
  · walk_at "rd"
    refine dget (o2.get 0) hv ?_
    walk_at "rd"
    refine r_listOf o2 (.inl (SqL.of (o2.fr _ _ hr))) fun c H3 nc o3 => ?_
    exact kq l c F' H3 hl s1 (o3.sub (.cons_cons _ (.cons _ (List.Sublist.refl _))))
  · exact ke hs q e F' H' hl s1 he (o2.sub (.cons_cons _ (.cons _ (List.Sublist.refl _))))
theorem ok_linearize (T : Tx K mg) (hP : PF P) : Ok1x P w K mg base "linearize" 25 (spLin K) := by
  obtain ⟨fd, F⟩ := T.F_linearize
  exact ok1x_fn (ps := ["bases", "name"]) F T.g_linearize (okf_linearize T hP F) fun _ _ _ _ _ _ us hl => match us, hl with | [_, _], _ => rfl
theorem ok_linearizeK (T : Tx K mg) (hP : PF P) : OkKx P w K mg base "linearize" 25 ["name", "bases"] (fun _ zs => zs.reverse) (spLin K) := by
  obtain ⟨fd, F⟩ := T.F_linearize
  exact ⟨_, fd, ["bases", "name"], _, T.g_linearize, F.kp, okf_linearize T hP F, kbn_of F (fun _ ws => ws.reverse) (fun _ r => r.reverse) fun _ _ _ _ _ _ us ws h1 h2 => match us, ws, h1, h2 with | [], [_, _], _, _ => rfl⟩

def spAsked (K : PySem.W.Frag) : Sp := sp2 fun v0 v1 H Q => ∃ (b : Addr) (B : Str → Names) (ρ : Str → Nat) (dom : Names) (x : Str) (F : Hp) (M : Cells), v0 = .ref b ∧ v1 = .str x ∧ TabAt K F b B dom ∧ Dag B ρ dom ∧ x ∈ dom ∧ ρ x < 20 ∧ Own F M H ∧
  ∀ t r F' H', Same F F' → F' t = some (.tup [.bl (resV (linR B ρ x)).1, .ref r]) → Own F' ((r, .lst ((resV (linR B ρ x)).2.map V.str)) :: M) H' → Q (.ref t) H'
theorem ok__law_asked (T : Tx K mg) (hP : PF P) : Ok1 P w K mg base "_law_asked" 26 (spAsked K) := by
  obtain ⟨fd, F⟩ := T.F__law_asked
  have G_linearize := ok_linearize (P := P) (w := w) (base := base) T hP
  refine ok1_of F T.g__law_asked sc__law_asked (fun vs H Q E h => sp2_len h) (fun _ _ _ _ _ _ us hl => match us, hl with | [_, _], _ => rfl) (fun cdv A outer s H vs Q E hr h => ?_)
  obtain ⟨v0, v1, rfl, h⟩ := h
  refine ⟨_, (pss_cut (kTryAs K (i := 3) rfl rfl sc__law_asked.nd rfl rfl ⟨by rfl, by decide, .inl T.g_Barred⟩ takes0
      (fun W pn xe tk po => (pss_one (ps_set (i := 2) sc__law_asked.nd rfl (.inl rfl) (pe_ownW G_linearize (hr.mono (by decide)) (by rfl) tk (pa_cons (pv 0) (pa_cons (pv 1) pa_nil))))))
      (fun a oe cls d pn hz hf => (pss_one (ps_ret (pe_tup (pa_cons pe_bl (pa_cons (pe_xf T.xf_Barred T.na_Barred_heads hz hf (pv 3)) pa_nil)))))))
      (pss_one (ps_ret (pe_tup (pa_cons pe_bl (pa_cons (pv 2) pa_nil)))))), ?_⟩
  try dsimp only [cxOf, Cx.nox, Cx.wish]

  obtain ⟨b, B, ρ, dom, x, F, M, rfl, rfl, tb, dag, hx, hr', o, k⟩ := h
  refine r_cut (fun σ H => ∃ l r F' y3, σ = [some (.ref b), some (.str x), some (.ref r), y3] ∧ linR B ρ x = .ok l ∧ Same F F' ∧ Own F' ((r, .lst (l.map V.str)) :: M) H) ?_ ?_
  · walk_at "rd"
    refine ⟨_, _, rfl, b, B, ρ, dom, x, F, M, rfl, rfl, tb, dag, hx, hr', o, fun l r F' H' hl s1 o1 => ?_, fun hs q e F' H' hl s1 he o1 => ?_⟩
    · walk_at "rd"
      exact ⟨l, r, F', _, rfl, hl, s1, o1⟩
    · refine wAs_yes T.ex_Barred_Barred fun a na => ?_
      walk_at "rd"
      refine r_var rfl ?_
      refine ⟨rfl, rfl, e, _, _, rfl, o1.fr _ _ he, rfl, ?_⟩
      walk_at "rd"
      refine newT o1 fun t H2 nt o2 => ?_
      rw [hl] at k
      exact k t q _ H2 (s1.trans (same_upd nt)) upd_same o2
  · rintro σ H1 ⟨l, r, F', y3, rfl, hl, s1, o1⟩
    walk_at "rd"
    refine newT o1 fun t H2 nt o2 => ?_
    rw [hl] at k
    exact k t r _ H2 (s1.trans (same_upd nt)) upd_same o2

end
end Ed
namespace Pu
open PySem PySem.Spec PyProof.Rows L2 Ed
local macro_rules | `(tactic| walk_at "lb") => `(tactic| first | omega | assumption | (simp only [List.length_map]; omega))
local macro_rules | `(tactic| walk_at "lf") => `(tactic| first
  | with_reducible exact lf_eqs | with_reducible exact lf_nes | with_reducible exact lf_eqi | with_reducible exact lf_nei | with_reducible exact lf_eqb | with_reducible exact lf_neb | with_reducible exact lf_len | with_reducible exact lf_dnin | with_reducible exact lf_din | ((with_reducible apply lf_dget); assumption) | ((with_reducible apply lf_dgetF); assumption)
  | ((with_reducible apply lf_cat); walk_at "lb") | ((with_reducible apply lf_lst); rfl; rfl) | ((with_reducible apply lf_tup); rfl; rfl)
  | ((with_reducible apply lf_gcat); (case h1 => (first | exact kids_ol _ _ | rfl)); (case h2 => (first | exact kids_ol _ _ | rfl)); (case hl => walk_at "lb"))
  | assumption | rfl)
local macro_rules | `(tactic| walk_at "ev") => `(tactic| first
  | with_reducible exact ev_c | ((with_reducible apply ev_var); rfl)
  | ((with_reducible apply ev_op); (case h1 => walk_at "ev"); (case h2 => walk_at "ev"); (case h3 => walk_at "lf"))
  | ((with_reducible apply ev_un); (case h1 => walk_at "ev"); (case h3 => walk_at "lf"))
  | ((with_reducible apply ev_a0); (case h3 => walk_at "lf"))
  | ((with_reducible apply ev_a1); (case h1 => walk_at "ev"); (case h3 => walk_at "lf"))
  | ((with_reducible apply ev_a2); (case h1 => walk_at "ev"); (case h2 => walk_at "ev"); (case h3 => walk_at "lf"))
  | ((with_reducible apply ev_as); (case h1 => walk_at "es"); (case h3 => walk_at "lf"))
  | ((with_reducible apply ev_fz); walk_at "ev")
  | ((with_reducible apply ev_not); walk_at "ev")
  | ((with_reducible apply ev_and); (case h => walk_at "ev"); (case k => (intro _; walk_at "ev")))
  | ((with_reducible apply ev_or); (case h => walk_at "ev"); (case k => (intro _; walk_at "ev"))))
local macro_rules | `(tactic| walk_at "es") => `(tactic| first | with_reducible exact ev_nil | ((with_reducible apply ev_cons); (case h1 => walk_at "ev"); (case h2 => walk_at "es")))
local macro_rules | `(tactic| walk_at "eb") => `(tactic| first
  | with_reducible exact ev_yes
  | ((with_reducible apply ev_bV); walk_at "ev")
  | ((with_reducible apply ev_bT); (case h => walk_at "ev"); (case k => (first | rfl | (simp only [ol_toD, od_toD]; rfl))))
  | ((with_reducible apply ev_bnot); walk_at "eb")
  | ((with_reducible apply ev_band); (case h => walk_at "eb"); (case k => (intro _; walk_at "eb")))
  | ((with_reducible apply ev_bor); (case h => walk_at "eb"); (case k => (intro _; walk_at "eb"))))
local macro_rules | `(tactic| walk_at "ns") => `(tactic| dsimp only [List.set_cons_succ, List.set_cons_zero])
local macro_rules | `(tactic| walk_at "nm") => `(tactic| (first | (simp only [Env.fz, Sl.fzD, ol_toD, od_toD, List.getElem?_cons_succ, List.getElem?_cons_zero, List.set_cons_succ, List.set_cons_zero, back]; done) | (simp only [Env.fz, Sl.fzD, ol_toD, od_toD, List.getElem?_cons_succ, List.getElem?_cons_zero, List.set_cons_succ, List.set_cons_zero, back]; rfl) | rfl))
local macro_rules | `(tactic| walk_at "p1") => `(tactic| first
  | with_reducible refine s_seq ?_ | with_reducible refine s_set ?_ | with_reducible refine s_drop ?_ | with_reducible refine s_ret ?_ | with_reducible refine s_retN ?_ | with_reducible refine s_if ?_ | with_reducible refine s_asg ?_ | with_reducible refine s_nil ?_ | with_reducible refine s_for ?_ | with_reducible refine s_dput ?_ | with_reducible refine s_brk ?_ | with_reducible refine s_cont ?_
  | ((with_reducible apply s_fz2); (case h => walk_at "nm"))
  | ((with_reducible apply x_st); (case hl => rfl); (case he => walk_at "nm"))
  | ((with_reducible apply x_dp); (case h => walk_at "ev"))
  | ((with_reducible apply x_p); (case h => walk_at "ev"))
  | ((with_reducible apply x_nl); (case h => walk_at "ev"); (intro _))
  | ((with_reducible apply t_p); (case h => walk_at "eb"))
  | with_reducible refine x_op ?_ | with_reducible refine x_un ?_ | with_reducible refine t_x ?_ | with_reducible refine t_xb ?_ | with_reducible refine t_and ?_ | with_reducible refine t_or ?_ | with_reducible refine t_not ?_
  | with_reducible refine i_l ?_ | with_reducible refine i_t ?_ | with_reducible refine i_r1 ?_ | with_reducible refine i_r2 ?_ | with_reducible refine i_dn ?_ | with_reducible refine i_e ?_ | with_reducible refine i_s ?_
  | with_reducible refine x_dtup ?_ | with_reducible refine x_tup ?_ | with_reducible refine x_lst ?_ | with_reducible refine a_nil ?_ | with_reducible refine a_v ?_ | ((with_reducible apply a_b); (case hs => rfl))
  | ((with_reducible apply x_appS); (case h1 => exact is_ol rfl)) | ((with_reducible apply x_popS); (case h1 => exact is_ol rfl)) | ((with_reducible apply x_insS); (case h1 => exact is_ol rfl))
  | with_reducible refine x_dnew (fun _ => ?_) | with_reducible refine x_d ?_
  | with_reducible refine e_fz ?_ | with_reducible refine e_ow ?_ | with_reducible refine e_od ?_ | with_reducible refine e_I ?_ | with_reducible refine e_II ?_ | with_reducible refine e_L ?_ | with_reducible refine e_T ?_ | with_reducible refine e_S ?_ | with_reducible refine e_B ?_
  | ((with_reducible apply e_ev); (case h => walk_at "lf")) | ((with_reducible apply e_tru); (case h => rfl)) | ((with_reducible apply e_vals); (case h => rfl); (case hl => rfl)) | ((with_reducible apply e_b1); (case h1 => omega); (case h2 => omega)) | ((with_reducible apply e_b2); (case h1 => omega); (case h2 => omega); (case h3 => omega); (case h4 => omega)))
local macro_rules | `(tactic| walk_at "pw") => `(tactic| repeat (walk_at "p1"))
local macro_rules | `(tactic| walk_at "e0") => `(tactic| simp only [env0, List.map_cons, List.map_nil, List.length_cons, List.length_nil, Nat.reduceAdd, Nat.reduceSub, List.replicate_succ, List.replicate_zero, List.cons_append, List.nil_append])
section
variable {P : Program} {w : World} {K : PySem.W.Frag} {mg : Str → Option Value} {base : Heap}
def CAsked : FS := fun ss q _ => ∃ (kvs : List (Key × D)) (B : Str → Names) (ρ : Str → Nat) (dom : Names) (x : Str), ss = [.fz (.dic kvs), .fz (.str x)] ∧ TabD kvs B dom ∧ Dag B ρ dom ∧ x ∈ dom ∧ ρ x < 20 ∧
  ∀ t r, q (.ow (.tup t [.f (.bl (resV (linR B ρ x)).1), ol r ((resV (linR B ρ x)).2.map D.str)])) [.fz (.dic kvs), .fz (.str x)]
def CMoh : FS := fun ss q _ => ∃ rows : List Names, ss = [.fz (.lst (rows.map dN))] ∧ rows.length ≤ 50 ∧ tot rows ≤ 400 ∧ (∀ r ∈ rows, ∀ x ∈ r, PyData.strOk x = true) ∧ q (.fz (.tup [.bl (resV (merge rows)).1, dN (resV (merge rows)).2])) ss
/-- what is done: names with their orders -/
structure DoneD (dn : List (Key × D)) (B : Str → Names) (ρ : Str → Nat) (dom : Names) : Prop where
  nd : (dn.map Prod.fst).Nodup
  key : ∀ k ∈ dn.map Prod.fst, k ∈ dom.map Sum.inr
  val : ∀ y d, dfind dn (.inr y) = some d → y ∈ dom ∧ ∃ l, d = dN l ∧ linR B ρ y = .ok l
def GrowsD (dn dn' : List (Key × D)) : Prop := ∀ y v, dfind dn (.inr y) = some v → dfind dn' (.inr y) = some v
def UnderD (dn dn' : List (Key × D)) (ρ : Str → Nat) (n : Nat) : Prop := ∀ z v, dfind dn' (.inr z) = some v → dfind dn (.inr z) = some v ∨ ρ z ≤ n
def isN (r : Sl) (hs : Names) : Prop := r = .fz (dN hs) ∨ ∃ v, r = .ow (ol v (hs.map D.str))
def CPlace (n : Nat) : FS := fun ss q _ => ∃ (kvs : List (Key × D)) (B : Str → Names) (ρ : Str → Nat) (dom : Names) (x : Str) (a : Addr) (dn : List (Key × D)), ss = [.fz (.dic kvs), .fz (.str x), .ow (od a dn)] ∧ TabD kvs B dom ∧ Dag B ρ dom ∧ (∀ y ∈ dom, PyData.strOk y = true) ∧ x ∈ dom ∧ ρ x < n ∧ DoneD dn B ρ dom ∧ dfind dn (.inr x) = none ∧
  ∀ r dn', DoneD dn' B ρ dom → GrowsD dn dn' → UnderD dn dn' ρ (ρ x) → ((∃ l, linR B ρ x = .ok l ∧ isN r [] ∧ dfind dn' (.inr x) = some (dN l)) ∨ ∃ e, linR B ρ x = .error e ∧ e ≠ [] ∧ isN r e) → q r [.fz (.dic kvs), .fz (.str x), .ow (od a dn')]
theorem no__law_place {ss : List Sl} {q : Sl → List Sl → Prop} {w : Str → List (Str × D) → List Sl → Prop} (h : CPlace 0 ss q w) : False := by
  obtain ⟨_, _, _, _, _, _, _, _, _, _, _, _, hz, _⟩ := h
  exact absurd hz (Nat.not_lt_zero _)
def f__law_merge_or_heads (K : PySem.W.Frag) : FSt := (sSeq (sSet 1 (xN (gArgs mkL [])))
  (sSeq (sSet 0 (xN (gLc (giL (gVar 0)) [4] (stN 4) (bV (gOp (fOp neD) (gVar 4) (gFz (gArgs mkL [])))) (gVar 4))))
  (sSeq (sWhile (tP (bV (gOp (fOp neD) (gVar 0) (gFz (gArgs mkL [])))))
  (sSeq (sSet 2 (xN (gLc (giL (gVar 0)) [4] (stN 4) (bV (gOp (fOp ninD) (gC (.bl true)) (gFz (gLc (giL (gVar 0)) [5] (stN 5) bYes (gOp (fOp inD) (gOp ixD (gVar 4) (gC (.int 0))) (gFz (gSl slL (gVar 5) (goS (gC (.int 1))) goN))))))) (gOp ixD (gVar 4) (gC (.int 0))))))
  (sSeq (sIf (tP (bV (gOp (fOp eqD) (gVar 2) (gFz (gArgs mkL []))))) (sSeq (sSet 3 (xN (gArgs mkL [])))
  (sFz 0 (sSeq (sFor (iL1 (xP (gVar 0))) (stN 4)
  (sIf (tP (bV (gOp (fOp ninD) (gOp ixD (gVar 4) (gC (.int 0))) (gVar 3)))) (sDrop (xApp 3 (xP (gOp ixD (gVar 4) (gC (.int 0)))))) sNil))
  (sFz 3 (sRet (xP (gArgs mkT [(gC (.bl false)), (gVar 3)]))))))) sNil)
  (sSeq (sDrop (xApp 1 (xP (gOp ixD (gVar 2) (gC (.int 0))))))
  (sSeq (sSet 0 (xN (gLc (giL (gVar 0)) [4] (stN 4) bYes (gFz (gLc (giL (gVar 4)) [6] (stN 6) (bV (gOp (fOp neD) (gVar 6) (gOp ixD (gVar 2) (gC (.int 0))))) (gVar 6))))))
  (sSet 0 (xN (gLc (giL (gVar 0)) [4] (stN 4) (bV (gOp (fOp neD) (gVar 4) (gFz (gArgs mkL [])))) (gVar 4)))))))))
  (sFz 1 (sRet (xP (gArgs mkT [(gC (.bl true)), (gVar 1)])))))))
def f__law_place (K : PySem.W.Frag) (n : Nat) : FSt := (sFz 0 (sSeq (sFor (iL1 (xP (gOp dgetD (gVar 0) (gVar 1)))) (stN 3)
  (sIf (tP (bV (gOp (fOp dninD) (gVar 3) (gVar 2)))) (sFz 0 (sSeq (sSet 4 (xCall0 3 (CPlace n) (aV (xP (gVar 0)) (aV (xP (gVar 3)) (aB 2 aNil)))))
  (sIf (tP (bV (gOp (fOp neD) (gVar 4) (gFz (gArgs mkL []))))) (sFz 4 (sRet (xP (gVar 4)))) sNil))) sNil))
  (sSeq (sSet 5 (xCall0 1 CMoh (aV (xN (gOp gcat (gFz (gLc (giL (gOp dgetD (gVar 0) (gVar 1))) [3] (stN 3) bYes (gOp dgetD (gVar 2) (gVar 3)))) (gFz (gArgs mkL [(gOp dgetD (gVar 0) (gVar 1))])))) aNil)))
  (sSeq (sIf (tP (bNot (bV (gOp ixD (gVar 5) (gC (.int 0)))))) (sRet (xP (gOp ixD (gVar 5) (gC (.int 1))))) sNil)
  (sSeq (sDput 2 (xP (gVar 1)) (xN (gOp gcat (gFz (gArgs mkL [(gVar 1)])) (gOp ixD (gVar 5) (gC (.int 1))))))
  (sRet (xN (gArgs mkL []))))))))
def f_law (K : PySem.W.Frag) : FSt := (sSeq (sSet 1 (xCall0 1 (CSource K) (aB 0 aNil)))
  (sSeq (sSet 2 (xN (gArgs mkL [])))
  (sSeq (sSet 3 (xN (gArgs mkL [])))
  (sSeq (sFor (iR1 (xOp (fOp addD) (xP (gC (.int 1))) (xCall0 2 CDraw (aB 1 (aV (xP (gC (.int 14))) aNil))))) (stN 4)
  (sSeq (sSet 5 (xOp (fOp addD) (xOp ixD (xP (gC (.str "abcdefgh"))) (xCall0 2 CDraw (aB 1 (aV (xP (gC (.int 8))) aNil)))) (xP (gArgs (fA1 strD) [(gVar 4)]))))
  (sCut (sIf (tP (bV (gOp (fOp eqD) (gVar 4) (gC (.int 3))))) (sSet 5 (xP (gC (.str "")))) sNil)
  (sSeq (sSet 6 (xN (gLc (giL (gVar 2)) [18] (stN 18) bYes (gVar 18))))
  (sSeq (sSet 7 (xN (gArgs mkL [])))
  (sSeq (sFor (iR1 (xCall0 2 CDraw (aB 1 (aV (xP (gC (.int 5))) aNil)))) (stN 8)
  (sIf (tP (bV (gOp (fOp neD) (gVar 6) (gFz (gArgs mkL []))))) (sDrop (xApp 7 (xPopA 6 (xCall0 2 CDraw (aB 1 (aV (xP (gArgs (fA1 lenD) [(gVar 6)])) aNil)))))) sNil))
  (sSeq (sDrop (xApp 2 (xP (gVar 5))))
  (sFz 7 (sDrop (xApp 3 (xP (gArgs mkT [(gVar 5), (gVar 7)]))))))))))))
  (sSeq (sSet 9 (xCall0 2 CDraw (aB 1 (aV (xP (gArgs (fA1 lenD) [(gVar 3)])) aNil))))
  (sSeq (sSet 10 (xCall0 2 CDraw (aB 1 (aV (xP (gC (.int 3))) aNil))))
  (sCut (sIf (tP (bV (gOp (fOp eqD) (gVar 10) (gC (.int 1))))) (sSet 3 (xN (gUn gRev (gVar 3)))) sNil)
  (sCut (sIf (tP (bV (gOp (fOp eqD) (gVar 10) (gC (.int 2))))) (sSet 3 (xN (gOp gcat (gFz (gSl slL (gVar 3) (goS (gVar 9)) goN)) (gFz (gSl slL (gVar 3) goN (goS (gVar 9))))))) sNil)
  (sSeq (sSet 11 (xOpV ixD 2 (xCall0 2 CDraw (aB 1 (aV (xP (gArgs (fA1 lenD) [(gVar 2)])) aNil)))))
  (sSeq (sSet 12 xDnew)
  (sSeq (sSet 13 (xCall0 3 (CPlace 20) (aV (xN (gArgs gdict [(gVar 3)])) (aV (xP (gVar 11)) (aB 12 aNil)))))
  (sFz 13 (sSeq (sSet 14 (xP (gArgs mkT [(gC (.bl false)), (gVar 13)])))
  (sCut (sIf (tP (bV (gOp (fOp eqD) (gVar 13) (gFz (gArgs mkL []))))) (sSet 14 (xP (gArgs mkT [(gC (.bl true)), (gOp dgetD (gVar 12) (gVar 11))]))) sNil)
  (sSeq (sSet 15 (xN (gArgs gdict [(gFz (gLc (giL (gVar 3)) [19] (stN 19) bYes (gArgs mkT [(gOp ixD (gVar 19) (gC (.int 0))), (gFz (gArgs glist [(gOp ixD (gVar 19) (gC (.int 1)))]))])))])))
  (sFz 15 (sSeq (sSet 16 (xCall0 2 CAsked (aV (xP (gVar 15)) (aV (xP (gVar 11)) aNil))))
  (sSeq (sIf (tP (bOr (bV (gOp (fOp neD) (gVar 16) (gVar 14))) (bOr (bNot (bV (gUn (fUn (isiD "list")) (gOp ixD (gVar 16) (gC (.int 1)))))) (bV (gOp (fOp nedD) (gVar 15) (gFz (gArgs gdict [(gVar 3)]))))))) (sRet (xP (gC (.bl false)))) sNil)
  (sSeq (sDrop (xAppP (gOp ixD (gVar 16) (gC (.int 1))) (pI (pV 16) (gC (.int 1))) (xP (gC (.str "other")))))
  (sFz 15 (sSeq (sSet 17 (xCall0 2 CAsked (aV (xP (gVar 15)) (aV (xP (gVar 11)) aNil))))
  (sRet (xP (gAnd (gOp (fOp eqD) (gVar 17) (gVar 14)) (gOp (fOp eqD) (gFz (gSl slL (gOp ixD (gVar 16) (gC (.int 1))) goN (goS (gUn (fUn negD) (gC (.int 1)))))) (gOp ixD (gVar 14) (gC (.int 1))))))))))))))))))))))))))))

def hd (r : Names) : Str := r.headD ⟨#[]⟩
theorem ffh_frees {all : List Names} : ∀ {rs : List Names}, (∀ r ∈ rs, r ≠ []) → ((rs.filter fun r => !barredBy all (hd r)).map hd).head? = ffh rs all
  | [], _ => rfl
  | [] :: rs, h => absurd rfl (h _ List.mem_cons_self)
  | (x :: q) :: rs, h => by
    have ih := ffh_frees (all := all) (rs := rs) fun r hr => h r (List.mem_cons_of_mem _ hr)
    unfold ffh
    by_cases e : barredBy all x = true
    · rw [if_pos e, List.filter_cons_of_neg (by show ¬ (!barredBy all x) = true; rw [e]; exact Bool.false_ne_true), ih]
    · rw [if_neg e, List.filter_cons_of_pos (by show (!barredBy all x) = true; rw [Bool.eq_false_iff.mpr e]; rfl)]
      rfl
theorem step_filter {rs : List Names} {t : Str} (h : barredBy rs t = false) : rs.map (fun r => r.filter fun x => !decide (x = t)) = rs.map (takeH t) := by
  refine List.map_congr_left fun r hr => ?_
  have ht : t ∉ r.drop 1 := by
    intro z
    have := List.any_eq_false.mp h r hr
    exact this (decide_eq_true z)
  have hq : ∀ q : Names, t ∉ q → (q.filter fun x => !decide (x = t)) = q := fun q hq => List.filter_eq_self.mpr fun x hx => by
    have : x ≠ t := fun e => hq (e ▸ hx)
    simp [this]
  cases r with
  | nil => rfl
  | cons x q =>
    have ht : t ∉ q := ht
    show _ = if x = t then q else x :: q
    by_cases e : x = t
    · rw [if_pos e, List.filter_cons_of_neg (by simp [e]), hq q ht]
    · rw [if_neg e, List.filter_cons_of_pos (by simp [e]), hq q ht]
theorem full_filter (rs : List Names) : rs.filter (fun r => !r.isEmpty) = full rs := rfl
theorem inB_bools (bs : List Bool) : inL (.bl true) (bs.map D.bl) = some (bs.any id) := by
  unfold inL
  rw [if_pos ⟨rfl, by rw [List.all_eq_true]; intro d hd; obtain ⟨b, _, rfl⟩ := List.mem_map.mp hd; rfl⟩]
  congr 1
  induction bs with
  | nil => rfl
  | cons b bs ih =>
    unfold inV at ih ⊢
    rw [List.map_cons, List.map_cons, List.any_cons, List.any_cons, ih]
    cases b <;> rfl
theorem inB_names (x : Str) (l : Names) : inL (.str x) (l.map D.str) = some (decide (x ∈ l)) := by
  unfold inL
  rw [if_pos ⟨rfl, by rw [List.all_eq_true]; intro d hd; obtain ⟨b, _, rfl⟩ := List.mem_map.mp hd; rfl⟩, ← inV_str, List.map_map]
  rfl
theorem inD_names {x : Str} {l : Names} : inD (.str x) (dN l) = some (.bl (decide (x ∈ l))) := by
  show (inB (.str x) (dN l)).map D.bl = _
  show (inL (.str x) (l.map D.str)).map D.bl = _
  rw [inB_names]
  rfl
theorem ninD_names {x : Str} {l : Names} : ninD (.str x) (dN l) = some (.bl (!decide (x ∈ l))) := by
  show (inL (.str x) (l.map D.str)).map (fun b => D.bl (!b)) = _
  rw [inB_names]
  rfl
theorem ninD_bools {bs : List Bool} : ninD (.bl true) (.lst (bs.map D.bl)) = some (.bl (!bs.any id)) := by
  show (inL (.bl true) (bs.map D.bl)).map (fun b => D.bl (!b)) = _
  rw [inB_bools]
  rfl
theorem ix0 {x : Str} {q : Names} : ixD (.f (dN (x :: q))) (.f (.int 0)) = some (.f (.str x)) := by
  show (atI ((x :: q).map D.str) 0).map N.f = _
  rw [show atI ((x :: q).map D.str) (0 : Int) = some (.str x) from atI_nat (j := 0) rfl]
  rfl
theorem kids_dN (l : Names) : kidsL (.f (dN l)) = some (l.map D.str) := rfl
theorem toPs_names : ∀ rs : List Names, toPs (rs.map dN) = some (rs.map fun r => PyData.list (r.map .str))
  | [] => rfl
  | r :: rs => by
    rw [List.map_cons]
    unfold toPs
    rw [toP_names, toPs_names rs]
    rfl
theorem neD_rows {rs : List Names} (h : ∀ r ∈ rs, ∀ x ∈ r, PyData.strOk x = true) : neD (.lst (rs.map dN)) (.lst []) = some (.bl (!rs.isEmpty)) := by
  unfold neD
  have t : toP (.lst (rs.map dN)) = some (.list (rs.map fun r => PyData.list (r.map .str))) := by
    unfold toP
    rw [toPs_names]
    rfl
  rw [eqB_deep t (show toP (.lst []) = some (.list []) from rfl) ((shp_list (n := 1) fun d hd => by
    obtain ⟨r, hr, rfl⟩ := List.mem_map.mp hd
    exact shp_strs (h r hr)).shaped) (by rfl) rfl]
  cases rs <;> rfl
theorem any_barred (rs : List Names) (x : Str) : (rs.map fun o => decide (x ∈ o.drop 1)).any id = barredBy rs x := by
  unfold barredBy
  rw [List.any_map]
  rfl
theorem distF_snoc (acc : Names) : ∀ (xs : Names) (x : Str), distF acc (xs ++ [x]) = (if x ∈ distF acc xs then distF acc xs else distF acc xs ++ [x]) := by
  intro xs
  induction xs generalizing acc with
  | nil => intro x; rfl
  | cons a r ih => intro x; exact ih _ x
theorem ixO0 {a : Addr} {x : Str} {q : Names} : ixD (ol a ((x :: q).map D.str)) (.f (.int 0)) = some (.f (.str x)) := by
  show atI (((x :: q).map D.str).map N.f) (0 : Int) = _
  exact atI_nat (j := 0) rfl
theorem tot_mem {rows : List Names} {r : Names} (h : r ∈ rows) : r.length ≤ tot rows := by
  induction rows with
  | nil => cases h
  | cons a q ih =>
    unfold tot at *
    rw [List.map_cons, List.sum_cons]
    rcases List.mem_cons.mp h with h | h
    · rw [h]
      omega
    · have := ih h
      omega

theorem pure__law_merge_or_heads {K : PySem.W.Frag} (ss : List Sl) (q : Sl → List Sl → Prop) (w : Str → List (Str × D) → List Sl → Prop) (hC : CMoh ss q w) : f__law_merge_or_heads K (env0 7 ss) (endsP ss q w) := by
  unfold f__law_merge_or_heads
  obtain ⟨rows, rfl, hl, ht, hs, hq⟩ := hC
  walk_at "e0"
  walk_at "pw"
  rename_i R
  refine x_nl (gLc_some (giL_f rfl) (by rw [List.length_map]; omega) (comps_filter (enc := dN) (f := dN) (p := fun r => !r.isEmpty) fun r hr => ⟨_, rfl, b_op rfl rfl (neD_nil (hs r hr)), fun _ => rfl⟩)) fun a0 => ?_
  rw [full_filter]
  walk_at "pw"
  refine ⟨fun m env => ∃ (a0 : Addr) (rs : List Names) (acc : Names) (y2 y3 y4 y5 y6 : Option Sl), env = [some (.ow (ol a0 (rs.map dN))), some (.ow (ol R (acc.map D.str))), y2, y3, y4, y5, y6] ∧ (∀ r ∈ rs, r ≠ []) ∧ rs.length ≤ 50 ∧ m = tot rs ∧ acc.length + tot rs ≤ 400 ∧ (∀ r ∈ rs, ∀ x ∈ r, PyData.strOk x = true) ∧
    (∀ l, mergeN (tot rs + 1) rs = .ok l → merge rows = .ok (acc ++ l)) ∧ ∀ e, mergeN (tot rs + 1) rs = .error e → merge rows = .error e,
    ⟨_, a0, full rows, [], none, none, none, none, none, rfl, full_ne, Nat.le_trans (full_len _) hl, rfl, by rw [tot_full]; show 0 + _ ≤ _; omega, fun r hr => hs r ((List.mem_filter.mp hr).1), fun l h => by rw [tot_full] at h; exact h, fun e h => by rw [tot_full] at h; exact h⟩, ?_⟩
  rintro m _ ⟨a1, rs, acc, y2, y3, y4, y5, y6, rfl, hne, hl2, rfl, hb, hs2, hok, her⟩
  refine t_p (c := !rs.isEmpty) (b_op rfl rfl (by rw [ol_toD]; exact neD_rows hs2)) ?_
  cases rs with
  | nil =>
    refine iteF ?_
    have hm := hok [] rfl
    rw [List.append_nil] at hm
    rw [hm] at hq
    walk_at "pw"
    exact ⟨trivial, hq⟩
  | cons r0 rs0 =>
  have hn0 : r0 :: rs0 ≠ [] := fun z => by cases z
  refine iteT ?_
  generalize r0 :: rs0 = rs at *
  have em : mergeN (tot rs + 1) rs = (match ffh rs rs with
    | none => .error (dist (heads rs))
    | some t => match mergeN (tot rs) (stepR rs t) with
      | .ok l => .ok (t :: l)
      | .error e => .error e) := by
    show (if rs = [] then _ else _) = _
    rw [if_neg hn0]
    try rfl
  walk_at "pw"
  refine x_nl (gLc_some (giL_ol rfl) (by rw [List.length_map]; omega) (comps_filter (enc := dN) (f := fun r => .str (hd r)) (p := fun r => !barredBy rs (hd r)) fun r hr => ?_)) fun a2 => ?_
  · cases r with
    | nil => exact absurd rfl (hne _ hr)
    | cons x q =>
      refine ⟨_, rfl, ?_, fun _ => g_opN rfl rfl ix0⟩
      refine b_op rfl (gFz_some (gLc_some (giL_ol rfl) (by rw [List.length_map]; omega) (comps_map (enc := dN) (f := fun o => .bl (decide (x ∈ o.drop 1))) fun o ho => ⟨_, rfl, rfl, ?_⟩))) ?_
      · refine g_op (g_opN rfl rfl ix0) (gFz_some (ev_sl rfl (ev_goS rfl) rfl (kids_dN o))) ?_
        rw [show (some (1 : Int)) = some ((1 : Nat) : Int) from rfl, cutL_map, cutL_from]
        exact inD_names
      · show ninD (.bl true) (.lst (rs.map fun o => D.bl (decide (x ∈ o.drop 1)))) = _
        rw [show (rs.map fun o => D.bl (decide (x ∈ o.drop 1))) = (rs.map fun o => decide (x ∈ o.drop 1)).map D.bl by rw [List.map_map]; rfl, ninD_bools, any_barred]
        rfl
  have hff := ffh_frees (all := rs) hne
  rw [show ((rs.filter fun r => !barredBy rs (hd r)).map fun r => D.str (hd r)) = ((rs.filter fun r => !barredBy rs (hd r)).map hd).map D.str by rw [List.map_map]; rfl]
  have hsf : ∀ x ∈ (rs.filter fun r => !barredBy rs (hd r)).map hd, PyData.strOk x = true := by
    intro x hx
    obtain ⟨r, hr, rfl⟩ := List.mem_map.mp hx
    have hr := (List.mem_filter.mp hr).1
    cases r with
    | nil => exact absurd rfl (hne _ hr)
    | cons x q => exact hs2 _ hr x List.mem_cons_self
  generalize (rs.filter fun r => !barredBy rs (hd r)).map hd = fs at *
  walk_at "pw"
  refine t_p (c := decide (fs = [])) (b_op rfl rfl (by rw [ol_toD]; exact eqD_names (m := []) hsf fun _ z => by cases z)) ?_
  cases fs with
  | nil =>
    refine iteT ?_
    rw [← hff] at em
    have hme := her _ em
    rw [hme] at hq
    walk_at "pw"
    rename_i a3
    refine ⟨fun i env => ∃ y4, env = [some (.fz (.lst (rs.map dN))), some (.ow (ol R (acc.map D.str))), some (.ow (ol a2 ([].map D.str))), some (.ow (ol a3 ((dist (heads (rs.take i))).map D.str))), y4, y5, y6], ⟨_, rfl⟩, ?_, ?_⟩
    · rintro i d _ hd ⟨y4, rfl⟩
      obtain ⟨r, hr, rfl⟩ := map_get hd
      have hrm := List.mem_of_getElem? hr
      cases r with
      | nil => exact absurd rfl (hne _ hrm)
      | cons x qq =>
        have eh : dist (heads (rs.take (i + 1))) = (if x ∈ dist (heads (rs.take i)) then dist (heads (rs.take i)) else dist (heads (rs.take i)) ++ [x]) := by rw [take_snoc hr, heads_snoc]; exact distF_snoc [] (heads (rs.take i)) x
        refine ⟨_, rfl, ?_⟩
        walk_at "pw"
        refine t_p (c := !decide (x ∈ dist (heads (rs.take i)))) (b_op (g_opN rfl rfl ix0) rfl (by rw [ol_toD]; exact ninD_names)) ?_
        have hlen : (dist (heads (rs.take i))).length ≤ 50 := by
          have h1 := distF_le (xs := heads (rs.take i)) (acc := [])
          have h2 := heads_len (rs.take i)
          rw [List.length_take] at h2
          show (distF [] _).length ≤ _
          rw [List.length_nil] at h1
          omega
        by_cases hm : x ∈ dist (heads (rs.take i))
        · refine ite2 (fun h => absurd h (by simp [hm])) (fun _ => ?_)
          walk_at "pw"
          exact ⟨some (.fz (dN (x :: qq))), by rw [eh, if_pos hm]; try rfl⟩
        · refine ite2 (fun _ => ?_) (fun h => absurd h (by simp [hm]))
          walk_at "pw"
          refine e_ev ix0 ?_
          walk_at "pw"
          refine x_app2 rfl (small1000 (by rw [List.length_map]; omega)) ?_
          try walk_at "ns"
          exact ⟨some (.fz (dN (x :: qq))), by rw [eh, if_neg hm, List.map_append]; try rfl⟩
    · rintro _ ⟨y4, rfl⟩
      rw [List.length_map, List.take_length]
      walk_at "pw"
      exact ⟨trivial, hq⟩
  | cons t fs =>
    refine iteF ?_
    have hf : ffh rs rs = some t := hff.symm
    rw [hf] at em
    obtain ⟨q0, hq0, hbar⟩ := ffh_mem hf
    have hlt := tot_step hq0
    walk_at "pw"
    refine x_p (g_opN rfl rfl ixO0) ?_
    walk_at "pw"
    refine x_app2 rfl (small1000 (by rw [List.length_map]; omega)) ?_
    try walk_at "ns"
    walk_at "pw"
    refine x_nl (gLc_some (giL_ol rfl) (by rw [List.length_map]; omega) (comps_map (enc := dN) (f := fun r => dN (r.filter fun x => !decide (x = t))) fun r hr => ⟨_, rfl, rfl, ?_⟩)) fun a4 => ?_
    · refine gFz_some (gLc_some (giL_f rfl) ?_ (comps_filter (enc := D.str) (f := D.str) (p := fun x => !decide (x = t)) fun x hx => ⟨_, rfl, ?_, fun _ => rfl⟩))
      · rw [List.length_map]
        have := tot_mem hr
        omega
      · exact ev_bV (g_opN rfl (g_opN rfl rfl ixO0) lf_nes)
    rw [show (rs.map fun r => dN (r.filter fun x => !decide (x = t))) = (rs.map fun r => r.filter fun x => !decide (x = t)).map dN by rw [List.map_map]; rfl, step_filter hbar]
    have hs3 : ∀ r ∈ rs.map (takeH t), ∀ x ∈ r, PyData.strOk x = true := by
      rw [← step_filter hbar]
      intro r hr x hx
      obtain ⟨r', hr', rfl⟩ := List.mem_map.mp hr
      exact hs2 r' hr' x (List.mem_filter.mp hx).1
    walk_at "pw"
    refine x_nl (gLc_some (giL_ol rfl) (by rw [List.length_map, List.length_map]; omega) (comps_filter (enc := dN) (f := dN) (p := fun r => !r.isEmpty) fun r hr => ⟨_, rfl, b_op rfl rfl (neD_nil (hs3 r hr)), fun _ => rfl⟩)) fun a5 => ?_
    rw [full_filter]
    walk_at "pw"
    refine ⟨_, hlt, a5, stepR rs t, acc ++ [t], _, _, _, _, _, by rw [List.map_append]; rfl, full_ne, ?_, rfl, ?_, fun r hr => hs3 r (List.mem_filter.mp hr).1, fun l h => ?_, fun e h => ?_⟩
    · refine Nat.le_trans (full_len _) ?_
      rw [List.length_map]
      exact hl2
    · rw [List.length_append]
      show acc.length + 1 + _ ≤ _
      omega
    · rw [mergeN_more (tot (stepR rs t) + 1) (tot rs) (stepR rs t) (by omega) hlt] at h
      dsimp only at em
      rw [h] at em
      rw [List.append_assoc]
      exact hok _ em
    · rw [mergeN_more (tot (stepR rs t) + 1) (tot rs) (stepR rs t) (by omega) hlt] at h
      dsimp only at em
      rw [h] at em
      exact her _ em

theorem DoneD.len {dn : List (Key × D)} {B : Str → Names} {ρ : Str → Nat} {dom : Names} (h : DoneD dn B ρ dom) : dn.length ≤ dom.length := by
  have e := nodup_le h.nd h.key
  rw [List.length_map, List.length_map] at e
  exact e
theorem dfind_not {kvs : List (Key × D)} {k : Key} (h : dfind kvs k = none) : ∀ kv ∈ kvs, kv.1 ≠ k := by
  unfold dfind at h
  intro kv hkv e
  have := List.find?_eq_none.mp (Option.map_eq_none_iff.mp h) kv hkv
  exact this (decide_eq_true e)
theorem DoneD.put {dn : List (Key × D)} {B : Str → Names} {ρ : Str → Nat} {dom : Names} (h : DoneD dn B ρ dom) {x : Str} {l : Names} (hx : x ∈ dom) (hn : dfind dn (.inr x) = none) (hl : linR B ρ x = .ok l) : DoneD (putD dn (.inr x) (dN l)) B ρ dom := by
  have nk := dfind_not hn
  have e := putD_new (d := dN l) nk
  refine ⟨?_, ?_, fun y v hv => ?_⟩
  · rw [e, List.map_append]
    refine (List.nodup_append.mpr ⟨h.nd, ?_, ?_⟩)
    · exact List.nodup_cons.mpr ⟨fun z => (by cases z), List.nodup_nil⟩
    · intro a ha b hb z
      rw [List.map_singleton, List.mem_singleton] at hb
      subst z
      rw [hb] at ha
      obtain ⟨kv, hkv, e2⟩ := List.mem_map.mp ha
      exact nk kv hkv e2
  · rw [e, List.map_append]
    intro k hk
    rcases List.mem_append.mp hk with hk | hk
    · exact h.key k hk
    · rw [List.map_singleton, List.mem_singleton] at hk
      rw [hk]
      exact List.mem_map.mpr ⟨x, hx, rfl⟩
  · rw [dfind_put] at hv
    by_cases hy : (Sum.inr y : Key) = .inr x
    · rw [if_pos hy] at hv
      cases hv
      cases hy
      exact ⟨hx, l, rfl, hl⟩
    · rw [if_neg hy] at hv
      exact h.val y v hv
theorem distF_ne {acc : Names} : ∀ {xs : Names}, acc ≠ [] → distF acc xs ≠ []
  | [], h => h
  | x :: xs, h => by
    unfold distF
    refine distF_ne ?_
    split
    · exact h
    · intro z
      have := congrArg List.length z
      rw [List.length_append] at this
      simp at this
theorem mergeN_ne : ∀ {n : Nat} {rows : List Names} {e : Names}, (∀ r ∈ rows, r ≠ []) → mergeN n rows = .error e → e ≠ []
  | 0, _, _, _, h => by cases h
  | n + 1, rows, e, hne, h => by
    unfold mergeN at h
    split at h
    · cases h
    · rename_i h0
      split at h
      · cases h
        cases rows with
        | nil => exact absurd rfl h0
        | cons r rs =>
          cases r with
          | nil => exact absurd rfl (hne _ List.mem_cons_self)
          | cons x q =>
            show distF _ (heads rs) ≠ []
            exact distF_ne (by rw [if_neg (by intro z; cases z)]; intro z; cases z)
      · split at h
        · cases h
        · rename_i e2
          cases h
          exact mergeN_ne full_ne e2
theorem merge_ne {rows : List Names} {e : Names} (h : merge rows = .error e) : e ≠ [] := mergeN_ne full_ne h
theorem tot_le {k : Nat} : ∀ (l : List Names), (∀ r ∈ l, r.length ≤ k) → tot l ≤ l.length * k := by
  intro l
  induction l with
  | nil => exact fun _ => Nat.zero_le _
  | cons r q ih =>
    intro h
    have h2 := h r List.mem_cons_self
    have h3 := ih fun z hz => h z (List.mem_cons_of_mem _ hz)
    unfold tot at *
    rw [List.map_cons, List.sum_cons, List.length_cons, Nat.succ_mul]
    omega
theorem neD_isN {hs : Names} (h : ∀ x ∈ hs, PyData.strOk x = true) {r : Sl} (hr : isN r hs) : ∃ n, (match r with | .fz d => some (N.f d) | .ow n => some n | .cu _ _ => none) = some n ∧ neD n.toD (.lst []) = some (.bl (!hs.isEmpty)) := by
  rcases hr with rfl | ⟨v, rfl⟩
  · exact ⟨_, rfl, neD_nil h⟩
  · exact ⟨_, rfl, by rw [ol_toD]; exact neD_nil h⟩

theorem pure__law_place {K : PySem.W.Frag} (n : Nat) (ss : List Sl) (q : Sl → List Sl → Prop) (w : Str → List (Str × D) → List Sl → Prop) (hC : CPlace (n + 1) ss q w) : f__law_place K n (env0 6 ss) (endsP ss q w) := by
  unfold f__law_place
  obtain ⟨kvs, B, ρ, dom, x, a, dn, rfl, tb, dag, sk, hx, hr, hdn, hxn, hq⟩ := hC
  walk_at "e0"
  walk_at "pw"
  refine x_dp (g_opN rfl rfl (lf_dgetF (tb.ex x hx))) ?_
  walk_at "pw"
  refine ⟨_, rfl, ?_⟩
  refine ⟨fun i env => ∃ (dn' : List (Key × D)) (y3 y4 : Option Sl), env = [some (.fz (.dic kvs)), some (.fz (.str x)), some (.ow (od a dn')), y3, y4, none] ∧ DoneD dn' B ρ dom ∧ GrowsD dn dn' ∧ UnderD dn dn' ρ (ρ x) ∧ dfind dn' (.inr x) = none ∧ ∀ y ∈ (B x).take i, ∃ v, dfind dn' (.inr y) = some v,
    ⟨dn, none, none, rfl, hdn, fun _ _ z => z, fun _ _ z => .inl z, hxn, fun _ z => by cases z⟩, ?_, ?_⟩
  · rintro i d _ hd ⟨dn', y3, y4, rfl, hd1, hg1, hu1, hx1, hall⟩
    obtain ⟨y, hy, rfl⟩ := map_get hd
    obtain ⟨hyd, hyr⟩ := dag.sub x hx y (List.mem_of_getElem? hy)
    refine ⟨_, rfl, ?_⟩
    walk_at "pw"
    cases hv : dfind dn' (.inr y) with
    | some v =>
      refine iteF ?_
      walk_at "pw"
      refine ⟨dn', _, _, rfl, hd1, hg1, hu1, hx1, fun z hz => ?_⟩
      rw [take_snoc hy] at hz
      rcases List.mem_append.mp hz with hz | hz
      · exact hall z hz
      · rw [List.mem_singleton.mp hz]
        exact ⟨v, hv⟩
    | none =>
    refine iteT ?_
    walk_at "pw"
    refine x_call0 ?_
    walk_at "pw"
    refine x_ar rfl rfl rfl ⟨kvs, B, ρ, dom, y, a, dn', rfl, tb, dag, sk, hyd, by omega, hd1, hv, fun r dn2 hd2 hg2 hu2 hres => ?_⟩
    refine x_st (env2 := [some (.fz (.dic kvs)), some (.fz (.str x)), some (.ow (od a dn2)), some (.fz (.str y)), some (r), none]) rfl rfl ?_
    with_reducible refine s_if ?_
    have hg : GrowsD dn dn2 := fun z v h => hg2 z v (hg1 z v h)
    have hu : UnderD dn dn2 ρ (ρ x) := fun z v h => by
      rcases hu2 z v h with h | h
      · exact hu1 z v h
      · exact .inr (by omega)
    have hx2 : dfind dn2 (.inr x) = none := by
      cases e : dfind dn2 (.inr x) with
      | none => rfl
      | some v =>
        rcases hu2 x v e with h | h
        · rw [hx1] at h
          cases h
        · omega
    rcases hres with ⟨l, hl, hn, hv2⟩ | ⟨e, he, hne, hn⟩
    · have hc : (bV (gOp (fOp neD) (gVar 4) (gFz (gArgs mkL [])))) [some (.fz (.dic kvs)), some (.fz (.str x)), some (.ow (od a dn2)), some (.fz (.str y)), some (r), none] = some false := by
        rcases hn with rfl | ⟨v, rfl⟩
        · exact b_op rfl rfl (neD_nil (l := []) fun _ z => by cases z)
        · exact b_op rfl rfl (by rw [ol_toD]; exact neD_nil (l := []) fun _ z => by cases z)
      refine t_p hc ?_
      refine iteF ?_
      walk_at "pw"
      refine ⟨dn2, _, _, rfl, hd2, hg, hu, hx2, fun z hz => ?_⟩
      rw [take_snoc hy] at hz
      rcases List.mem_append.mp hz with hz | hz
      · obtain ⟨v, hv⟩ := hall z hz
        exact ⟨v, hg2 z v hv⟩
      · rw [List.mem_singleton.mp hz]
        exact ⟨_, hv2⟩
    · have hse : ∀ z ∈ e, PyData.strOk z = true := fun z hz => sk z ((told_in dag hyd).2 e he z hz)
      have hc : (bV (gOp (fOp neD) (gVar 4) (gFz (gArgs mkL [])))) [some (.fz (.dic kvs)), some (.fz (.str x)), some (.ow (od a dn2)), some (.fz (.str y)), some (r), none] = some (!e.isEmpty) := by
        rcases hn with rfl | ⟨v, rfl⟩
        · exact b_op rfl rfl (neD_nil hse)
        · exact b_op rfl rfl (by rw [ol_toD]; exact neD_nil hse)
      refine t_p hc ?_
      refine ite2 (fun _ => ?_) (fun h => absurd (by cases e with | nil => exact absurd rfl hne | cons _ _ => rfl) h)
      have hlin : linR B ρ x = .error e := by
        rw [linR_eq dag hx, linAll_err hy (fun z hz => ?_) he]
        obtain ⟨v, hv⟩ := hall z hz
        obtain ⟨_, l, _, h2⟩ := hd1.val z v hv
        exact ⟨l, h2⟩
      have fin : ∀ r', isN r' e → q r' [.fz (.dic kvs), .fz (.str x), .ow (od a dn2)] := fun r' hr' => hq r' dn2 hd2 hg hu (.inr ⟨e, hlin, hne, hr'⟩)
      rcases hn with rfl | ⟨v, rfl⟩
      · walk_at "pw"
        exact ⟨⟨⟨_, _, rfl, rfl, rfl⟩, trivial⟩, fin _ (.inl rfl)⟩
      · walk_at "pw"
        exact ⟨⟨⟨_, _, rfl, rfl, rfl⟩, trivial⟩, fin _ (.inl rfl)⟩
  · rintro _ ⟨dn1, y3, y4, rfl, hd1, hg1, hu1, hx1, hall⟩
    rw [List.length_map, List.take_length] at hall
    obtain ⟨g, hgok⟩ : ∃ g : Str → Names, ∀ y ∈ B x, linR B ρ y = .ok (g y) := by
      refine ⟨fun y => match linR B ρ y with
        | .ok l => l
        | .error _ => [], fun y hy => ?_⟩
      obtain ⟨v, hv⟩ := hall y hy
      obtain ⟨_, l, _, h2⟩ := hd1.val y v hv
      simp only [h2]
    have hla := linAll_ok hgok
    have heq := linR_eq dag hx
    rw [hla] at heq
    dsimp only at heq
    have few := tb.few x hx
    have sm := tb.sm
    have glen : ∀ y ∈ B x, (g y).length ≤ 30 := fun y hy => Nat.le_trans (linR_len dag (dag.sub x hx y hy).1 (hgok y hy)) tb.sm
    have hgv : ∀ y ∈ B x, dfind dn1 (.inr y) = some (dN (g y)) := fun y hy => by
      obtain ⟨v, hv⟩ := hall y hy
      obtain ⟨_, l, rfl, h2⟩ := hd1.val y v hv
      rw [hgok y hy] at h2
      cases h2
      exact hv
    have hBx := tb.ex x hx
    walk_at "pw"
    refine x_call0 ?_
    walk_at "pw"
    refine x_nl (ds := (((B x).map g) ++ [B x]).map dN) ?_ fun a2 => ?_
    · refine (g_opN (x := .f (.lst ((B x).map fun y => dN (g y)))) (y := .f (.lst [dN (B x)])) (gFz_some (gLc_some (ds := (B x).map D.str) (giL_f ?_) ?_ (comps_map (enc := D.str) (f := fun y => dN (g y)) fun y hy => ⟨_, rfl, rfl, ?_⟩))) (gFz_some (ev_a1 (x := .f (dN (B x))) ?_ (lf_lst rfl rfl))) (lf_gcat rfl rfl ?_)).trans ?_
      · exact g_opN (x := .f (.dic kvs)) (y := .f (.str x)) rfl rfl (lf_dgetF hBx)
      · rw [List.length_map]
        omega
      · exact g_opN (x := od a dn1) (y := .f (.str y)) rfl rfl (lf_dget (hgv y hy))
      · exact g_opN (x := .f (.dic kvs)) (y := .f (.str x)) rfl rfl (lf_dgetF hBx)
      · rw [List.length_map]
        show _ + 1 ≤ _
        omega
      · rw [List.map_append, List.map_map]
        rfl
    walk_at "pw"
    have hrl : (((B x).map g) ++ [B x]).length ≤ 11 := by
      rw [List.length_append, List.length_map]
      show _ + 1 ≤ _
      omega
    have h30 : ∀ r ∈ ((B x).map g) ++ [B x], r.length ≤ 30 := fun r hr => by
      rcases List.mem_append.mp hr with hr | hr
      · obtain ⟨y, hy, rfl⟩ := List.mem_map.mp hr
        exact glen y hy
      · rw [List.mem_singleton.mp hr]
        omega
    have hsk : ∀ r ∈ ((B x).map g) ++ [B x], ∀ z ∈ r, PyData.strOk z = true := fun r hr z hz => by
      rcases List.mem_append.mp hr with hr | hr
      · obtain ⟨y, hy, rfl⟩ := List.mem_map.mp hr
        exact sk z ((told_in dag (dag.sub x hx y hy).1).1 _ (hgok y hy) z hz)
      · rw [List.mem_singleton.mp hr] at hz
        exact sk z (dag.sub x hx z hz).1
    refine x_ar rfl rfl rfl ⟨_, rfl, by omega, by have := tot_le _ h30; omega, hsk, ?_⟩
    cases hm : merge (((B x).map g) ++ [B x]) with
    | error e =>
      rw [hm] at heq
      walk_at "pw"
      refine iteT ?_
      walk_at "pw"
      exact ⟨⟨⟨_, _, rfl, rfl, rfl⟩, trivial⟩, hq _ dn1 hd1 hg1 hu1 (.inr ⟨e, heq, merge_ne hm, .inl rfl⟩)⟩
    | ok m =>
      rw [hm] at heq
      dsimp only at heq
      have hml : (x :: m).length ≤ 30 := Nat.le_trans (linR_len dag hx heq) tb.sm
      rw [List.length_cons] at hml
      walk_at "pw"
      refine iteF ?_
      walk_at "pw"
      refine x_nl (ds := (x :: m).map D.str) ?_ fun a3 => ?_
      · exact g_opN (x := .f (.lst [.str x])) (y := .f (dN m)) rfl rfl (lf_gcat (ds := [.str x]) (es := m.map D.str) rfl rfl (by rw [List.length_map]; show 1 + _ ≤ _; omega))
      walk_at "pw"
      refine ⟨⟨_, rfl⟩, ?_⟩
      walk_at "pw"
      have dl := hd1.len
      refine x_dput2 rfl rfl (small1000 (by omega)) ?_
      try walk_at "ns"
      walk_at "pw"
      refine ⟨⟨⟨_, _, rfl, rfl, rfl⟩, trivial⟩, hq _ _ (hd1.put (l := x :: m) hx hx1 heq) (fun z v h => ?_) (fun z v h => ?_) (.inl ⟨x :: m, heq, .inr ⟨_, rfl⟩, ?_⟩)⟩
      · rw [dfind_put, if_neg]
        · exact hg1 z v h
        · intro e
          cases e
          rw [hxn] at h
          cases h
      · rw [dfind_put] at h
        by_cases e : (Sum.inr z : Key) = .inr x
        · cases e
          exact .inr (Nat.le_refl _)
        · rw [if_neg e] at h
          exact hu1 z v h
      · rw [dfind_put, if_pos rfl]
        try rfl

theorem ok__law_draw_P (T : Tx K mg) (hP : PF P) : Ok1 P w K mg base "_law_draw" 1 (spP K 2 CDraw) := Ok1.imp (ok__law_draw T hP) fun _ _ _ _ h => draw_sp h
theorem ok__law_source_P (T : Tx K mg) (hP : PF P) : Ok1 P w K mg base "_law_source" 1 (spP K 1 (CSource K)) := Ok1.imp (ok__law_source T hP) fun _ _ _ _ h => source_sp h
theorem rpAll_strs_inv {F : Hp} : ∀ {l : Names} {vs : List V}, RpAll K F vs (l.map D.str) → vs = l.map V.str
  | [], _, .nil => rfl
  | x :: l, _, .cons a t => by
    cases a
    rw [rpAll_strs_inv t]
    rfl
theorem tab_at {F : Hp} {b : Addr} {vs : List (Key × V)} {kvs : List (Key × D)} {B : Str → Names} {dom : Names} (h : TabD kvs B dom) (hb : F b = some (.dK vs)) (r : RpDic K F vs kvs) : TabAt K F b B dom := by
  refine ⟨⟨vs, hb, fun x hx => ?_⟩, h.sm, h.few⟩
  rcases rpDic_find (k := .inr x) r with ⟨_, e2⟩ | ⟨v, d, e1, e2, rv⟩
  · rw [h.ex x hx] at e2
    cases e2
  · rw [h.ex x hx] at e2
    cases e2
    obtain ⟨l, us, rfl, hl, ra⟩ := rp_lst rv
    have e := rpAll_strs_inv ra
    subst e
    exact ⟨l, e1, SqL.of hl⟩
theorem asked_sp {vs : List V} {H : Hp} {Q : VK} {E : XK} (h : spP K 2 CAsked vs H Q E) : spAsked K vs H Q E := by
  obtain ⟨ss, F, Ms, M0, q, w, _, sa, o, ⟨kvs, B, ρ, dom, x, rfl, tb, dag, hx, hr, hq⟩, kq, _⟩ := h
  cases sa with
  | cons a1 t =>
    cases t with
    | cons a2 t =>
      cases t
      obtain ⟨rfl, a1⟩ := a1
      obtain ⟨rfl, a2⟩ := a2
      have b1 := a1
      cases a2
      cases a1 with
      | dic hb r =>
        refine ⟨_, _, rfl, _, B, ρ, dom, x, F, M0, rfl, rfl, tab_at tb hb r, dag, hx, hr, o, fun t rr F' H' s' ht o' => ?_⟩
        refine kq _ _ (.ref t) [(rr, .lst ((resV (linR B ρ x)).2.map V.str))] _ ([] ++ ([] ++ [])) H' (hq t rr) s' ?_ (.cons ⟨rfl, b1.mono s'⟩ (.cons ⟨rfl, .str x⟩ .nil)) o'
        exact Ow.tup ht (OwAll.cons (S := []) (T := [(rr, .lst ((resV (linR B ρ x)).2.map V.str))]) (.f (.bl _)) (OwAll.cons (S := [(rr, .lst ((resV (linR B ρ x)).2.map V.str))]) (T := []) (Ow.lst (S := []) (owAll_f (rpAll_strs _))) .nil))
theorem ok__law_asked_P (T : Tx K mg) (hP : PF P) : Ok1 P w K mg base "_law_asked" 26 (spP K 2 CAsked) := Ok1.imp (ok__law_asked T hP) fun _ _ _ _ h => asked_sp h
theorem ok__law_merge_or_heads (T : Tx K mg) (hP : PF P) : Ok1 P w K mg base "_law_merge_or_heads" 1 (spP K 1 CMoh) := by
  obtain ⟨fd, F⟩ := T.F__law_merge_or_heads

  refine ok1_of F T.g__law_merge_or_heads sc__law_merge_or_heads (fun vs H Q E h => spP_len h) (fun _ _ _ _ _ _ us hl => match us, hl with | [_], _ => rfl) (fun cdv A outer s H vs Q E hr h => ?_)
  exact ⟨_, (by exact (pps_cons (pp_set (i := 1) sc__law_merge_or_heads.nd rfl (.inl rfl) (px_n (pn_lst pas_nil)))
      (pps_cons (pp_set (i := 0) sc__law_merge_or_heads.nd rfl (.inr rfl) (px_n (pn_lc (own := [("_law_row", 4)]) (by rfl) sc__law_merge_or_heads.nd (pit_l (pd_var (pv 0))) (blkOk_by (own := [("_law_row", 4)]) (N := n__law_merge_or_heads) (sc := defScope s__law_merge_or_heads) (by decide +kernel)) (by decide) (fun _ _ _ _ _ => (ptg_n (pg_name (i := 4) sc__law_merge_or_heads.nd rfl (.inl rfl)))) (fun _ _ _ _ _ => by exact (pbs_one (pb_ne hr.units (pd_var (pv 4)) (pn_pd (pn_lst pas_nil))))) (fun _ _ _ _ _ => by exact (pd_var (pv 4))))))
      (pps_cons (pp_while PassesOwn.never (pxt_p (pb_ne hr.units (pd_var (pv 0)) (pn_pd (pn_lst pas_nil))))
      (pps_cons (pp_set (i := 2) sc__law_merge_or_heads.nd rfl (.inr rfl) (px_n (pn_lc (own := [("_law_row", 4)]) (by rfl) sc__law_merge_or_heads.nd (pit_l (pd_var (pv 0))) (blkOk_by (own := [("_law_row", 4)]) (N := n__law_merge_or_heads) (sc := defScope s__law_merge_or_heads) (by decide +kernel)) (by decide) (fun _ _ _ _ _ => (ptg_n (pg_name (i := 4) sc__law_merge_or_heads.nd rfl (.inr rfl)))) (fun _ _ _ _ _ => by exact (pbs_one (pb_nin pd_bl (pn_pd (pn_lc (own := [("_law_other", 5)]) (by rfl) sc__law_merge_or_heads.nd (pit_l (pd_var (pv 0))) (blkOk_by (own := [("_law_other", 5)]) (by rfl)) (by decide) (fun _ _ _ _ _ => (ptg_n (pg_name (i := 5) sc__law_merge_or_heads.nd rfl (.inl rfl)))) (fun _ _ _ _ _ => by exact pbs_nil) (fun _ _ _ _ _ => by exact (pd_in (pd_idx (pd_var (pv 4)) pd_int (fun _ _ => rfl)) (pn_pd (pn_sl (pd_var (pv 5)) (po_s pd_int) po_n))))))))) (fun _ _ _ _ _ => by exact (pd_idx (pd_var (pv 4)) pd_int (fun _ _ => rfl))))))
      (pps_cons (pp_if (pxt_p (pb_eq hr.units (pd_var (pv 2)) (pn_pd (pn_lst pas_nil)))) (pps_cons (pp_set (i := 3) sc__law_merge_or_heads.nd rfl (.inl rfl) (px_n (pn_lst pas_nil)))
      (pps_fz 0 (pps_cons (pp_for PassesOwn.never rfl (pix_l (px_p (pd_var (pv 0)))) (ptg_n (pg_name (i := 4) sc__law_merge_or_heads.nd rfl (.inl rfl)))
      (pps_one (pp_if (pxt_p (pb_nin (pd_idx (pd_var (pv 4)) pd_int (fun _ _ => rfl)) (pd_var (pv 3)))) (pps_one (pp_drop (px_app (pe_bm PySem.F.plainAttrs_list PySem.F.slot_list_append PySem.F.type_list_append mt_append (pv 3) (pa_cons ((px_p (pd_idx (pd_var (pv 4)) pd_int (fun _ _ => rfl))) rfl) pa_nil))))) pps_nil)))
      (pps_fz 3 (pps_one (pp_ret (px_p (pd_tup (pas_cons pd_bl (pas_cons (pd_var (pv 3)) pas_nil)))))))))) pps_nil)
      (pps_cons (pp_drop (px_app (pe_bm PySem.F.plainAttrs_list PySem.F.slot_list_append PySem.F.type_list_append mt_append (pv 1) (pa_cons ((px_p (pd_idx (pd_var (pv 2)) pd_int (fun _ _ => rfl))) rfl) pa_nil))))
      (pps_cons (pp_set (i := 0) sc__law_merge_or_heads.nd rfl (.inr rfl) (px_n (pn_lc (own := [("_law_row", 4)]) (by rfl) sc__law_merge_or_heads.nd (pit_l (pd_var (pv 0))) (blkOk_by (own := [("_law_row", 4)]) (N := n__law_merge_or_heads) (sc := defScope s__law_merge_or_heads) (by decide +kernel)) (by decide) (fun _ _ _ _ _ => (ptg_n (pg_name (i := 4) sc__law_merge_or_heads.nd rfl (.inl rfl)))) (fun _ _ _ _ _ => by exact pbs_nil) (fun _ _ _ _ _ => by exact (pn_pd (pn_lc (own := [("_law_name", 6)]) (by rfl) sc__law_merge_or_heads.nd (pit_l (pd_var (pv 4))) (blkOk_by (own := [("_law_name", 6)]) (by rfl)) (by decide) (fun _ _ _ _ _ => (ptg_n (pg_name (i := 6) sc__law_merge_or_heads.nd rfl (.inl rfl)))) (fun _ _ _ _ _ => by exact (pbs_one (pb_ne hr.units (pd_var (pv 6)) (pd_idx (pd_var (pv 2)) pd_int (fun _ _ => rfl))))) (fun _ _ _ _ _ => by exact (pd_var (pv 6)))))))))
      (pps_one (pp_set (i := 0) sc__law_merge_or_heads.nd rfl (.inr rfl) (px_n (pn_lc (own := [("_law_row", 4)]) (by rfl) sc__law_merge_or_heads.nd (pit_l (pd_var (pv 0))) (blkOk_by (own := [("_law_row", 4)]) (N := n__law_merge_or_heads) (sc := defScope s__law_merge_or_heads) (by decide +kernel)) (by decide) (fun _ _ _ _ _ => (ptg_n (pg_name (i := 4) sc__law_merge_or_heads.nd rfl (.inl rfl)))) (fun _ _ _ _ _ => by exact (pbs_one (pb_ne hr.units (pd_var (pv 4)) (pn_pd (pn_lst pas_nil))))) (fun _ _ _ _ _ => by exact (pd_var (pv 4))))))))))))
      (pps_fz 1 (pps_one (pp_ret (px_p (pd_tup (pas_cons pd_bl (pas_cons (pd_var (pv 1)) pas_nil)))))))))) : PPs _ K WF _ (f__law_merge_or_heads K)) rfl, body_of (N := n__law_merge_or_heads) (fun _ _ _ _ z => z) (spP_nox (fun _ _ _ h => h) h) fun ss q w hn hC => pure__law_merge_or_heads ss q w hC⟩

theorem step__law_place (T : Tx K mg) (hP : PF P) {n : Nat} (G__law_place : Ok1 P w K mg base "_law_place" (2 + n) (spP K 3 (CPlace n))) : Ok1 P w K mg base "_law_place" (2 + n + 1) (spP K 3 (CPlace (n + 1))) := by
  obtain ⟨fd, F⟩ := T.F__law_place
  have G__law_merge_or_heads := ok__law_merge_or_heads (P := P) (w := w) (base := base) T hP
  refine ok1_of F T.g__law_place sc__law_place (fun vs H Q E h => spP_len h) (fun _ _ _ _ _ _ us hl => match us, hl with | [_, _, _], _ => rfl) (fun cdv A outer s H vs Q E hr h => ?_)
  exact ⟨_, (by exact (pps_fz 0 (pps_cons (pp_for PassesOwn.never rfl (pix_l (px_p (pd_dget (hu_of hr) (pd_var (pv 0)) (pd_var (pv 1)) (fun _ _ => rfl)))) (ptg_n (pg_name (i := 3) sc__law_place.nd rfl (.inl rfl)))
      (pps_one (pp_if (pxt_p (pb_dnin (hu_of hr) (pd_var (pv 3)) (pd_var (pv 2)))) (pps_fz 0 (pps_cons (pp_set (i := 4) sc__law_place.nd rfl (.inl rfl) (px_call0 G__law_place (hr.mono (by omega)) (by rfl) (pax_v (px_p (pd_var (pv 0))) (pax_v (px_p (pd_var (pv 3))) (pax_b (pv 2) pax_nil)))))
      (pps_one (pp_if (pxt_p (pb_ne hr.units (pd_var (pv 4)) (pn_pd (pn_lst pas_nil)))) (pps_fz 4 (pps_one (pp_ret (px_p (pd_var (pv 4)))))) pps_nil)))) pps_nil)))
      (pps_cons (pp_set (i := 5) sc__law_place.nd rfl (.inl rfl) (px_call0 G__law_merge_or_heads (hr.mono (by omega)) (by rfl) (pax_v (px_n (pn_cat (pn_pd (pn_lc (own := [("_law_base", 3)]) (by rfl) sc__law_place.nd (pit_l (pd_dget (hu_of hr) (pd_var (pv 0)) (pd_var (pv 1)) (fun _ _ => rfl))) (blkOk_by (own := [("_law_base", 3)]) (N := n__law_place) (sc := defScope s__law_place) (by decide +kernel)) (by decide) (fun _ _ _ _ _ => (ptg_n (pg_name (i := 3) sc__law_place.nd rfl (.inl rfl)))) (fun _ _ _ _ _ => by exact pbs_nil) (fun _ _ _ _ _ => by exact (pd_dget (hu_of hr) (pd_var (pv 2)) (pd_var (pv 3)) (fun _ _ => rfl))))) (pn_pd (pn_lst (pas_cons (pd_dget (hu_of hr) (pd_var (pv 0)) (pd_var (pv 1)) (fun _ _ => rfl)) pas_nil))))) pax_nil)))
      (pps_cons (pp_if (pxt_p (pb_not (pb_val (pd_idx (pd_var (pv 5)) pd_int (fun _ _ => rfl))))) (pps_one (pp_ret (px_p (pd_idx (pd_var (pv 5)) pd_int (fun _ _ => rfl))))) pps_nil)
      (pps_cons (pp_dput (ps_dput (hu_of hr) (pv 2) ((px_p (pd_var (pv 1))) rfl) ((px_n (pn_cat (pn_pd (pn_lst (pas_cons (pd_var (pv 1)) pas_nil))) (pd_idx (pd_var (pv 5)) pd_int (fun _ _ => rfl)))) rfl) rfl))
      (pps_one (pp_ret (px_n (pn_lst pas_nil))))))))) : PPs _ K WF _ (f__law_place K n)) rfl, body_of (N := n__law_place) (fun _ _ _ _ z => z) (spP_nox (fun _ _ _ h => h) h) fun ss q w hn hC => pure__law_place n ss q w hC⟩
theorem ok__law_place_n (T : Tx K mg) (hP : PF P) : ∀ n, Ok1 P w K mg base "_law_place" (2 + n) (spP K 3 (CPlace n))
  | 0 => by
    obtain ⟨fd, F⟩ := T.F__law_place
    exact ⟨_, T.g__law_place, F.kp, fun A outer s H us vs Q E hr e0 r h => absurd h (spP_no fun ss q w z => no__law_place z)⟩
  | n + 1 => step__law_place T hP (ok__law_place_n T hP n)
theorem ok__law_place (T : Tx K mg) (hP : PF P) : Ok1 P w K mg base "_law_place" 22 (spP K 3 (CPlace 20)) := ok__law_place_n T hP 20


/-- the names drawn: a letter and the number, the fourth one empty -/
def NmOk (rs : List RW) : Prop := ∀ i r, rs[i]? = some r → (i ≠ 3 ∧ ∃ c : Str, c.length = 1 ∧ r.1 = numS c i) ∨ (i = 3 ∧ r.1 = ⟨#[]⟩)
def isNm (i : Nat) (x : Str) : Prop := ((i ≠ 3 ∧ ∃ c : Str, c.length = 1 ∧ x = numS c i) ∨ (i = 3 ∧ x = ⟨#[]⟩)) ∧ PyData.strOk x = true ∧ x.length ≤ 4
theorem numS_pos {c : Str} {i : Nat} (hc : c.length = 1) : numS c i ≠ ⟨#[]⟩ := fun e => by
  have e1 : (numS c i).length = c.length + (Str.ofString (toString (i : Int))).length := Array.size_append
  rw [e] at e1
  have e2 : (⟨#[]⟩ : Str).length = 0 := rfl
  omega
theorem NmOk.new {rs : List RW} (h : NmOk rs) (hl : rs.length < 16) {x : Str} (hx : isNm rs.length x) : x ∉ namesOf rs := fun hm => by
  obtain ⟨r, hr, rfl⟩ := List.mem_map.mp hm
  obtain ⟨j, hj⟩ := List.getElem?_of_mem hr
  have lj := (List.getElem?_eq_some_iff.mp hj).1
  rcases h j r hj with ⟨hj3, c, hc, e⟩ | ⟨hj3, e⟩
  · rcases hx.1 with ⟨h3, d, hd, e2⟩ | ⟨h3, e2⟩
    · rw [e] at e2
      have := numS_inj (hc.trans hd.symm) (by omega) (by omega) e2
      omega
    · rw [e] at e2
      exact numS_pos hc e2
  · rcases hx.1 with ⟨h3, d, hd, e2⟩ | ⟨h3, e2⟩
    · rw [e] at e2
      exact numS_pos hd e2.symm
    · omega
theorem NmOk.snoc {rs : List RW} (h : NmOk rs) {x : Str} {ch : Names} (hx : isNm rs.length x) : NmOk (rs ++ [(x, ch)]) := fun i r hi => by
  by_cases e : i < rs.length
  · rw [List.getElem?_append_left e] at hi
    exact h i r hi
  · have e2 : i = rs.length := by
      have := (List.getElem?_eq_some_iff.mp hi).1
      rw [List.length_append] at this
      have : i < rs.length + 1 := this
      omega
    subst e2
    rw [List.getElem?_append_right (Nat.le_refl _), Nat.sub_self] at hi
    cases hi
    exact hx.1
/-! dict == of itself -/
theorem putD_nd {kvs : List (Key × D)} {k : Key} {d : D} (h : (kvs.map Prod.fst).Nodup) : ((putD kvs k d).map Prod.fst).Nodup := by
  unfold putD
  split
  · rw [List.map_map, show (Prod.fst ∘ fun kv : Key × D => if kv.1 = k then (kv.1, d) else kv) = Prod.fst from funext fun kv => by show (if kv.1 = k then (kv.1, d) else kv).1 = kv.1; split <;> rfl]
    exact h
  · rename_i hn
    rw [List.map_append]
    refine List.nodup_append.mpr ⟨h, List.nodup_cons.mpr ⟨fun z => (by cases z), List.nodup_nil⟩, fun a ha b hb e => ?_⟩
    rw [List.map_singleton, List.mem_singleton] at hb
    obtain ⟨kv, hkv, e2⟩ := List.mem_map.mp ha
    exact hn (List.any_eq_true.mpr ⟨kv, hkv, decide_eq_true (e2.trans (e.trans hb))⟩)
theorem mergeD_nd : ∀ {more kvs : List (Key × D)}, (kvs.map Prod.fst).Nodup → ((mergeD kvs more).map Prod.fst).Nodup
  | [], _, h => h
  | kv :: more, kvs, h => mergeD_nd (more := more) (kvs := putD kvs kv.1 kv.2) (putD_nd h)
theorem putD_all {Q : D → Prop} {kvs : List (Key × D)} {k : Key} {d : D} (h : ∀ kv ∈ kvs, Q kv.2) (hd : Q d) : ∀ kv ∈ putD kvs k d, Q kv.2 := by
  unfold putD
  split
  · intro kv hkv
    obtain ⟨kv', h', rfl⟩ := List.mem_map.mp hkv
    split
    · exact hd
    · exact h _ h'
  · intro kv hkv
    rcases List.mem_append.mp hkv with hkv | hkv
    · exact h _ hkv
    · rw [List.mem_singleton.mp hkv]
      exact hd
theorem mergeD_all {Q : D → Prop} : ∀ {more kvs : List (Key × D)}, (∀ kv ∈ kvs, Q kv.2) → (∀ kv ∈ more, Q kv.2) → ∀ kv ∈ mergeD kvs more, Q kv.2
  | [], _, h, _ => h
  | kv :: more, kvs, h, hm => mergeD_all (more := more) (kvs := putD kvs kv.1 kv.2) (putD_all h (hm _ List.mem_cons_self)) fun z hz => hm z (List.mem_cons_of_mem _ hz)
theorem dfind_mem : ∀ {kvs : List (Key × D)} {kv : Key × D}, (kvs.map Prod.fst).Nodup → kv ∈ kvs → dfind kvs kv.1 = some kv.2
  | p :: kvs, kv, h, hm => by
    unfold dfind
    rw [List.find?_cons]
    rw [List.map_cons] at h
    obtain ⟨h1, h2⟩ := List.nodup_cons.mp h
    rcases List.mem_cons.mp hm with rfl | hm
    · simp
    · have hne : p.1 ≠ kv.1 := fun e => h1 (e ▸ List.mem_map.mpr ⟨kv, hm, rfl⟩)
      rw [decide_eq_false hne]
      exact dfind_mem h2 hm
theorem hits_self {ls : List (Key × D)} : ∀ {ks : List (Key × D)}, (∀ kv ∈ ks, dfind ls kv.1 = some kv.2 ∧ ∃ l : Names, kv.2 = dN l ∧ ∀ x ∈ l, PyData.strOk x = true) → hitsB ls ks = some true
  | [], _ => rfl
  | (k, d) :: ks, h => by
    obtain ⟨h1, l, e, hl⟩ := h _ List.mem_cons_self
    have e : d = dN l := e
    have h1 : dfind ls k = some d := h1
    subst e
    unfold hitsB
    rw [h1]
    dsimp only
    rw [toP_names, hits_self fun kv hkv => h kv (List.mem_cons_of_mem _ hkv)]
    dsimp only
    rw [if_pos ⟨(shp_strs hl).shaped, (shp_strs hl).shaped⟩, PyData.eqv, eqv_strs]
    rfl
theorem nedD_self {kvs : List (Key × D)} (nd : (kvs.map Prod.fst).Nodup) (h : ∀ kv ∈ kvs, ∃ l : Names, kv.2 = dN l ∧ ∀ x ∈ l, PyData.strOk x = true) : nedD (.dic kvs) (.dic kvs) = some (.bl false) := by
  unfold nedD eqdB
  dsimp only
  rw [hits_self fun kv hkv => ⟨dfind_mem nd hkv, h kv hkv⟩]
  simp
theorem s_cutK {f g : FSt} {env : Env} {e : EP'} (Mid : Env → Prop) (h1 : f env { e with nx := Mid }) (h2 : ∀ env', Mid env' → g env' e) : sCut f g env e := ⟨Mid, h1, h2⟩
theorem empty_str : Str.ofString "" = ⟨#[]⟩ := rfl
theorem cutL_to {α : Type} (l : List α) (k : Nat) : cutL l none (some (k : Int)) = l.take k := by
  unfold cutL
  rw [HT.sIx_nat, HT.sIx_none, Nat.sub_zero, List.drop_zero]
  by_cases h : k ≤ l.length
  · rw [Nat.min_eq_left h]
  · rw [Nat.min_eq_right (by omega), List.take_length, List.take_of_length_le (by omega)]
theorem cutL_last {l : Names} {x : Str} : cutL ((l ++ [x]).map D.str) none (some (-1)) = l.map D.str := by
  rw [cutL_map]
  congr 1
  unfold cutL
  rw [HT.sIx_none, List.drop_zero, Nat.sub_zero]
  have e : HT.sIx (l ++ [x]).length (l ++ [x]).length (some (-1)) = l.length := by
    show (if (-1 : Int) < 0 then ((-1 : Int) + ((l ++ [x]).length : Int)).toNat else min (-1 : Int).toNat (l ++ [x]).length) = _
    rw [if_pos (by omega), List.length_append]
    show ((-1 : Int) + ((l.length + 1 : Nat) : Int)).toNat = _
    omega
  rw [e, List.take_left]
theorem ixO {a : Addr} {l : Names} {i : Int} {x : Str} (h : atI l i = some x) : ixD (ol a (l.map D.str)) (.f (.int i)) = some (.f (.str x)) := by
  show atI ((l.map D.str).map N.f) i = _
  rw [atI_map, atI_map, h]
  rfl
theorem kidsRow (rs : List RW) (r : RW) : dRw r = .tup [.str r.1, dN r.2] := rfl
theorem res_len {rs : List RW} (ok : RowsOk rs) {x : Str} (hx : x ∈ namesOf rs) : (resV (linR (basesOf rs) (rankOf rs) x)).2.length ≤ 16 := by
  have h := told_len ok.dag hx
  have ln : (namesOf rs).length = rs.length := List.length_map _
  have := ok.ln
  cases e : linR (basesOf rs) (rankOf rs) x with
  | ok l =>
    have := h.1 l e
    show l.length ≤ 16
    omega
  | error z =>
    have := h.2 z e
    show z.length ≤ 16
    omega

theorem pure_law {K : PySem.W.Frag} (ss : List Sl) (q : Sl → List Sl → Prop) (w : Str → List (Str × D) → List Sl → Prop) (hC : CLaw K ss q w) : f_law K (env0 20 ss) (endsP ss q w) := by
  unfold f_law
  obtain ⟨a, ns, rfl, hl, hq⟩ := hC
  walk_at "e0"
  walk_at "pw"
  refine x_source rfl hl fun sa => ?_
  walk_at "pw"
  rename_i A R
  refine x_draw rfl rfl (by decide) (by decide) fun n n0 n1 => ?_
  walk_at "pw"
  refine ⟨fun i env => ∃ (rs : List RW) (y4 y5 y6 y7 y8 : Option Sl), env = [some (scr K a ns), some (src sa), some (.ow (ol A ((namesOf rs).map D.str))), some (.ow (ol R (rs.map dRw))), y4, y5, y6, y7, y8, none, none, none, none, none, none, none, none, none, none, none] ∧ RowsOk rs ∧ NmOk rs ∧ rs.length = i, ⟨[], none, none, none, none, none, rfl, RowsOk.nil, fun _ _ z => (by cases z), rfl⟩, ?_, ?_⟩
  · rintro i d _ hd ⟨rs, y4, y5, y6, y7, y8, rfl, ok, nm, hli⟩
    obtain ⟨hi, rfl⟩ := rng_get hd
    have hi9 : i < 14 := by omega
    refine ⟨_, rfl, ?_⟩
    walk_at "pw"
    refine x_draw rfl rfl (by decide) (by decide) fun c c0 c1 => ?_
    obtain ⟨cp, hc, hcm⟩ := atI_lt (xs := (Str.ofString "abcdefgh").cps.toList) c0 (by rw [show (Str.ofString "abcdefgh").cps.toList.length = 8 by decide +kernel]; exact c1)
    have cl : (⟨#[cp]⟩ : Str).length = 1 := rfl
    have n2 : (Str.ofString (toString (i : Int))).length ≤ 2 := num_len ⟨i, by omega⟩
    have si := strI_some (i := i) (by omega)
    have hcp : PyData.strOk (⟨#[cp]⟩ : Str) = true := ok1 (of_decide_eq_true (all_lit (p := fun c => decide (c < 0x110000)) (by decide +kernel) hcm))
    walk_at "pw"
    refine e_ev (ixS_some (by decide +kernel) hc) ?_
    walk_at "pw"
    with_reducible refine s_cutK (fun env => ∃ x, env = [some (scr K a ns), some (src sa), some (.ow (ol A ((namesOf rs).map D.str))), some (.ow (ol R (rs.map dRw))), some (.fz (.int (0 + (i : Int)))), some (.fz (.str x)), y6, y7, y8, none, none, none, none, none, none, none, none, none, none, none] ∧ isNm i x) ?_ ?_
    · walk_at "pw"
      by_cases h3 : i = 3
      · refine ite2 (fun _ => ?_) (fun h => absurd (decide_eq_true (by omega)) h)
        walk_at "pw"
        exact ⟨_, rfl, .inr ⟨h3, empty_str⟩, by decide +kernel, by decide +kernel⟩
      · refine ite2 (fun h => absurd (of_decide_eq_true h) (by omega)) (fun _ => ?_)
        walk_at "pw"
        exact ⟨numS ⟨#[cp]⟩ i, rfl, .inl ⟨h3, _, cl, rfl⟩, numS_ok hcp (by omega), by have := numS_len (c := ⟨#[cp]⟩) (i := i) (by omega); omega⟩
    rintro _ ⟨x, rfl, hx⟩
    walk_at "pw"
    refine x_nl (gLc_some (giL_ol rfl) (by rw [List.length_map]; unfold namesOf; rw [List.length_map]; omega) (comps_map (enc := D.str) (f := D.str) fun r _ => ⟨_, rfl, rfl, rfl⟩)) fun R2 => ?_
    walk_at "pw"
    rename_i R3
    refine x_draw rfl rfl (by decide) (by decide) fun m m0 m1 => ?_
    walk_at "pw"
    refine ⟨fun j env => ∃ (ch rst : Names) (y8 : Option Sl), env = [some (scr K a ns), some (src sa), some (.ow (ol A ((namesOf rs).map D.str))), some (.ow (ol R (rs.map dRw))), some (.fz (.int (0 + (i : Int)))), some (.fz (.str x)), some (.ow (ol R2 (rst.map D.str))), some (.ow (ol R3 (ch.map D.str))), y8, none, none, none, none, none, none, none, none, none, none, none] ∧ ch.length ≤ j ∧ rst.length ≤ 14 ∧ (∀ x ∈ ch, x ∈ namesOf rs) ∧ ∀ x ∈ rst, x ∈ namesOf rs,
      ⟨[], namesOf rs, y8, rfl, Nat.zero_le _, by unfold namesOf; rw [List.length_map]; omega, fun _ z => (by cases z), fun _ z => z⟩, ?_, ?_⟩
    · rintro j d _ hd ⟨ch, rst, z8, rfl, hcl, hrl, hch, hrst⟩
      obtain ⟨hj, rfl⟩ := rng_get hd
      refine ⟨_, rfl, ?_⟩
      walk_at "pw"
      refine t_p (c := !rst.isEmpty) (b_op rfl rfl (by rw [ol_toD]; exact neD_nil fun x hx => (ok.sk x (hrst x hx)).1)) ?_
      cases rst with
      | nil =>
        refine iteF ?_
        walk_at "pw"
        exact ⟨ch, [], _, rfl, by omega, Nat.zero_le _, hch, hrst⟩
      | cons x0 rst =>
        refine iteT ?_
        walk_at "pw"
        have hn : 0 < (x0 :: rst).length := Nat.succ_pos _
        generalize x0 :: rst = rst at *
        refine x_draw rfl (len_ol rfl) (by rw [List.length_map]; omega) (by rw [List.length_map]; omega) fun g g0 g1 => ?_
        rw [List.length_map] at g1
        obtain ⟨gi, rfl⟩ : ∃ gi : Nat, g = (gi : Int) := ⟨g.toNat, by omega⟩
        have hgi : gi < rst.length := by omega
        walk_at "pw"
        refine x_pop2 (j := gi) rfl rfl (by omega) (y := .str rst[gi]) (by rw [List.getElem?_map, List.getElem?_eq_getElem hgi]; rfl) ?_
        try walk_at "ns"
        walk_at "pw"
        refine x_app2 rfl (small1000 (by rw [List.length_map]; omega)) ?_
        try walk_at "ns"
        refine ⟨ch ++ [rst[gi]], rst.eraseIdx gi, _, by rw [erase_map, List.map_append]; rfl, ?_, ?_, ?_, ?_⟩
        · rw [List.length_append]
          show _ + 1 ≤ _
          omega
        · have := List.length_eraseIdx_le rst gi
          omega
        · intro x hx
          rcases List.mem_append.mp hx with hx | hx
          · exact hch x hx
          · rw [List.mem_singleton.mp hx]
            exact hrst _ (List.getElem_mem hgi)
        · exact fun x hx => hrst x (List.mem_of_mem_eraseIdx hx)
    · rintro _ ⟨ch, rst, z8, rfl, hcl, hrl, hch, hrst⟩
      rw [rng_len] at hcl
      walk_at "pw"
      refine x_app2 rfl (small1000 (by rw [List.length_map]; unfold namesOf; rw [List.length_map]; omega)) ?_
      try walk_at "ns"
      walk_at "pw"
      refine x_app2 rfl (small1000 (by rw [List.length_map]; omega)) ?_
      try walk_at "ns"
      subst hli
      exact ⟨rs ++ [(x, ch)], _, _, _, _, _, by unfold namesOf; rw [List.map_append, List.map_append, List.map_append]; rfl, ok.snoc (nm.new (by omega) hx) hx.2.1 hx.2.2 (by omega) (by omega) hch, nm.snoc hx, by rw [List.length_append]; rfl⟩
  · rintro _ ⟨rs, y4, y5, y6, y7, y8, rfl, ok, nm, hli⟩
    have ln := ok.ln
    rw [rng_len] at hli
    walk_at "pw"
    have hpos : 0 < rs.length := by omega
    refine x_draw rfl (len_ol rfl) (by rw [List.length_map]; omega) (by rw [List.length_map]; omega) fun g g0 g1 => ?_
    rw [List.length_map] at g1
    obtain ⟨gi, rfl⟩ : ∃ gi : Nat, g = (gi : Int) := ⟨g.toNat, by omega⟩
    walk_at "pw"
    refine x_draw rfl rfl (by decide) (by decide) fun f f0 f1 => ?_
    walk_at "pw"
    with_reducible refine s_cutK (fun env => ∃ (qs : List RW) (R' : Addr), env = [some (scr K a ns), some (src sa), some (.ow (ol A ((namesOf rs).map D.str))), some (.ow (ol R' (qs.map dRw))), y4, y5, y6, y7, y8, some (.fz (.int gi)), some (.fz (.int f)), none, none, none, none, none, none, none, none, none] ∧ (∀ r, r ∈ qs ↔ r ∈ rs) ∧ qs.length = rs.length) ?_ ?_
    · walk_at "pw"
      by_cases h1 : f = 1
      · refine ite2 (fun _ => ?_) (fun h => absurd (decide_eq_true h1) h)
        walk_at "pw"
        refine x_nl (ds := rs.reverse.map dRw) ?_ fun R' => ?_
        · refine ev_un (x := ol R (rs.map dRw)) rfl ?_
          unfold gRev
          rw [kids_ol, List.map_reverse]
          rfl
        walk_at "pw"
        exact ⟨rs.reverse, R', rfl, fun r => List.mem_reverse, List.length_reverse⟩
      · refine ite2 (fun h => absurd (of_decide_eq_true h) h1) (fun _ => ?_)
        walk_at "pw"
        exact ⟨rs, R, rfl, fun _ => Iff.rfl, rfl⟩
    rintro _ ⟨qs0, R0, rfl, hp0, hl0⟩
    with_reducible refine s_cutK (fun env => ∃ (qs : List RW) (R' : Addr), env = [some (scr K a ns), some (src sa), some (.ow (ol A ((namesOf rs).map D.str))), some (.ow (ol R' (qs.map dRw))), y4, y5, y6, y7, y8, some (.fz (.int gi)), some (.fz (.int f)), none, none, none, none, none, none, none, none, none] ∧ (∀ r, r ∈ qs ↔ r ∈ rs) ∧ qs.length = rs.length) ?_ ?_
    · walk_at "pw"
      by_cases h1 : f = 2
      · refine ite2 (fun _ => ?_) (fun h => absurd (decide_eq_true h1) h)
        walk_at "pw"
        refine x_nl (ds := (qs0.drop gi ++ qs0.take gi).map dRw) ?_ fun R' => ?_
        · refine (g_opN (x := .f (.lst ((qs0.drop gi).map dRw))) (y := .f (.lst ((qs0.take gi).map dRw))) (gFz_some ?_) (gFz_some ?_) (lf_gcat rfl rfl ?_)).trans ?_
          · rw [← cutL_from, ← cutL_map]
            exact ev_sl (n := ol R0 (qs0.map dRw)) rfl (ev_goS rfl) rfl (kids_ol _ _)
          · rw [← cutL_to, ← cutL_map]
            exact ev_sl (n := ol R0 (qs0.map dRw)) rfl rfl (ev_goS rfl) (kids_ol _ _)
          · rw [List.length_map, List.length_map, List.length_drop, List.length_take]
            omega
          · rw [List.map_append]
        walk_at "pw"
        refine ⟨_, R', rfl, fun r => ?_, ?_⟩
        · rw [← hp0 r, List.mem_append, or_comm, ← List.mem_append, List.take_append_drop]
        · rw [List.length_append, List.length_drop, List.length_take]
          omega
      · refine ite2 (fun h => absurd (of_decide_eq_true h) h1) (fun _ => ?_)
        walk_at "pw"
        exact ⟨qs0, R0, rfl, hp0, hl0⟩
    rintro _ ⟨qs, R1, rfl, hp, hlq⟩
    walk_at "pw"
    refine ⟨⟨_, rfl⟩, ?_⟩
    walk_at "pw"
    refine x_draw rfl (len_ol rfl) (by rw [List.length_map]; unfold namesOf; rw [List.length_map]; omega) (by rw [List.length_map]; unfold namesOf; rw [List.length_map]; omega) fun c c0 c1 => ?_
    rw [List.length_map] at c1
    obtain ⟨x, hxa, hx⟩ := atI_lt (xs := namesOf rs) c0 c1
    walk_at "pw"
    refine ⟨_, _, rfl, ixO hxa, ?_⟩
    walk_at "pw"
    rename_i OD
    refine x_call0 ?_
    walk_at "pw"
    refine x_nd (ev_a1 (x := ol R1 (qs.map dRw)) rfl (lf_dict (kids_ol _ _))) fun G0 => ?_
    walk_at "pw"
    have skd : ∀ y ∈ namesOf rs, PyData.strOk y = true := fun y hy => (ok.sk y hy).1
    have tab := ok.tab hp
    refine x_ar rfl rfl rfl ⟨_, basesOf rs, rankOf rs, namesOf rs, x, OD, [], rfl, tab, ok.dag, skd, hx, ok.small hx, ⟨List.nodup_nil, fun _ z => (by cases z), fun _ _ z => (by cases z)⟩, rfl, fun r dn' hd hg hu hres => ?_⟩
    obtain ⟨hs, hn, hhs, hres⟩ : ∃ hs, isN r hs ∧ (∀ y ∈ hs, PyData.strOk y = true) ∧ ((hs = [] ∧ ∃ l, linR (basesOf rs) (rankOf rs) x = .ok l ∧ dfind dn' (.inr x) = some (dN l)) ∨ (hs ≠ [] ∧ linR (basesOf rs) (rankOf rs) x = .error hs)) := by
      rcases hres with ⟨l, h1, h2, h3⟩ | ⟨e, h1, h2, h3⟩
      · exact ⟨[], h2, fun _ z => (by cases z), .inl ⟨rfl, l, h1, h3⟩⟩
      · exact ⟨e, h3, fun y hy => skd y ((told_in ok.dag hx).2 e h1 y hy), .inr ⟨h2, h1⟩⟩
    refine x_st (env2 := [some (scr K a ns), some (src sa), some (.ow (ol A ((namesOf rs).map D.str))), some (.ow (ol R1 (qs.map dRw))), y4, y5, y6, y7, y8, some (.fz (.int gi)), some (.fz (.int f)), some (.fz (.str x)), some (.ow (od OD dn')), some (r), none, none, none, none, none, none]) rfl rfl ?_
    with_reducible refine s_fz2 (env2 := [some (scr K a ns), some (src sa), some (.ow (ol A ((namesOf rs).map D.str))), some (.ow (ol R1 (qs.map dRw))), y4, y5, y6, y7, y8, some (.fz (.int gi)), some (.fz (.int f)), some (.fz (.str x)), some (.ow (od OD dn')), some (.fz (dN hs)), none, none, none, none, none, none]) ?_ ?_
    · rcases hn with rfl | ⟨v, rfl⟩
      · walk_at "nm"
      · walk_at "nm"
    have hin := res_in ok.dag hx
    have hrl := res_len ok hx
    obtain ⟨b, l, hbl⟩ : ∃ b l, resV (linR (basesOf rs) (rankOf rs) x) = (b, l) := ⟨_, _, rfl⟩
    walk_at "pw"
    with_reducible refine s_cutK (fun env => env = [some (scr K a ns), some (src sa), some (.ow (ol A ((namesOf rs).map D.str))), some (.ow (ol R1 (qs.map dRw))), y4, y5, y6, y7, y8, some (.fz (.int gi)), some (.fz (.int f)), some (.fz (.str x)), some (.ow (od OD dn')), some (.fz (dN hs)), some (.fz (.tup [.bl b, dN l])), none, none, none, none, none]) ?_ ?_
    · with_reducible refine s_if ?_
      refine t_p (c := decide (hs = [])) (b_op rfl rfl (eqD_names (m := []) hhs fun _ z => by cases z)) ?_
      rcases hres with ⟨rfl, l', h1, h2⟩ | ⟨h1, h2⟩
      · refine iteT ?_
        rw [h1] at hbl
        cases hbl
        walk_at "pw"
        rfl
      · refine ite2 (fun h => absurd (of_decide_eq_true h) h1) (fun _ => ?_)
        rw [h2] at hbl
        cases hbl
        walk_at "pw"
        rfl
    rintro _ rfl
    rw [hbl] at hin hrl
    dsimp only at hrl
    have hsl : ∀ y ∈ l, PyData.strOk y = true := fun y hy => skd y (hin y hy)
    walk_at "pw"
    refine x_nd (ev_a1 (x := .f (.lst (qs.map dRw))) (gFz_some (gLc_some (giL_ol rfl) (by rw [List.length_map]; omega) (comps_map (enc := dRw) (f := dRw) fun r hr => ⟨_, rfl, rfl, ?_⟩))) (lf_dict rfl)) fun G1 => ?_
    · exact ev_as (ev_cons (g_opN rfl rfl rfl) (ev_cons (gFz_some (ev_a1 (g_opN rfl rfl rfl) rfl)) ev_nil)) (lf_tup rfl rfl)
    have nd : ((mergeD [] (qs.map kvR)).map Prod.fst).Nodup := mergeD_nd List.nodup_nil
    have hall : ∀ kv ∈ mergeD [] (qs.map kvR), ∃ l : Names, kv.2 = dN l ∧ ∀ x ∈ l, PyData.strOk x = true := mergeD_all (Q := fun d => ∃ l : Names, d = dN l ∧ ∀ x ∈ l, PyData.strOk x = true) (fun _ z => by cases z) fun kv hkv => by
      obtain ⟨r, hr, rfl⟩ := List.mem_map.mp hkv
      have hr := (hp r).mp hr
      obtain ⟨j, hj⟩ := List.getElem?_of_mem hr
      refine ⟨r.2, rfl, fun y hy => skd y ?_⟩
      obtain ⟨r', hr', rfl⟩ := List.mem_map.mp ((ok.ch j r hj).2 y hy)
      exact List.mem_map.mpr ⟨r', List.mem_of_mem_take hr', rfl⟩
    generalize hT : mergeD [] (qs.map kvR) = T at *
    walk_at "pw"
    refine x_call0 ?_
    walk_at "pw"
    refine x_ar rfl rfl rfl ⟨_, basesOf rs, rankOf rs, namesOf rs, x, rfl, tab, ok.dag, hx, ok.small hx, fun t r => ?_⟩
    rw [hbl]
    refine x_st (env2 := [some (scr K a ns), some (src sa), some (.ow (ol A ((namesOf rs).map D.str))), some (.ow (ol R1 (qs.map dRw))), y4, y5, y6, y7, y8, some (.fz (.int gi)), some (.fz (.int f)), some (.fz (.str x)), some (.ow (od OD dn')), some (.fz (dN hs)), some (.fz (.tup [.bl b, dN l])), some (.fz (.dic T)), some (.ow (.tup t [.f (.bl b), ol r (l.map D.str)])), none, none, none]) rfl rfl ?_
    with_reducible refine s_seq ?_
    with_reducible refine s_if ?_
    refine t_p (c := false || (false || false)) (ev_bor ?_ fun _ => ev_bor ?_ fun _ => ?_) ?_
    · refine b_op (x := .tup t [.f (.bl b), ol r (l.map D.str)]) (y := .f (.tup [.bl b, dN l])) rfl rfl ?_
      show neD (.tup [.bl b, (ol r (l.map D.str)).toD]) _ = _
      rw [ol_toD]
      exact (neD_told hsl hsl).trans (by simp)
    · refine ev_bnot (c := true) (ev_bV (ev_un (x := ol r (l.map D.str)) (g_opN rfl rfl rfl) ?_))
      unfold fUn
      rw [ol_toD]
      rfl
    · exact b_op (x := .f (.dic T)) (y := .f (.dic T)) rfl (gFz_some (ev_a1 (x := ol R1 (qs.map dRw)) rfl (hT ▸ lf_dict (kids_ol _ _)))) (nedD_self nd hall)
    refine iteF ?_
    walk_at "pw"
    refine ⟨r, (l.map D.str).map N.f, g_opN rfl rfl rfl, ?_⟩
    walk_at "pw"
    refine ⟨_, _, rfl, rfl, small1000 (by rw [List.length_map, List.length_map]; omega), ?_⟩
    with_reducible refine s_fz2 (env2 := [some (scr K a ns), some (src sa), some (.ow (ol A ((namesOf rs).map D.str))), some (.ow (ol R1 (qs.map dRw))), y4, y5, y6, y7, y8, some (.fz (.int gi)), some (.fz (.int f)), some (.fz (.str x)), some (.ow (od OD dn')), some (.fz (dN hs)), some (.fz (.tup [.bl b, dN l])), some (.fz (.dic T)), some (.ow (.tup t [.f (.bl b), ol r ((l ++ [Str.ofString "other"]).map D.str)])), none, none, none]) ?_ ?_
    · unfold ol
      rw [List.map_append, List.map_append]
      rfl
    walk_at "pw"
    refine x_call0 ?_
    walk_at "pw"
    refine x_ar rfl rfl rfl ⟨_, basesOf rs, rankOf rs, namesOf rs, x, rfl, tab, ok.dag, hx, ok.small hx, fun t2 r2 => ?_⟩
    rw [hbl]
    refine x_st (env2 := [some (scr K a ns), some (src sa), some (.ow (ol A ((namesOf rs).map D.str))), some (.ow (ol R1 (qs.map dRw))), y4, y5, y6, y7, y8, some (.fz (.int gi)), some (.fz (.int f)), some (.fz (.str x)), some (.ow (od OD dn')), some (.fz (dN hs)), some (.fz (.tup [.bl b, dN l])), some (.fz (.dic T)), some (.ow (.tup t [.f (.bl b), ol r ((l ++ [Str.ofString "other"]).map D.str)])), some (.ow (.tup t2 [.f (.bl b), ol r2 (l.map D.str)])), none, none]) rfl rfl ?_
    with_reducible refine s_ret ?_
    refine x_p (d := .bl true) ?_ ⟨⟨⟨_, rfl⟩, trivial⟩, hq _⟩
    refine (ev_and (c := true) (c' := true) ?_ fun _ => ?_).trans rfl
    · refine g_op (x := .tup t2 [.f (.bl b), ol r2 (l.map D.str)]) (y := .f (.tup [.bl b, dN l])) rfl rfl ?_
      show eqD (.tup [.bl b, (ol r2 (l.map D.str)).toD]) _ = _
      rw [ol_toD]
      exact (eqD_told hsl hsl).trans (by simp)
    · refine g_op (x := .f (dN l)) (y := .f (dN l)) (gFz_some ?_) (g_opN rfl rfl rfl) ((eqD_names hsl hsl).trans (by simp))
      refine (ev_sl (n := ol r ((l ++ [Str.ofString "other"]).map D.str)) (l := none) (h := some (-1)) (g_opN rfl rfl rfl) rfl (ev_goS rfl) (kids_ol _ _)).trans ?_
      rw [cutL_last]
      rfl

theorem ok_law_fn (T : Tx K mg) (hP : PF P) {f : Addr} {fd : FuncData} (F : FunD K d_law.name d_law.qual d_law.params d_law.body d_law.scope (d_law.dvs K) (d_law.kws K) f fd) : FnOk P w K mg base CX0 27 f fd ["_law_script"] (spLawP K) := by
  have G__law_source := ok__law_source_P (P := P) (w := w) (base := base) T hP
  have G__law_draw := ok__law_draw_P (P := P) (w := w) (base := base) T hP
  have G__law_place := ok__law_place (P := P) (w := w) (base := base) T hP
  have G__law_asked := ok__law_asked_P (P := P) (w := w) (base := base) T hP
  refine F.ok sc_law (fun vs H Q E h => spP_len h) (fun cdv A outer s H vs Q E hr h => ?_)
  exact ⟨_, PSs.nox ((by exact (pps_cons (pp_set (i := 1) sc_law.nd rfl (.inl rfl) (px_call0 G__law_source (hr.mono (by decide)) (by rfl) (pax_b (pv 0) pax_nil)))
      (pps_cons (pp_set (i := 2) sc_law.nd rfl (.inl rfl) (px_n (pn_lst pas_nil)))
      (pps_cons (pp_set (i := 3) sc_law.nd rfl (.inl rfl) (px_n (pn_lst pas_nil)))
      (pps_cons (pp_for PassesOwn.never rfl (pix_r1 T.z_range (px_add (px_p pd_int) (px_call0 G__law_draw (hr.mono (by decide)) (by rfl) (pax_b (pv 1) (pax_v (px_p pd_int) pax_nil))))) (ptg_n (pg_name (i := 4) sc_law.nd rfl (.inl rfl)))
      (pps_cons (pp_set (i := 5) sc_law.nd rfl (.inl rfl) (px_add (px_idx (px_p pd_str) (px_call0 G__law_draw (hr.mono (by decide)) (by rfl) (pax_b (pv 1) (pax_v (px_p pd_int) pax_nil))) (fun _ _ => rfl)) (px_p (pd_strI T.z_str (pas_cons (pd_var (pv 4)) pas_nil)))))
      (pps_cut (pp_if (pxt_p (pb_eq hr.units (pd_var (pv 4)) pd_int)) (pps_one (pp_set (i := 5) sc_law.nd rfl (.inl rfl) (px_p pd_str))) pps_nil)
      (pps_cons (pp_setLcN (i := 6) (own := [("_law_other", 18)]) (by rfl) sc_law.nd rfl rfl (sw_true rfl rfl rfl (by decide +kernel)) (pit_l (pd_var (pv 2))) (blkOk_by (own := [("_law_other", 18)]) (N := n_law) (sc := defScope s_law) (by decide +kernel)) (by decide) (fun _ _ _ _ _ => (ptg_n (pg_name (i := 18) sc_law.nd rfl (.inl rfl)))) (fun _ _ _ _ _ => by exact pbs_nil) (fun _ _ _ _ _ => by exact (pd_var (pv 18))))
      (pps_cons (pp_set (i := 7) sc_law.nd rfl (.inl rfl) (px_n (pn_lst pas_nil)))
      (pps_cons (pp_for PassesOwn.never rfl (pix_r1 T.z_range (px_call0 G__law_draw (hr.mono (by decide)) (by rfl) (pax_b (pv 1) (pax_v (px_p pd_int) pax_nil)))) (ptg_n (pg_name (i := 8) sc_law.nd rfl (.inl rfl)))
      (pps_one (pp_if (pxt_p (pb_ne hr.units (pd_var (pv 6)) (pn_pd (pn_lst pas_nil)))) (pps_one (pp_drop (px_app (pe_bm PySem.F.plainAttrs_list PySem.F.slot_list_append PySem.F.type_list_append mt_append (pv 7) (pa_cons ((px_popA (pe_bm PySem.F.plainAttrs_list PySem.F.slot_list_pop PySem.F.type_list_pop mt_popAt (pv 6) (pa_cons ((px_call0 G__law_draw (hr.mono (by decide)) (by rfl) (pax_b (pv 1) (pax_v (px_p (pd_len T.z_len (pas_cons (pd_var (pv 6)) pas_nil))) pax_nil))) rfl) pa_nil))) rfl) pa_nil))))) pps_nil)))
      (pps_cons (pp_drop (px_app (pe_bm PySem.F.plainAttrs_list PySem.F.slot_list_append PySem.F.type_list_append mt_append (pv 2) (pa_cons ((px_p (pd_var (pv 5))) rfl) pa_nil))))
      (pps_fz 7 (pps_one (pp_drop (px_app (pe_bm PySem.F.plainAttrs_list PySem.F.slot_list_append PySem.F.type_list_append mt_append (pv 3) (pa_cons ((px_p (pd_tup (pas_cons (pd_var (pv 5)) (pas_cons (pd_var (pv 7)) pas_nil)))) rfl) pa_nil)))))))))))))
      (pps_cons (pp_set (i := 9) sc_law.nd rfl (.inl rfl) (px_call0 G__law_draw (hr.mono (by decide)) (by rfl) (pax_b (pv 1) (pax_v (px_p (pd_len T.z_len (pas_cons (pd_var (pv 3)) pas_nil))) pax_nil))))
      (pps_cons (pp_set (i := 10) sc_law.nd rfl (.inl rfl) (px_call0 G__law_draw (hr.mono (by decide)) (by rfl) (pax_b (pv 1) (pax_v (px_p pd_int) pax_nil))))
      (pps_cut (pp_if (pxt_p (pb_eq hr.units (pd_var (pv 10)) pd_int)) (pps_one (pp_set (i := 3) sc_law.nd rfl (.inl rfl) (px_n (pn_rev (kRev K ((pd_var (pv 3)) rfl)))))) pps_nil)
      (pps_cut (pp_if (pxt_p (pb_eq hr.units (pd_var (pv 10)) pd_int)) (pps_one (pp_set (i := 3) sc_law.nd rfl (.inl rfl) (px_n (pn_cat (pn_pd (pn_sl (pd_var (pv 3)) (po_s (pd_var (pv 9))) po_n)) (pn_pd (pn_sl (pd_var (pv 3)) po_n (po_s (pd_var (pv 9))))))))) pps_nil)
      (pps_cons (pp_set (i := 11) sc_law.nd rfl (.inl rfl) (px_idxV (pv 2) (px_call0 G__law_draw (hr.mono (by decide)) (by rfl) (pax_b (pv 1) (pax_v (px_p (pd_len T.z_len (pas_cons (pd_var (pv 2)) pas_nil))) pax_nil))) (fun _ _ => rfl)))
      (pps_cons (pp_set (i := 12) sc_law.nd rfl (.inl rfl) (px_dnew pe_dnewK))
      (pps_cons (pp_set (i := 13) sc_law.nd rfl (.inl rfl) (px_call0 G__law_place (hr.mono (by decide)) (by rfl) (pax_v (px_n (pn_dict rfl T.z_dict (pas_cons (pd_var (pv 3)) pas_nil))) (pax_v (px_p (pd_var (pv 11))) (pax_b (pv 12) pax_nil)))))
      (pps_fz 13 (pps_cons (pp_set (i := 14) sc_law.nd rfl (.inl rfl) (px_p (pd_tup (pas_cons pd_bl (pas_cons (pd_var (pv 13)) pas_nil)))))
      (pps_cut (pp_if (pxt_p (pb_eq hr.units (pd_var (pv 13)) (pn_pd (pn_lst pas_nil)))) (pps_one (pp_set (i := 14) sc_law.nd rfl (.inl rfl) (px_p (pd_tup (pas_cons pd_bl (pas_cons (pd_dget (hu_of hr) (pd_var (pv 12)) (pd_var (pv 11)) (fun _ _ => rfl)) pas_nil)))))) pps_nil)
      (pps_cons (pp_set (i := 15) sc_law.nd rfl (.inl rfl) (px_n (pn_dict rfl T.z_dict (pas_cons (pn_pd (pn_lc (own := [("_law_row", 19)]) (by rfl) sc_law.nd (pit_l (pd_var (pv 3))) (blkOk_by (own := [("_law_row", 19)]) (N := n_law) (sc := defScope s_law) (by decide +kernel)) (by decide) (fun _ _ _ _ _ => (ptg_n (pg_name (i := 19) sc_law.nd rfl (.inl rfl)))) (fun _ _ _ _ _ => by exact pbs_nil) (fun _ _ _ _ _ => by exact (pd_tup (pas_cons (pd_idx (pd_var (pv 19)) pd_int (fun _ _ => rfl)) (pas_cons (pn_pd (pn_list T.z_list (pas_cons (pd_idx (pd_var (pv 19)) pd_int (fun _ _ => rfl)) pas_nil))) pas_nil)))))) pas_nil))))
      (pps_fz 15 (pps_cons (pp_set (i := 16) sc_law.nd rfl (.inl rfl) (px_call0 G__law_asked (hr.mono (by decide)) (by rfl) (pax_v (px_p (pd_var (pv 15))) (pax_v (px_p (pd_var (pv 11))) pax_nil))))
      (pps_cons (pp_if (pxt_p (pb_w (pbw_or (pb_ne hr.units (pd_var (pv 16)) (pd_var (pv 14))) (pbw_or (pb_not (pb_val (pd_isi (T := "list") (pe_callB call_isi (by rfl) T.z_isinstance (by decide +kernel) (pa_cons ((pd_idx (pd_var (pv 16)) pd_int (fun _ _ => rfl)) rfl) (pa_cons (pe_bltn (by rfl) T.z_list (by decide +kernel) rfl) pa_nil)))))) (pbw_or1 (pb_ned (units66 hr) (pd_var (pv 15)) (pn_pd (pn_dict rfl T.z_dict (pas_cons (pd_var (pv 3)) pas_nil))))))))) (pps_one (pp_ret (px_p pd_bl))) pps_nil)
      (pps_cons (pp_drop (px_appP (pd_idx (pd_var (pv 16)) pd_int (fun _ _ => rfl)) (fun ho => pe_bm PySem.F.plainAttrs_list PySem.F.slot_list_append PySem.F.type_list_append mt_append ho (pa_cons ((px_p pd_str) rfl) pa_nil))))
      (pps_fz 15 (pps_cons (pp_set (i := 17) sc_law.nd rfl (.inl rfl) (px_call0 G__law_asked (hr.mono (by decide)) (by rfl) (pax_v (px_p (pd_var (pv 15))) (pax_v (px_p (pd_var (pv 11))) pax_nil))))
      (pps_one (pp_ret (px_p (pd_andV (pd_eq hr.units (pd_var (pv 17)) (pd_var (pv 14))) (pd_one (pd_eq hr.units (pn_pd (pn_sl (pd_idx (pd_var (pv 16)) pd_int (fun _ _ => rfl)) po_n (po_s (pd_neg pd_int)))) (pd_idx (pd_var (pv 14)) pd_int (fun _ _ => rfl))))))))))))))))))))))))))))) : PPs _ K WF _ (f_law K)) rfl), body_of (N := n_law) (fun _ _ _ _ z => z) (spP_nox (fun _ _ _ h => h) h) fun ss q w hn hC => pure_law ss q w hC⟩


end
end Pu
namespace Ed
open PySem PySem.Spec PyProof.Rows L2
theorem facts {P : Program} {w : World} {K : PySem.W.Frag} {h : Heap} {mg : Str → Option Value} {f : Addr} (X : K.In h) (G : h.Ns mainGlobals mg) (hfa : mg ("law" : Str) = some (.ref f)) (c : SaysY fa fn su exB w K) (hP : PF P) :
    ∃ fd : FuncData, (∀ (s : Shared) (v : Value), BindsTo s fd ⟨[v], []⟩ [("_law_script", v)]) ∧ ∀ base : Heap, K.In base → base.Ns mainGlobals mg → FnOk P w K mg base CX0 27 f fd ["_law_script"] (Pu.spLawP K) := by
  have T : Tx K mg := tx_of X G c.t.d c c.more
  obtain ⟨fd, F⟩ := T.F_law
  have e := hfa.symm.trans T.g_law
  cases e
  have b := FunD.bindsA (ps := ["_law_script"]) F fun _ _ _ _ _ _ us hl => match us, hl with | [_], _ => rfl
  exact ⟨fd, fun s v => b s [v] rfl, fun base _ _ => Pu.ok_law_fn T hP F⟩
end Ed
open PySem PySem.W PySem.Calls PyProof.Rows
set_option maxHeartbeats 0 in
theorem PySem.Challenge.cw_everydoor_k10_orders_of_classes_holds : PySem.Challenge.rw_everydoor_k10_orders_of_classes.Holds := by
  w_on; o_law
  refine HandSHeadRun.head_any (r := OpenLaw.row PySem.Challenge.rw_everydoor_k10_orders_of_classes) (q := view (OpenLaw.row PySem.Challenge.rw_everydoor_k10_orders_of_classes).prog [15]) (H := Ed.hk) (ob := Ed.ob) (M := 3000) (loose := Ed.loose) (d := HandSHeadRun.topDef (OpenLaw.row PySem.Challenge.rw_everydoor_k10_orders_of_classes).prog 15) (kwd := []) Ed.ob_eq
    (by kernel_rfl) (fun s => by kernel_rfl) Ed.run (by kernel_rfl) (by kernel_rfl) (by kernel_rfl) (by rfl) (by first | assumption | decide +kernel) (by decide +kernel) ⟨rfl, rfl, rfl, rfl, rfl, by decide +kernel⟩ ?hw ?hc
  case hw => w_witness2
  case hc =>
    refine L2.walk_ofE (l := PySem.Challenge.rw_everydoor_k10_orders_of_classes) (n := 63) (k := 27) (x := "_law_script") (CX := L2.CX0) rfl (by decide) (by kernel_rfl) ⟨rfl, by decide, by decide⟩ ?F (fun _ _ _ _ z => z)
    intro w mg fa h Y G hmg0
    obtain ⟨K, KX, c⟩ := Y
    have hmg : mg ("law" : PySem.Str) = some (.ref fa) := by
      have e : (HandSHeadRun.topDef (OpenLaw.row PySem.Challenge.rw_everydoor_k10_orders_of_classes).prog 15).name = ("law" : PySem.Str) := by kernel_rfl
      rw [← e]
      exact hmg0
    obtain ⟨fd, hb, hF⟩ := Ed.facts (P := (PySem.Challenge.rw_everydoor_k10_orders_of_classes).prog) (w := w) KX G hmg c ⟨by kernel_rfl, by kernel_rfl⟩
    exact ⟨K, fd, Pu.spLawP K, KX, hb, fun H a ns hl _ hS => Pu.law_pre H a ns hl hS, hF⟩
