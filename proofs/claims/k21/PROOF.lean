import PyProof.Rows.All
import Wide.All
import OpenK.AllK
import Wide.FinOn
import KE.KStateDown
import HandS.ForMost
import HandS.Exc
import HandS.More
import HandS.Defaults
import HandS.Star
import HandS.Wide
import HandS.IsInst
import HandS.Walk
import HandS.Head0
import HandS.Head1
import HandS.Head2
import HandS.HeadEnd
import HandS.HeadHook1
import HandS.HeadHook2
import HandS.HeadHook3
import HandS.HeadHook4
import KE.KCallOwn
import HandS.FStr
import HandS.NoneIn
import HandS.MakeKw
import HandS.Style
import PySem.Challenge.RW_everydoor_k21_cases
set_option Elab.async false
set_option linter.all false
set_option maxRecDepth 100000
set_option maxHeartbeats 4000000
/-! ## Ed: what is owned. F: what stays as it is; M: cells that may change; H: the heap at hand (F, M and perhaps more). -/
namespace Ed
open PySem PySem.Spec PyProof.Rows L2
abbrev Cells := List (Addr × HO)
structure Own (F : Hp) (M : Cells) (H : Hp) : Prop where
  fr : Same F H
  mu : ∀ p ∈ M, H p.1 = some p.2
  ap : ∀ p ∈ M, F p.1 = none
  nd : (M.map Prod.fst).Nodup
section
variable {F F0 F1 H H' : Hp} {M A B : Cells} {p q : Addr} {x y : HO} {i : Nat}
theorem same_upd (h : F p = none) : Same F (upd F p x) := fun b o e => by
  rw [upd_ne (ne_of_none e h)]
  exact e
theorem Own.start (H : Hp) : Own H [] H := ⟨Same.refl H, fun _ h => (nomatch h), fun _ h => (nomatch h), List.nodup_nil⟩
theorem Own.free (o : Own F M H) (hp : H p = none) : F p = none := o.fr.free hp
theorem Own.notIn (o : Own F M H) (hp : H p = none) : p ∉ M.map Prod.fst := fun h => by
  obtain ⟨c, hc, e⟩ := List.mem_map.mp h
  have z := o.mu c hc
  rw [e, hp] at z
  cases z
theorem Own.newM (o : Own F M H) (hp : H p = none) : Own F ((p, x) :: M) (upd H p x) where
  fr := fun b u e => by
    rw [upd_ne (ne_of_none (o.fr b u e) hp)]
    exact o.fr b u e
  mu := fun c hc => by
    rcases List.mem_cons.mp hc with rfl | hc
    · exact upd_same
    · rw [upd_ne (ne_of_none (o.mu c hc) hp)]
      exact o.mu c hc
  ap := fun c hc => by
    rcases List.mem_cons.mp hc with rfl | hc
    · exact o.free hp
    · exact o.ap c hc
  nd := List.nodup_cons.mpr ⟨o.notIn hp, o.nd⟩
theorem Own.newF (o : Own F M H) (hp : H p = none) : Own (upd F p x) M (upd H p x) where
  fr := fun b u e => by
    by_cases hb : b = p
    · subst hb
      rw [upd_same] at e ⊢
      exact e
    · rw [upd_ne hb] at e ⊢
      exact o.fr b u e
  mu := fun c hc => by
    rw [upd_ne (ne_of_none (o.mu c hc) hp)]
    exact o.mu c hc
  ap := fun c hc => by
    rw [upd_ne (ne_of_none (o.mu c hc) hp)]
    exact o.ap c hc
  nd := o.nd
theorem Own.newM' (o : Own F M H) (e : upd H p x = H') (hp : H p = none) : Own F ((p, x) :: M) H' := e ▸ o.newM hp
theorem Own.newF' (o : Own F M H) (e : upd H p x = H') (hp : H p = none) : Own (upd F p x) M H' := e ▸ o.newF hp
/-- made and forgotten -/
theorem Own.lose (o : Own F M H) (hp : H p = none) : Own F M (upd H p x) := ⟨(o.newM (x := x) hp).fr, fun c hc => (o.newM (x := x) hp).mu c (List.mem_cons_of_mem _ hc), o.ap, o.nd⟩
theorem Own.lose' (o : Own F M H) (e : upd H p x = H') (hp : H p = none) : Own F M H' := e ▸ o.lose hp
theorem Own.get (o : Own F M H) (i : Nat) (h : M[i]? = some (p, x) := by rfl) : H p = some x := o.mu (p, x) (List.mem_of_getElem? h)
theorem Own.apart (o : Own F M H) (i : Nat) (h : M[i]? = some (p, x) := by rfl) : F p = none := o.ap (p, x) (List.mem_of_getElem? h)
theorem mem_set {c d : Addr × HO} : ∀ {M : Cells} {i : Nat}, d ∈ M.set i c → d = c ∨ d ∈ M
  | [], _, h => by cases h
  | a :: r, 0, h => by
    rcases List.mem_cons.mp h with h | h
    · exact .inl h
    · exact .inr (List.mem_cons_of_mem _ h)
  | a :: r, i + 1, h => by
    rcases List.mem_cons.mp h with h | h
    · exact .inr (h ▸ List.mem_cons_self)
    · rcases mem_set (M := r) (i := i) h with h | h
      · exact .inl h
      · exact .inr (List.mem_cons_of_mem _ h)
theorem set_fst : ∀ {M : Cells} {i : Nat} {p : Addr} {x y : HO}, M[i]? = some (p, x) → (M.set i (p, y)).map Prod.fst = M.map Prod.fst
  | [], _, _, _, _, h => by cases h
  | a :: r, 0, p, x, y, h => by
    have e : a = (p, x) := Option.some.inj h
    subst e
    rfl
  | a :: r, i + 1, p, x, y, h => by
    show a.1 :: (r.set i (p, y)).map Prod.fst = a.1 :: r.map Prod.fst
    rw [set_fst (M := r) (i := i) (x := x) h]
theorem Own.set (o : Own F M H) (i : Nat) (h : M[i]? = some (p, x) := by rfl) : Own F (M.set i (p, y)) (upd H p y) where
  fr := fun b u e => by
    rw [upd_ne (ne_of_none e (o.apart i h))]
    exact o.fr b u e
  mu := fun c hc => by
    by_cases hp : c.1 = p
    · obtain ⟨a, b⟩ := c
      have hp : a = p := hp
      subst hp
      have nd := o.nd
      rw [← set_fst (y := y) h] at nd
      have h1 : (M.set i (a, y))[i]? = some (a, y) := by
        rw [List.getElem?_set_self (List.getElem?_eq_some_iff.mp h).1]
      obtain ⟨j, hj⟩ := List.getElem?_of_mem hc
      have n1 : ((M.set i (a, y)).map Prod.fst)[i]? = some a := by rw [List.getElem?_map, h1]; rfl
      have n2 : ((M.set i (a, y)).map Prod.fst)[j]? = some a := by rw [List.getElem?_map, hj]; rfl
      have e := nd_ix nd n1 n2
      subst e
      rw [h1] at hj
      cases hj
      exact upd_same
    · rw [upd_ne hp]
      rcases mem_set hc with e | hm
      · rw [e] at hp
        exact absurd rfl hp
      · exact o.mu c hm
  ap := fun c hc => by
    rcases mem_set hc with e | hm
    · rw [e]
      exact o.apart i h
    · exact o.ap c hm
  nd := by
    rw [set_fst h]
    exact o.nd
theorem Own.set' (o : Own F M H) (i : Nat) (e : upd H p y = H') (h : M[i]? = some (p, x) := by rfl) : Own F (M.set i (p, y)) H' := e ▸ o.set i h
/-- a cell is kept as it is from now on -/
theorem Own.fz (o : Own F M H) (i : Nat) (h : M[i]? = some (p, x) := by rfl) : Own (upd F p x) (M.eraseIdx i) H where
  fr := fun b u e => by
    by_cases hb : b = p
    · subst hb
      rw [upd_same] at e
      cases e
      exact o.get i h
    · rw [upd_ne hb] at e
      exact o.fr b u e
  mu := fun c hc => o.mu c (List.mem_of_mem_eraseIdx hc)
  ap := fun c hc => by
    have hm := List.mem_of_mem_eraseIdx hc
    have ne : c.1 ≠ p := fun e => by
      have h1 : (M.map Prod.fst)[i]? = some p := by rw [List.getElem?_map, h]; rfl
      obtain ⟨j, hj, hn⟩ : ∃ j, M[j]? = some c ∧ j ≠ i := by
        obtain ⟨j, hj⟩ := List.getElem?_of_mem hc
        rw [List.getElem?_eraseIdx] at hj
        split at hj
        · exact ⟨j, hj, by omega⟩
        · exact ⟨j + 1, hj, by omega⟩
      have h2 : (M.map Prod.fst)[j]? = some p := by rw [List.getElem?_map, hj, ← e]; rfl
      exact hn (nd_ix o.nd h2 h1)
    rw [upd_ne ne]
    exact o.ap c hm
  nd := o.nd.sublist ((List.eraseIdx_sublist M i).map _)
theorem Own.tail {c : Addr × HO} (o : Own F (c :: M) H) : Own F M H := ⟨o.fr, fun c hc => o.mu c (List.mem_cons_of_mem _ hc), fun c hc => o.ap c (List.mem_cons_of_mem _ hc), (List.nodup_cons.mp o.nd).2⟩
theorem Own.sub (o : Own F M H) (s : A.Sublist M) : Own F A H := ⟨o.fr, fun c hc => o.mu c (s.subset hc), fun c hc => o.ap c (s.subset hc), o.nd.sublist (s.map _)⟩
theorem Own.perm (o : Own F M H) (s : M.Perm A) : Own F A H := ⟨o.fr, fun c hc => o.mu c (s.symm.subset hc), fun c hc => o.ap c (s.symm.subset hc), (s.map _).nodup_iff.mp o.nd⟩
theorem Own.less (o : Own F M H) (s : Same F0 F) : Own F0 M H := ⟨s.trans o.fr, o.mu, fun c hc => s.free (o.ap c hc), o.nd⟩
end
/-! ### a def by its module name, its promise by positional values -/
def Ok1 (P : Program) (w : World) (K : PySem.W.Frag) (mg : Str → Option Value) (base : Heap) (x : Str) (k : Nat) (sp : Sp) : Prop :=
  ∃ f, mg x = some (.ref f) ∧ PySem.W.keepIn K (.ref f) = true ∧ FnR P w K mg base CX0 k f sp
def tOwn (sp : Sp) (t : TA) : TE := fun σ H Q => t σ H fun vs H1 => sp vs H1 Q E0
theorem pe_own {X : Cx} {k : Nat} {sp : Sp} {x : Str} {p pos : Pos} {e : Expr} {es : List Expr} {t : TA} (G : Ok1 X.prog X.w X.K X.mg X.base x k sp) (hr : Room k X.A) (hg : Gl X x)
    (ha : PA X (e :: es) t) (hdb : (x == ("__debug__" : Str)) = false := by decide) (he : starEach (e :: es) X.env = (false, eval e X.env) :: starEach es X.env := by rfl) (hpl : (backTo pos (starEach es X.env)).any (·.1) = false := by rfl) :
    PE X (.Call (.Name x p) (e :: es) [] pos) (tOwn sp t) := by
  obtain ⟨f, hm, hk, F⟩ := G
  refine ⟨fun pins s σ H Q I h => ?_⟩
  refine wpAny_Call_Name_kw (ld_glob I hg hm ?_ hdb)
  refine PySem.W.callWith_K (h₀ := X.base) I.ok.mod.kin hk (thn (ha.run pos pins s σ H _ I h) fun us s1 ⟨vs, H1, I1, r, q⟩ => ⟨I1.kIn, ?_⟩) he hpl
  exact wpAny_call (run_fnR F hr pass0 I1 r q)
theorem pe_own0 {X : Cx} {k : Nat} {sp : Sp} {x : Str} {p pos : Pos} (G : Ok1 X.prog X.w X.K X.mg X.base x k sp) (hr : Room k X.A) (hg : Gl X x) (hdb : (x == ("__debug__" : Str)) = false := by decide) :
    PE X (.Call (.Name x p) [] [] pos) (tOwn sp tNil) := by
  obtain ⟨f, hm, hk, F⟩ := G
  refine ⟨fun pins s σ H Q I h => ?_⟩
  refine wpAny_Call_Name_kw (ld_glob I hg hm ?_ hdb)
  exact PySem.W.callWith_K0 I.kIn hk (wpAny_call (run_fnR (us := []) F hr pass0 I .nil h))
/-- a def without defaults, by its body -/
theorem ok1_of {P : Program} {w : World} {K : PySem.W.Frag} {mg : Str → Option Value} {base : Heap} {x qual : Str} {params : Arguments} {body : List Stmt} {scope : Scope} {kws : List (Str × V)} {f : Addr} {fd : FuncData} {N ps : List Str} {k : Nat} {sp : Sp}
    (F : FunD K x qual params body scope [] kws f fd) (hm : mg x = some (.ref f)) (S : FnScope N ps scope) (len : ∀ vs H Q E, sp vs H Q E → vs.length = ps.length)
    (hb : ∀ (kV doc pm : Value) (an : Option Addr) (cdv ct : Value) (us : List Value), us.length = ps.length → bindArgs (PySem.W.fnOf x qual params body scope .none kV doc pm an cdv ct) ⟨us, []⟩ = pure (ps.zip us))
    (hbody : ∀ (cdv : Value) (A : Around) (outer : List Env) (s : Shared) (H : Hp) (vs : List V) (Q : VK) (E : XK), Room k (A.deeper (envOfC qual scope s.heap.objs.size f cdv)) → sp vs H Q E →
      ∃ t, PSs (cxOf CX0 P w K mg base N qual scope f cdv A outer s H E).nox body t ∧ t { nx := fun _ H' => Q .non H', rt := Q } (start N vs) H) : Ok1 P w K mg base x (k + 1) sp := by
  refine ⟨f, hm, F.kp, ?_⟩
  have G := F.ok (P := P) (w := w) (mg := mg) (base := base) (CX := CX0) S len fun cdv A outer s H vs Q E hr hsp => by
    obtain ⟨t, h, q⟩ := hbody cdv A outer s H vs Q E hr hsp
    exact ⟨t, h.nox, q⟩
  exact (G.raw (F.bindsN hb) .nil).imp fun vs H Q E h => by
    rw [List.append_nil]
    exact h
/-! ### promises by the number of their arguments -/
def sp0 (C : Hp → VK → Prop) : Sp := fun vs H Q _ => vs = [] ∧ C H Q
def sp1 (C : V → Hp → VK → Prop) : Sp := fun vs H Q _ => ∃ a, vs = [a] ∧ C a H Q
def sp2 (C : V → V → Hp → VK → Prop) : Sp := fun vs H Q _ => ∃ a b, vs = [a, b] ∧ C a b H Q
def sp3 (C : V → V → V → Hp → VK → Prop) : Sp := fun vs H Q _ => ∃ a b c, vs = [a, b, c] ∧ C a b c H Q
def sp4 (C : V → V → V → V → Hp → VK → Prop) : Sp := fun vs H Q _ => ∃ a b c d, vs = [a, b, c, d] ∧ C a b c d H Q
def sp5 (C : V → V → V → V → V → Hp → VK → Prop) : Sp := fun vs H Q _ => ∃ a b c d e, vs = [a, b, c, d, e] ∧ C a b c d e H Q
def sp6 (C : V → V → V → V → V → V → Hp → VK → Prop) : Sp := fun vs H Q _ => ∃ a b c d e f, vs = [a, b, c, d, e, f] ∧ C a b c d e f H Q
section
variable {vs : List V} {H : Hp} {Q : VK} {E : XK}
theorem sp0_len {C} (h : sp0 C vs H Q E) : vs.length = 0 := by
  obtain ⟨rfl, _⟩ := h
  rfl
theorem sp1_len {C} (h : sp1 C vs H Q E) : vs.length = 1 := by
  obtain ⟨_, rfl, _⟩ := h
  rfl
theorem sp2_len {C} (h : sp2 C vs H Q E) : vs.length = 2 := by
  obtain ⟨_, _, rfl, _⟩ := h
  rfl
theorem sp3_len {C} (h : sp3 C vs H Q E) : vs.length = 3 := by
  obtain ⟨_, _, _, rfl, _⟩ := h
  rfl
theorem sp4_len {C} (h : sp4 C vs H Q E) : vs.length = 4 := by
  obtain ⟨_, _, _, _, rfl, _⟩ := h
  rfl
theorem sp5_len {C} (h : sp5 C vs H Q E) : vs.length = 5 := by
  obtain ⟨_, _, _, _, _, rfl, _⟩ := h
  rfl
theorem sp6_len {C} (h : sp6 C vs H Q E) : vs.length = 6 := by
  obtain ⟨_, _, _, _, _, _, rfl, _⟩ := h
  rfl
end
/-! ### the source of draws -/
def iL (l : List Int) : List V := l.map V.int
/-- the cells of a source at a -/
def Src (a : Addr) (S : Cells) : Prop := ∃ (ag al : Addr) (g l : List Int) (c t : Int), S = [(a, .lst [.ref ag, .ref al, .int c, .int t]), (ag, .lst (iL g)), (al, .lst (iL l))]
def spSource (K : PySem.W.Frag) : Sp := sp1 fun v H Q => ∃ (a : Addr) (ns : List Int) (F : Hp) (M : Cells), v = .ref a ∧ SqL K F a (iL ns) ∧ ns.length ≤ 63 ∧ Own F M H ∧
  ∀ b S H', Src b S → Own F (S ++ M) H' → Q (.ref b) H'
/-- some number below the limit -/
def spDraw : Sp := sp2 fun v n H Q => ∃ (a : Addr) (m : Int) (F : Hp) (S M : Cells), v = .ref a ∧ n = .int m ∧ 0 < m ∧ m < 2 ^ 120 ∧ Src a S ∧ Own F (S ++ M) H ∧
  ∀ (r : Int) S' H', 0 ≤ r → r < m → Src a S' → Own F (S' ++ M) H' → Q (.int r) H'
/-! ### data -/
theorem Same.tup {K : PySem.W.Frag} {H H' : Hp} {a : Addr} {xs : List V} (e : Same H H') (h : SqT K H a xs) : SqT K H' a xs := by
  rcases h with (h | ⟨o, h⟩) | h
  · exact .inl (.inl (e _ _ h))
  · exact .inl (.inr ⟨o, e _ _ h⟩)
  · exact .inr h
mutual
theorem dp_mono {K : PySem.W.Frag} {H H' : Hp} (s : Same H H') : ∀ {v : V} {d : PyData}, Dp K H v d → Dp K H' v d
  | _, _, .non => .non
  | _, _, .bl b => .bl b
  | _, _, .int i => .int i
  | _, _, .str x => .str x
  | _, _, .lst h a => .lst (s.seq h) (dpAll_mono s a)
  | _, _, .tup h a => .tup (Same.tup s h) (dpAll_mono s a)
theorem dpAll_mono {K : PySem.W.Frag} {H H' : Hp} (s : Same H H') : ∀ {v : List V} {d : List PyData}, DpAll K H v d → DpAll K H' v d
  | _, _, .nil => .nil
  | _, _, .cons h t => .cons (dp_mono s h) (dpAll_mono s t)
end
theorem dpAll_iL {K : PySem.W.Frag} {H : Hp} : ∀ (l : List Int), DpAll K H (l.map V.int) (l.map PyData.int)
  | [] => .nil
  | n :: r => .cons (.int n) (dpAll_iL r)
theorem dpAll_strs {K : PySem.W.Frag} {H : Hp} : ∀ (l : List Str), DpAll K H (l.map V.str) (l.map PyData.str)
  | [] => .nil
  | n :: r => .cons (.str n) (dpAll_strs r)
end Ed

/-! ## Ed: readings, step by step -/
namespace Ed
open PySem PySem.Spec PyProof.Rows L2
/-! ### a statement, then the rest, with a word between them -/
def tCut (t u : TS) : TS := fun D σ H => ∃ Mid : L2.St → Hp → Prop, t { D with nx := Mid } σ H ∧ ∀ σ' H', Mid σ' H' → u D σ' H'
theorem pss_cut {X : Cx} {st : Stmt} {rest : List Stmt} {t u : TS} (h1 : PS X st t) (h2 : PSs X rest u) : PSs X (st :: rest) (tCut t u) := by
  refine ⟨fun pins s σ H D I h => ?_⟩
  obtain ⟨Mid, hm, hu⟩ := h
  refine wpAny_execs_cons (thn (h1.run pins s σ H { D with nx := Mid } I hm) fun f s1 q => ?_)
  cases f with
  | next =>
    obtain ⟨σ', H', I', q⟩ := q
    exact h2.run pins s1 σ' H' D I' (hu σ' H' q)
  | ret v => exact q
  | brk => exact q
  | cont => exact q
theorem r_cut {t u : TS} {D : Ends} {σ : L2.St} {H : Hp} (Mid : L2.St → Hp → Prop) (h : t { D with nx := Mid } σ H) (k : ∀ σ' H', Mid σ' H' → u D σ' H') : tCut t u D σ H := ⟨Mid, h, k⟩
/-! ### named readings of built-ins -/
def rInt1 : List V → Hp → VK → Prop := fun xs H Q => (∃ i, xs = [.int i] ∧ Q (.int i) H) ∨ ∃ k, xs = [.bl k] ∧ Q (.int (if k then 1 else 0)) H
def rLenQ (K : PySem.W.Frag) : List V → Hp → VK → Prop := fun xs H Q => ∃ p ys, xs = [.ref p] ∧ (SqL K H p ys ∨ SqT K H p ys) ∧ Q (.int ys.length) H
def rLenS : List V → Hp → VK → Prop := fun xs H Q => ∃ a : Str, xs = [.str a] ∧ a.length ≤ sizeLine ∧ Q (.int a.length) H
def rListOf (K : PySem.W.Frag) : List V → Hp → VK → Prop := fun xs H Q => ∃ p ys, xs = [.ref p] ∧ (SqL K H p ys ∨ SqT K H p ys) ∧ ∀ l, H l = none → Q (.ref l) (upd H l (.lst ys))
def rTupleOf (K : PySem.W.Frag) : List V → Hp → VK → Prop := fun xs H Q => ∃ p ys, xs = [.ref p] ∧ ((SqL K H p ys ∧ ∀ l, H l = none → Q (.ref l) (upd H l (.tup ys))) ∨ (SqT K H p ys ∧ Q (.ref p) H))
def rMin2 : List V → Hp → VK → Prop := fun xs H Q => ∃ i j, xs = [.int i, .int j] ∧ Q (.int (if j < i then j else i)) H
def rMax2 : List V → Hp → VK → Prop := fun xs H Q => ∃ i j, xs = [.int i, .int j] ∧ Q (.int (if j > i then j else i)) H
section
variable {X : Cx}
theorem c_int1 : CallR X (.type "int") rInt1 := call_int1
theorem c_len : CallR X (.builtin "len") (rLenQ X.K) := call_len_seq
theorem c_listOf : CallR X (.type "list") (rListOf X.K) := call_list_of
theorem c_tupleOf : CallR X (.type "tuple") (rTupleOf X.K) := call_tuple_of
theorem c_min2 (hc : X.calm = true) : CallR X (.builtin "min") rMin2 := call_min2 hc
theorem c_max2 (hc : X.calm = true) : CallR X (.builtin "max") rMax2 := call_max2 hc
end
theorem sz0 {xs : List V} (h : xs.length.ble 1000 = true := by rfl) : xs.length ≤ sizeLine := Nat.le_of_lt (small1000 (Nat.le_of_ble_eq_true h))
theorem sz1 {n : Nat} (h : n ≤ 1000) : n ≤ sizeLine := Nat.le_of_lt (small1000 h)
/-! ### rules that name the written part K -/
def tTruth (K : PySem.W.Frag) (ta : TE) : TT := fun σ H Q => ta σ H fun x H' => ∃ k, TruV K x H' k ∧ Q k H'
section
variable {X : Cx} {e a tg l : Expr} {ta tl : TE} {f : Str} {pos : Pos}
theorem kFld (K : PySem.W.Frag) (he : PE X e ta) (hb : attributeBase e f X.env (eval e X.env) = eval e X.env := by rfl) (hK : X.K = K := by rfl) : PE X (.Attribute e f pos) (tFld K ta f) := by
  subst hK
  exact pe_fld he hb
theorem kIxL (K : PySem.W.Frag) (hK : X.K = K := by rfl) : IxR X (rIxL K) := by
  subst hK
  exact ix_list
theorem kIxT (K : PySem.W.Frag) (hK : X.K = K := by rfl) : IxR X (rIxT K) := by
  subst hK
  exact ix_tup
theorem kSlL (K : PySem.W.Frag) (hK : X.K = K := by rfl) : SlR X (rSlL K) := by
  subst hK
  exact sl_list
theorem kSlT (K : PySem.W.Frag) (hK : X.K = K := by rfl) : SlR X (rSlT K) := by
  subst hK
  exact sl_tup
theorem kIn (K : PySem.W.Frag) (hK : X.K = K := by rfl) : OpR X (compareOp .In) (rIn K false) := by
  subst hK
  exact op_in_seq
theorem kNotIn (K : PySem.W.Frag) (hK : X.K = K := by rfl) : OpR X (compareOp .NotIn) (rIn K true) := by
  subst hK
  exact op_notIn_seq
theorem kEqD (K : PySem.W.Frag) (hu : X.A.units + 64 < cLine) (hK : X.K = K := by rfl) : OpR X (compareOp .Eq) (rEqD K) := by
  subst hK
  exact op_eqD hu
theorem kNeD (K : PySem.W.Frag) (hu : X.A.units + 64 < cLine) (hK : X.K = K := by rfl) : OpR X (compareOp .NotEq) (rNeD K) := by
  subst hK
  exact op_neD hu
theorem kPiL (K : PySem.W.Frag) (hl : PE X l tl) (hK : X.K = K := by rfl) : PI X tg l (iList K tl) := by
  subst hK
  exact pi_list hl
theorem kPiT (K : PySem.W.Frag) (hl : PE X l tl) (hK : X.K = K := by rfl) : PI X tg l (iTup K tl) := by
  subst hK
  exact pi_tup hl
theorem kLen (K : PySem.W.Frag) (hK : X.K = K := by rfl) : CallR X (.builtin "len") (rLenQ K) := by
  subst hK
  exact c_len
theorem kListOf (K : PySem.W.Frag) (hK : X.K = K := by rfl) : CallR X (.type "list") (rListOf K) := by
  subst hK
  exact c_listOf
theorem kTupleOf (K : PySem.W.Frag) (hK : X.K = K := by rfl) : CallR X (.type "tuple") (rTupleOf K) := by
  subst hK
  exact c_tupleOf
theorem kIsi (K : PySem.W.Frag) (hK : X.K = K := by rfl) : CallR X (.builtin "isinstance") (rIsi K) := by
  subst hK
  exact call_isi
theorem kIdx (K : PySem.W.Frag) (hK : X.K = K := by rfl) : MtR X "list.index" (rIndex K) := by
  subst hK
  exact mt_index
theorem kTruth (K : PySem.W.Frag) (ha : PE X a ta) (he : ∀ whole, isTrue a X.env whole = (do let v ← whole; standAt a.pos; holding [v] (truthy v)) := by intro _; rfl) (hK : X.K = K := by rfl) : PT X a (tTruth K ta) := by
  subst hK
  exact pt_truth ha he
end
/-- a new tuple, a new list of xs -/
def NewT (xs : List V) (H : Hp) (Q : VK) : Prop := xs.length ≤ sizeLine ∧ ∀ p, H p = none → Q (.ref p) (upd H p (.tup xs))
def NewL (xs : List V) (H : Hp) (Q : VK) : Prop := xs.length ≤ sizeLine ∧ ∀ p, H p = none → Q (.ref p) (upd H p (.lst xs))
section
variable {K : PySem.W.Frag} {σ : L2.St} {H : Hp} {Q : VK} {D : Ends} {t u : TS} {te ta tb tc : TE} {tt tu : TT} {tr : TA} {g : TG} {i : Nat} {v x y : V} {r r' : R2} {F : Hp} {M : Cells} {p q l : Addr} {xs ys vs : List V} {n m : Int} {b : Bool}
  {QA : List V → Hp → Prop} {QB : Bool → Hp → Prop} {QS : L2.St → Hp → Prop}
theorem r_seq (h : t { D with nx := u D } σ H) : tSeq t u D σ H := h
theorem r_next (h : D.nx σ H) : tNext D σ H := h
theorem r_asg (h : te σ H fun x H1 => g x σ H1 D.nx) : tAsg te g D σ H := h
theorem r_drop (h : te σ H fun _ H1 => D.nx σ H1) : tDrop te D σ H := h
theorem r_ret (h : te σ H D.rt) : tRet te D σ H := h
theorem r_retN (h : D.rt .non H) : tRetN D σ H := h
theorem r_brk (h : D.bk σ H) : tBreak D σ H := h
theorem r_cont (h : D.ct σ H) : tCont D σ H := h
theorem r_if (h : tt σ H fun b H1 => if b = true then t D σ H1 else u D σ H1) : tIfS tt t u D σ H := h
theorem r_ifE (h : tt σ H fun b H1 => if b = true then ta σ H1 Q else tb σ H1 Q) : tIf tt ta tb σ H Q := h
theorem r_name (h : QS (σ.set i (some v)) H) : gName i v σ H QS := h
theorem r_sub {to ti : TE} {s : TSet} (h : to σ H fun o H1 => ti σ H1 fun i H2 => s o i v H2 fun H3 => QS σ H3) : gSub to ti s v σ H QS := h
theorem r_gtup {gs : TGs} {k : Nat} (h : SqT K H p xs) (hl : xs.length = k) (hq : gs xs σ H QS) : gTup K k gs (.ref p) σ H QS := ⟨p, xs, rfl, h, hl, hq⟩
theorem r_gcons {gs : TGs} (h : g v σ H fun σ' H' => gs xs σ' H' QS) : gCons g gs (v :: xs) σ H QS := ⟨v, xs, rfl, h⟩
theorem r_gnil (h : QS σ H) : gNil [] σ H QS := ⟨rfl, h⟩
theorem r_var (h : σ[i]? = some (some v)) (q : Q v H) : tVar i σ H Q := ⟨v, h, q⟩
theorem r_c (q : Q v H) : tC v σ H Q := q
theorem r_op (h : ta σ H fun x H1 => tb σ H1 fun y H2 => r x y H2 Q) : tOp r ta tb σ H Q := h
theorem r_un {r : V → Hp → VK → Prop} (h : ta σ H fun x H1 => r x H1 Q) : tUn r ta σ H Q := h
theorem r_I0 {g : Int → Int → V} (q : Q (g n m) H) : rI0 g (.int n) (.int m) H Q := ⟨n, m, rfl, rfl, q⟩
theorem r_I {C : Int → Int → Prop} {g : Int → Int → V} (c : C n m) (q : Q (g n m) H) : rI C g (.int n) (.int m) H Q := ⟨n, m, rfl, rfl, c, q⟩
theorem r_U {g : Int → V} (q : Q (g n) H) : rU g (.int n) H Q := ⟨n, rfl, q⟩
theorem r_eq (h : scal x y = true) (q : Q (.bl (decide (x = y))) H) : rEq x y H Q := ⟨h, q⟩
theorem r_ne (h : scal x y = true) (q : Q (.bl (!decide (x = y))) H) : rNe x y H Q := ⟨h, q⟩
theorem r_test (h : te σ H fun x H' => ∃ k, x = .bl k ∧ QB k H') : tTest te σ H QB := h
theorem r_B (h : te σ H fun x H' => ∃ k, x = .bl k ∧ QB k H') : tB te σ H QB := h
theorem r_isbl (q : QB b H) : ∃ k, V.bl b = .bl k ∧ QB k H := ⟨b, rfl, q⟩
theorem r_and (h : tt σ H fun c H1 => if c = true then tu σ H1 QB else QB false H1) : tAnd tt tu σ H QB := h
theorem r_or (h : tt σ H fun c H1 => if c = true then QB true H1 else tu σ H1 QB) : tOr tt tu σ H QB := h
theorem r_yes (q : QB true H) : tYes σ H QB := q
theorem r_not (h : tt σ H fun c H1 => QB (!c) H1) : tNot tt σ H QB := h
theorem r_andV (h : ta σ H fun x H1 => ∃ c, x = .bl c ∧ if c = true then tb σ H1 Q else Q (.bl false) H1) : tAndV ta tb σ H Q := h
theorem r_orV (h : ta σ H fun x H1 => ∃ c, x = .bl c ∧ if c = true then Q (.bl true) H1 else tb σ H1 Q) : tOrV ta tb σ H Q := h
theorem r_notV (h : ta σ H fun x H1 => ∃ c, x = .bl c ∧ Q (.bl (!c)) H1) : tNotV ta σ H Q := h
theorem r_chain (h : ta σ H fun x H1 => tb σ H1 fun y H2 => r x y H2 fun z H3 => ∃ k, z = .bl k ∧ (if k = true then tc σ H3 fun w' H4 => r' y w' H4 Q else Q (.bl false) H3)) : tChain r r' ta tb tc σ H Q := h
theorem r_nil (q : QA [] H) : tNil σ H QA := q
theorem r_cons (h : ta σ H fun x H1 => tr σ H1 fun xs H2 => QA (x :: xs) H2) : tCons ta tr σ H QA := h
theorem r_cb {r : List V → Hp → VK → Prop} (h : tr σ H fun vs H1 => r vs H1 Q) : tCB r tr σ H Q := h
theorem r_own {sp : Sp} (h : tr σ H fun vs H1 => sp vs H1 Q E0) : tOwn sp tr σ H Q := h
theorem r_int (q : Q (.int n) H) : rInt1 [.int n] H Q := .inl ⟨n, rfl, q⟩
theorem r_intB (q : Q (.int (if b then 1 else 0)) H) : rInt1 [.bl b] H Q := .inr ⟨b, rfl, q⟩
theorem r_len (h : SqL K H p xs) (q : Q (.int xs.length) H) : rLenQ K [.ref p] H Q := ⟨p, xs, rfl, .inl h, q⟩
theorem r_lenT (h : SqT K H p xs) (q : Q (.int xs.length) H) : rLenQ K [.ref p] H Q := ⟨p, xs, rfl, .inr h, q⟩
theorem r_min2 (q : Q (.int (if m < n then m else n)) H) : rMin2 [.int n, .int m] H Q := ⟨n, m, rfl, q⟩
theorem r_ixL (h : SqL K H p xs) (ha : atI xs n = some v) (q : Q v H) : rIxL K (.ref p) (.int n) H Q := ⟨p, xs, n, v, rfl, rfl, h, ha, q⟩
theorem r_ixT (h : SqT K H p xs) (ha : atI xs n = some v) (q : Q v H) : rIxT K (.ref p) (.int n) H Q := ⟨p, xs, n, v, rfl, rfl, h, ha, q⟩
theorem r_fld {C dx : Addr} {f : Str} {fs : List (Str × V)} (h : H p = some (.ins C dx fs)) (hc : Cls K C) (hn : NoAttr K C f) (hl : fs.lookup f = some v) (q : Q v H) : (fun x H1 => ∃ a C dx fs v, x = .ref a ∧ H1 a = some (.ins C dx fs) ∧ Cls K C ∧ NoAttr K C f ∧ fs.lookup f = some v ∧ Q v H1) (V.ref p) H := ⟨p, C, dx, fs, v, rfl, h, hc, hn, hl, q⟩
theorem r_tfld {f : Str} (h : ta σ H fun x H1 => (fun x H1 => ∃ a C dx fs v, x = .ref a ∧ H1 a = some (.ins C dx fs) ∧ Cls K C ∧ NoAttr K C f ∧ fs.lookup f = some v ∧ Q v H1) x H1) : tFld K ta f σ H Q := h
/-! allocations -/
theorem r_tup (h : tr σ H fun xs H1 => NewT xs H1 Q) : tTup tr σ H Q := h
theorem r_lst (h : tr σ H fun xs H1 => NewL xs H1 Q) : tLst tr σ H Q := h
theorem newT (o : Own F M H) (k : ∀ p H', F p = none → Own (upd F p (.tup xs)) M H' → Q (.ref p) H') (hl : xs.length ≤ sizeLine := by exact sz0) : NewT xs H Q := ⟨hl, fun p hp => k p _ (o.free hp) (o.newF hp)⟩
theorem newL (o : Own F M H) (k : ∀ p H', F p = none → Own F ((p, .lst xs) :: M) H' → Q (.ref p) H') (hl : xs.length ≤ sizeLine := by exact sz0) : NewL xs H Q := ⟨hl, fun p hp => k p _ (o.free hp) (o.newM hp)⟩
/-- a list that is kept as it is -/
theorem newLF (o : Own F M H) (k : ∀ p H', F p = none → Own (upd F p (.lst xs)) M H' → Q (.ref p) H') (hl : xs.length ≤ sizeLine := by exact sz0) : NewL xs H Q := ⟨hl, fun p hp => k p _ (o.free hp) (o.newF hp)⟩
theorem r_listOf (o : Own F M H) (h : SqL K H p xs ∨ SqT K H p xs) (k : ∀ l H', F l = none → Own F ((l, .lst xs) :: M) H' → Q (.ref l) H') : rListOf K [.ref p] H Q := ⟨p, xs, rfl, h, fun l hl => k l _ (o.free hl) (o.newM hl)⟩
theorem r_tupleOf (o : Own F M H) (h : SqL K H p xs) (k : ∀ l H', F l = none → Own (upd F l (.tup xs)) M H' → Q (.ref l) H') : rTupleOf K [.ref p] H Q := ⟨p, xs, rfl, .inl ⟨h, fun l hl => k l _ (o.free hl) (o.newF hl)⟩⟩
theorem r_slL {lo hi : Option Int} (o : Own F M H) (h : SqL K H p xs) (k : ∀ l H', F l = none → Own F ((l, .lst (cutV xs lo hi)) :: M) H' → Q (.ref l) H') : rSlL K (.ref p) lo hi H Q := ⟨p, xs, rfl, h, fun l hl => k l _ (o.free hl) (o.newM hl)⟩
theorem r_sl {r : V → Option Int → Option Int → Hp → VK → Prop} {tl th : TO} (h : te σ H fun x H1 => tl σ H1 fun l H2 => th σ H2 fun u H3 => r x l u H3 Q) : tSl r te tl th σ H Q := h
theorem r_nopart {Qo : Option Int → Hp → Prop} (q : Qo none H) : tNoPart σ H Qo := q
theorem r_part {Qo : Option Int → Hp → Prop} (h : te σ H fun x H1 => ∃ i, x = .int i ∧ Qo (some i) H1) : tPart te σ H Qo := h
theorem r_isint {Qo : Option Int → Hp → Prop} (q : Qo (some n) H) : ∃ i, V.int n = .int i ∧ Qo (some i) H := ⟨n, rfl, q⟩
theorem r_cat (o : Own F M H) (h1 : H p = some (.lst xs)) (h2 : H q = some (.lst ys)) (hl : xs.length + ys.length ≤ sizeLine) (k : ∀ l H', F l = none → Own F ((l, .lst (xs ++ ys)) :: M) H' → Q (.ref l) H') : rCat (.ref p) (.ref q) H Q :=
  ⟨p, q, xs, ys, rfl, rfl, h1, h2, hl, fun l hl => k l _ (o.free hl) (o.newM hl)⟩
/-! stores -/
theorem r_bm {T : String} {r : V → List V → Hp → VK → Prop} (h : ta σ H fun x H1 => tyV K T x H1 ∧ tr σ H1 fun xs H2 => r x xs H2 Q) : tBM K T r ta tr σ H Q := h
theorem r_bm0 {T : String} {r : V → List V → Hp → VK → Prop} (h : ta σ H fun x H1 => tyV K T x H1 ∧ r x [] H1 Q) : tBM0 K T r ta σ H Q := h
theorem r_tyL {R : Prop} (h : SqL K H p xs) (k : R) : tyV K "list" (.ref p) H ∧ R := ⟨.inl ⟨rfl, xs, h⟩, k⟩
theorem r_append (o : Own F M H) (i : Nat) (h : M[i]? = some (l, .lst xs)) (hl : xs.length < sizeLine) (k : ∀ H', Own F (M.set i (l, .lst (xs ++ [y]))) H' → Q .non H') : rAppend (.ref l) [y] H Q := ⟨l, xs, y, rfl, rfl, o.get i h, hl, k _ (o.set i h)⟩
theorem r_popAt (o : Own F M H) (i : Nat) (h : M[i]? = some (l, .lst xs)) {j : Nat} (h1 : -(2 ^ 63) ≤ n) (h2 : n < 2 ^ 63) (hj : seqIndex? n xs.length = some j) (hy : xs[j]? = some y) (k : ∀ H', Own F (M.set i (l, .lst (xs.eraseIdx j))) H' → Q y H') : rPopAt (.ref l) [.int n] H Q :=
  ⟨l, xs, n, j, y, rfl, rfl, o.get i h, h1, h2, hj, hy, k _ (o.set i h)⟩
theorem r_setL (o : Own F M H) (i : Nat) (h : M[i]? = some (l, .lst xs)) {j : Nat} (hj : ixN xs.length n = some j) {R : Hp → Prop} (k : ∀ H', Own F (M.set i (l, .lst (xs.set j v))) H' → R H') : rSetL (.ref l) (.int n) v H R :=
  ⟨l, xs, n, j, rfl, rfl, o.get i h, hj, k _ (o.set i h)⟩
theorem r_neD {d e : PyData} (h1 : Dp K H x d) (h2 : Dp K H y e) (s1 : SeqAt.shaped d = true) (s2 : SeqAt.shaped e = true) (q : Q (.bl (!PyData.eqv d e)) H) : rNeD K x y H Q := ⟨d, e, h1, h2, s1, s2, q⟩
theorem r_eqD {d e : PyData} (h1 : Dp K H x d) (h2 : Dp K H y e) (s1 : SeqAt.shaped d = true) (s2 : SeqAt.shaped e = true) (q : Q (.bl (PyData.eqv d e)) H) : rEqD K x y H Q := ⟨d, e, h1, h2, s1, s2, q⟩
end
/-! ### loops -/
def ForB (J : It) (g : TG) (tb : TS) (D : Ends) (σ : L2.St) (H1 : Hp) : Prop := ∃ W : Nat → Nat → L2.St → Hp → Prop, (∃ m, W 0 m σ H1) ∧ ∀ i m σ H, W i m σ H →
  (J.stop i H ∧ D.nx σ H) ∨ (J.go i H ∧ ∃ N : L2.St → Hp → Prop, (∀ σ' H', N σ' H' → ∃ m', m' < m ∧ W (i + 1) m' σ' H') ∧ ∀ x H', J.yld i H x H' → g x σ H' fun σ2 H2 => tb { D with nx := N, ct := N, bk := D.nx } σ2 H2)
def LcB (J : It) (g : TG) (tt : TT) (te : TE) (vs : List Nat) (σ : L2.St) (Q : VK) (H1 : Hp) : Prop := ∀ D, H1 D = none → ∃ W : Nat → Nat → Hp → Prop, (∃ m, W 0 m (upd H1 D (.lst []))) ∧ ∀ i m H, W i m H →
  (J.stop i H ∧ Q (.ref D) H) ∨ (J.go i H ∧ ∃ Nx : Hp → Prop, (∀ H', Nx H' → ∃ m', m' < m ∧ W (i + 1) m' H') ∧ ∀ x H', J.yld i H x H' → g x (wipe σ vs) H' fun σ2 H2 => wipe σ2 vs = wipe σ vs ∧ tt σ2 H2 fun b H3 =>
    if b = true then te σ2 H3 fun y H4 => ∃ acc, H4 D = some (.lst acc) ∧ acc.length < sizeLine ∧ Nx (upd H4 D (.lst (acc ++ [y]))) else Nx H3)
section
variable {K : PySem.W.Frag} {σ : L2.St} {H : Hp} {Q : VK} {D : Ends} {tb : TS} {te ta : TE} {tt : TT} {tr : TA} {g : TG} {wi : TI} {vs : List Nat} {F : Hp} {M : Cells} {J : It} {n : Nat} {G : Hp → Prop} {Y : Nat → Hp → V → Hp → Prop}
theorem r_for (h : wi σ H fun J H1 => ForB J g tb D σ H1) : tFor wi g tb D σ H := h
theorem r_lc (h : wi σ H fun J H1 => LcB J g tt te vs σ Q H1) : tLc wi g tt te vs σ H Q := h
theorem r_iList {R : It → Hp → Prop} (h : te σ H fun x H1 => ∃ a, x = .ref a ∧ (∃ xs, SqL K H1 a xs) ∧ R (Itl K a) H1) : iList K te σ H R := h
theorem r_iTup {R : It → Hp → Prop} (h : te σ H fun x H1 => ∃ a, x = .ref a ∧ (∃ xs, SqT K H1 a xs) ∧ R (Itt K a) H1) : iTup K te σ H R := h
theorem r_iRng1 {R : It → Hp → Prop} (h : tr σ H fun vs H1 => ∃ j : Int, vs = [.int j] ∧ -(2 ^ 62) ≤ j ∧ j < 2 ^ 62 ∧ R (Itr 0 j.toNat) H1) : iRng1 tr σ H R := h
theorem r_iRng2 {R : It → Hp → Prop} (h : tr σ H fun vs H1 => ∃ i j : Int, vs = [.int i, .int j] ∧ (-(2 ^ 62) ≤ i ∧ i < 2 ^ 62 ∧ -(2 ^ 62) ≤ j ∧ j < 2 ^ 62) ∧ R (Itr i (j - i).toNat) H1) : iRng2 tr σ H R := h
theorem r_exL {R : Prop} {p : Addr} {xs : List V} (h : SqL K H p xs) (k : R) : (∃ xs, SqL K H p xs) ∧ R := ⟨⟨xs, h⟩, k⟩
theorem r_exT {R : Prop} {p : Addr} {xs : List V} (h : SqT K H p xs) (k : R) : (∃ xs, SqT K H p xs) ∧ R := ⟨⟨xs, h⟩, k⟩
theorem r_wipe {R : Prop} {σ2 : L2.St} (h : wipe σ2 vs = wipe σ vs) (k : R) : wipe σ2 vs = wipe σ vs ∧ R := ⟨h, k⟩
theorem r_bnd {R : Prop} {j : Int} (h1 : -(2 ^ 62) ≤ j) (h2 : j < 2 ^ 62) (k : R) : -(2 ^ 62) ≤ j ∧ j < 2 ^ 62 ∧ R := ⟨h1, h2, k⟩
theorem forb (w : Walk J n G Y) (Pv : Nat → L2.St → Hp → Prop) (h0 : Pv 0 σ H) (hG : ∀ i σ H, i ≤ n → Pv i σ H → G H)
    (hs : ∀ i x σ H H', i < n → Pv i σ H → Y i H x H' → g x σ H' fun σ2 H2 => tb { D with nx := Pv (i + 1), ct := Pv (i + 1), bk := D.nx } σ2 H2) (hd : ∀ σ H, Pv n σ H → D.nx σ H) : ForB J g tb D σ H := for_it w Pv h0 hG hs hd
theorem forb_range {lo : Int} (Pv : Nat → L2.St → Hp → Prop) (h0 : Pv 0 σ H)
    (hs : ∀ i σ H, i < n → Pv i σ H → g (.int (lo + i)) σ H fun σ2 H2 => tb { D with nx := Pv (i + 1), ct := Pv (i + 1), bk := D.nx } σ2 H2) (hd : ∀ σ H, Pv n σ H → D.nx σ H) : ForB (Itr lo n) g tb D σ H := for_range Pv h0 hs hd
theorem forb_list {a : Addr} {xs : List V} (Pv : Nat → L2.St → Hp → Prop) (h0 : Pv 0 σ H) (hl : ∀ i σ H, i ≤ xs.length → Pv i σ H → SqL K H a xs)
    (hs : ∀ i x σ H, xs[i]? = some x → Pv i σ H → g x σ H fun σ2 H2 => tb { D with nx := Pv (i + 1), ct := Pv (i + 1), bk := D.nx } σ2 H2) (hd : ∀ σ H, Pv xs.length σ H → D.nx σ H) : ForB (Itl K a) g tb D σ H := for_list Pv h0 hl hs hd
theorem forb_tup {a : Addr} {xs : List V} (Pv : Nat → L2.St → Hp → Prop) (h0 : Pv 0 σ H) (hl : ∀ i σ H, i ≤ xs.length → Pv i σ H → SqT K H a xs)
    (hs : ∀ i x σ H, xs[i]? = some x → Pv i σ H → g x σ H fun σ2 H2 => tb { D with nx := Pv (i + 1), ct := Pv (i + 1), bk := D.nx } σ2 H2) (hd : ∀ σ H, Pv xs.length σ H → D.nx σ H) : ForB (Itt K a) g tb D σ H := for_tup Pv h0 hl hs hd
/-- a comprehension's list grows at D; I: what holds of the items gone through, the list so far, what is kept and what is owned beside -/
abbrev LcI := Nat → List V → Hp → Cells → Prop
def LcN (I : LcI) (D : Addr) (i : Nat) (y : V) (H : Hp) : Prop := ∃ acc F M, acc.length < sizeLine ∧ I (i + 1) (acc ++ [y]) F M ∧ Own F ((D, .lst acc) :: M) H
def LcS (I : LcI) (D : Addr) (i : Nat) (H : Hp) : Prop := ∃ acc F M, I (i + 1) acc F M ∧ Own F ((D, .lst acc) :: M) H
theorem lcb (w : Walk J n G Y) (o : Own F M H) (I : LcI) (h0 : I 0 [] F M) (hG : ∀ D i acc F' M' H', i ≤ n → I i acc F' M' → Own F' ((D, .lst acc) :: M') H' → G H')
    (hs : ∀ D i x acc F' M' H H', i < n → I i acc F' M' → Own F' ((D, .lst acc) :: M') H → Y i H x H' → g x (wipe σ vs) H' fun σ2 H2 => wipe σ2 vs = wipe σ vs ∧ tt σ2 H2 fun b H3 => if b = true then te σ2 H3 fun y H4 => ∃ acc, H4 D = some (.lst acc) ∧ acc.length < sizeLine ∧ LcS I D i (upd H4 D (.lst (acc ++ [y]))) else LcS I D i H3)
    (hd : ∀ D acc F' M' H', F D = none → I n acc F' M' → Own F' ((D, .lst acc) :: M') H' → Q (.ref D) H') : LcB J g tt te vs σ Q H := fun D hD =>
  lc_it w (fun i H' => ∃ acc F' M', I i acc F' M' ∧ Own F' ((D, .lst acc) :: M') H') ⟨[], F, M, h0, o.newM hD⟩ (fun i H' hi ⟨acc, F', M', h, o'⟩ => hG D i acc F' M' H' hi h o')
    (fun i x H' H'' hi ⟨acc, F', M', h, o'⟩ hy => hs D i x acc F' M' H' H'' hi h o' hy) (fun H' ⟨acc, F', M', h, o'⟩ => hd D acc F' M' H' (o.free hD) h o')
/-- the element is y: it goes to the list -/
theorem lcN {I : LcI} {D0 : Addr} {i : Nat} {y : V} (h : LcN I D0 i y H) : ∃ acc, H D0 = some (.lst acc) ∧ acc.length < sizeLine ∧ LcS I D0 i (upd H D0 (.lst (acc ++ [y]))) := by
  obtain ⟨acc, F, M, hl, hi, o⟩ := h
  exact ⟨acc, o.get 0, hl, _, F, M, hi, o.set 0⟩
end
theorem cdivW_of {i j : Int} (h0 : 0 < j) (h1 : j < 2 ^ 120) : CDivW i j := wide_div (b := 120) h0 (by omega) (by decide) (by decide)
theorem six {k : Int} {n j : Nat} (e : k = (j : Int)) (h : j < n) : seqIndex? k n = some j := by
  subst e
  rw [seqIndex_of (Int.natCast_nonneg j) (by omega), Int.toNat_natCast]
theorem iix {k : Int} {n j : Nat} (e : k = (j : Int)) (h : j < n) : ixN n k = some j := by
  subst e
  unfold ixN
  rw [if_pos (Int.natCast_nonneg j), if_pos (by omega), Int.toNat_natCast]
theorem get_iL {l : List Int} {j : Nat} (h : j < l.length) : (iL l)[j]? = some (.int l[j]) := by
  unfold iL
  rw [List.getElem?_map, List.getElem?_eq_getElem h]
  rfl
theorem len_iL (l : List Int) : (iL l).length = l.length := List.length_map _
def cutL {α : Type} (xs : List α) (lo hi : Option Int) : List α := (xs.drop (HT.sIx xs.length 0 lo)).take (HT.sIx xs.length xs.length hi - HT.sIx xs.length 0 lo)
theorem cutV_eq (xs : List V) (lo hi : Option Int) : cutV xs lo hi = cutL xs lo hi := rfl
theorem cutL_map {α β : Type} (f : α → β) (xs : List α) (lo hi : Option Int) : cutL (xs.map f) lo hi = (cutL xs lo hi).map f := by
  unfold cutL
  rw [List.length_map, List.map_take, List.map_drop]
theorem cutL_len {α : Type} (xs : List α) (lo hi : Option Int) : (cutL xs lo hi).length ≤ xs.length := by
  unfold cutL
  rw [List.length_take, List.length_drop]
  omega
theorem cut_iL (l : List Int) (lo hi : Option Int) : cutV (iL l) lo hi = iL (cutL l lo hi) := cutL_map _ _ _ _
theorem iL_get {l : List Int} {i : Nat} {x : V} (h : (iL l)[i]? = some x) : ∃ n, l[i]? = some n ∧ x = .int n := by
  unfold iL at h
  rw [List.getElem?_map] at h
  cases e : l[i]? with
  | none =>
    rw [e] at h
    cases h
  | some n =>
    rw [e] at h
    exact ⟨n, rfl, (Option.some.inj h).symm⟩
theorem iL_app (l : List Int) (n : Int) : iL l ++ [.int n] = iL (l ++ [n]) := by
  unfold iL
  rw [List.map_append]
  rfl
/-! shapes of data -/
def Shp (n : Nat) (d : PyData) : Prop := d.canLay0 = true ∧ d.depth ≤ n
theorem shp_int (n : Nat) (i : Int) : Shp n (.int i) := ⟨rfl, Nat.zero_le _⟩
theorem shp_bool (n : Nat) (b : Bool) : Shp n (.bool b) := ⟨rfl, Nat.zero_le _⟩
theorem shp_none (n : Nat) : Shp n .none := ⟨rfl, Nat.zero_le _⟩
theorem shp_str (n : Nat) {x : Str} (h : PyData.canLay0 (.str x) = true) : Shp n (.str x) := ⟨h, Nat.zero_le _⟩
theorem shp_all {n : Nat} : ∀ {ds : List PyData}, (∀ d ∈ ds, Shp n d) → PyData.canLayAll0 ds = true ∧ PyData.depthAll ds ≤ n
  | [], _ => ⟨rfl, Nat.zero_le _⟩
  | d :: ds, h => by
    have h1 := h d List.mem_cons_self
    have h2 := shp_all (ds := ds) fun e he => h e (List.mem_cons_of_mem _ he)
    refine ⟨?_, ?_⟩
    · rw [PyData.canLayAll0, h1.1, h2.1]
      rfl
    · rw [PyData.depthAll]
      exact Nat.max_le.mpr ⟨h1.2, h2.2⟩
theorem shp_list {n : Nat} {ds : List PyData} (h : ∀ d ∈ ds, Shp n d) : Shp (n + 1) (.list ds) := by
  have z := shp_all h
  exact ⟨by rw [PyData.canLay0]; exact z.1, by rw [PyData.depth]; exact Nat.succ_le_succ z.2⟩
theorem shp_tuple {n : Nat} {ds : List PyData} (h : ∀ d ∈ ds, Shp n d) : Shp (n + 1) (.tuple ds) := by
  have z := shp_all h
  exact ⟨by rw [PyData.canLay0]; exact z.1, by rw [PyData.depth]; exact Nat.succ_le_succ z.2⟩
theorem Shp.shaped {n : Nat} {d : PyData} (h : Shp n d) (hn : n ≤ 64 := by decide) : SeqAt.shaped d = true := by
  unfold SeqAt.shaped
  rw [h.1, decide_eq_true (Nat.le_trans h.2 hn)]
  rfl
theorem shp_iL (g : List Int) : Shp 1 (.list (g.map .int)) := shp_list fun d hd => by
  obtain ⟨i, _, rfl⟩ := List.mem_map.mp hd
  exact shp_int _ _
theorem eqv_iL_nil (g : List Int) : PyData.eqv (.list (g.map .int)) (.list []) = g.isEmpty := by
  cases g <;> rfl
end Ed

/-! ## Ed: own classes: methods, making, ==, !=, len -/
namespace Ed
open PySem PySem.Spec PyProof.Rows L2
section
variable {prog : Program} {w : World} {A : Around} {E : Value → Shared → Prop} {s : Shared} {K : PySem.W.Frag} {x C f : Addr} {ox : Obj} {od : Option Obj} {b tb : Value}
theorem ifBound_objNe {M : Model} {args : List Value} {Q : Option Value → Shared → Prop} (X : K.In s.heap) (I : PySem.W.InstAt s.heap x ox C od) (hs : PySem.W.findIn K (.ref C) "__ne__" = some (some (.builtin "object.__ne__")))
    (h : wpAny M A (call (.builtin "object.__ne__") (.ref x :: args)) (fun v => Q (some v)) E s) : wpAny M A (callSpecialIfBound? (.ref x) "__ne__" args) Q E s := by
  simp only [callSpecialIfBound?, bindSpecialIfBound?]
  refine wpAny_holding (wpAny_bind (wpAny_bind (wpAny_bind (I.type.here ((PySem.W.looks_findIn X hs).here ?_)))))
  refine wpAny_bind (wpAny_askSetting (wpAny_ite ?_))
  have fin : wpAny M A (call (.builtin "object.__ne__") ([.ref x] ++ args) >>= fun v => pure (some v)) Q E s := wpAny_bind (wpAny_mono h (fun v s' h' => wpAny_pure h') fun _ _ h' => h')
  split
  · exact wpAny_bind (wpAny_of_eq (F.cmp_object.ne.bind _) (wpAny_pure (by exact fin)))
  · exact wpAny_tryCatch (wpAny_bind (wpAny_of_eq (F.cmp_object.ne.bind _) (wpAny_pure (by exact fin))))
theorem objNe_entry (X : K.In s.heap) (I : PySem.W.InstAt s.heap x ox C od) (hu : A.units < cLine) (hs : PySem.W.findIn K (.ref C) "__eq__" = some (some (.ref f))) (hf : PySem.W.isFn K (.ref f) = true) {Q : Fin → Shared → Prop}
    (hcall : wpAny (model prog w) A (call (.ref f) [.ref x, b]) (fun v s' => ∃ k, v = .bool k ∧ Q (.done (.ret (.bool (!k)))) s') E s) :
    wpAny (model prog w) A (Builtin.«object.__ne__» ⟨[.ref x, b], []⟩) Q E s := by
  unfold Builtin.«object.__ne__»
  repeat (first
    | with_reducible refine wpAny_cRoomFor hu ?_
    | (refine wpAny_bind (m := callSpecialIfBound? (.ref x) (Str.ofString "__eq__") [b])
        (PySem.W.ifBound_K X I hs hf (wpAny_mono hcall (fun r s' hr => by
          obtain ⟨k, rfl, hq⟩ := hr
          repeat (first | exact hq | exact wpAny_pure hq | exact wpAny_truthy_bool hq | (refine wpAny_bind (m := truthy (.bool _)) (wpAny_truthy_bool ?_)) | wp_step)) fun _ _ e => e)))
    | wp_step)
/-- x != b, x an instance with its own == and no own != -/
theorem ne_own {Q : Value → Shared → Prop} (hu : A.units + 1 < cLine) (X : K.In s.heap) (I : PySem.W.InstAt s.heap x ox C od) (hb : PySem.W.Looks (model prog w) s.heap (typeOf b) tb) (hn : PySem.W.notFirst K C tb = true)
    (hm : PySem.W.mroIn K C (.type "object") = some true) (hne : PySem.W.findIn K (.ref C) "__ne__" = some (some (.builtin "object.__ne__"))) (hs : PySem.W.findIn K (.ref C) "__eq__" = some (some (.ref f))) (hf : PySem.W.isFn K (.ref f) = true)
    (h : wpAny (model prog w) A.in1 (call (.ref f) [.ref x, b]) (fun v s' => ∃ k, v = .bool k ∧ Q (.bool (!k)) s') E s) : wpAny (model prog w) A (richCompare .NotEq (.ref x) b) Q E s := by
  have one : wpAny (model prog w) A (tryCompare (.ref x) "__ne__" b) (fun r s' => ∃ v, r = some v ∧ Q v s') E s := by
    unfold tryCompare
    refine wpAny_bind (ifBound_objNe X I hne (wpAny_call (codeAny_call_builtin F.cmp_object.ne.plain F.cmpEntry_ne (PySem.W.check_slot F.cmpKind_ne F.cmpSplit_ne (I.type.andThen (PySem.W.looks_mroIn X hm)) (F.cmpArgs_ne _ _)
      (objNe_entry (A := A.in1) X I hu hs hf (wpAny_mono h (fun v s' hv => ?_) fun _ _ e => e))))))
    obtain ⟨k, rfl, hq⟩ := hv
    refine ⟨k, rfl, ?_⟩
    first | exact wpAny_pure ⟨_, rfl, hq⟩ | exact ⟨_, rfl, hq⟩
  simp only [richCompare, cmpInfo_NotEq, oneThing_ref]
  refine wpAny_holding (wpAny_bind (wpAny_cRoomFor (Nat.lt_of_succ_lt hu) ?_))
  refine wpAny_bind (I.type.here (wpAny_bind (hb.here ?_)))
  split
  · rename_i q
    have e : PySem.W.subIn K tb (.ref C) = some false := by
      rcases Bool.or_eq_true_iff.mp hn with e | e
      · rw [beq_iff_eq.mp e] at q; simp at q
      · exact beq_iff_eq.mp e
    refine wpAny_bind ((PySem.W.looks_subIn X e).here ?_)
    simp only [Bool.false_eq_true, if_false]
    refine wpAny_bind (wpAny_mono one (fun r s' z => ?_) fun _ _ e => e)
    obtain ⟨v, rfl, hq⟩ := z
    exact wpAny_pure hq
  · refine wpAny_bind (wpAny_pure ?_)
    simp only [Bool.false_eq_true, if_false]
    refine wpAny_bind (wpAny_mono one (fun r s' z => ?_) fun _ _ e => e)
    obtain ⟨v, rfl, hq⟩ := z
    exact wpAny_pure hq
end
/-- a class with its own ==, at f -/
structure OwnEq (K : PySem.W.Frag) (C f : Addr) : Prop where
  eq : PySem.W.findIn K (.ref C) "__eq__" = some (some (.ref f))
  fn : PySem.W.isFn K (.ref f) = true
  ne : PySem.W.findIn K (.ref C) "__ne__" = some (some (.builtin "object.__ne__"))
  ob : PySem.W.mroIn K C (.type "object") = some true
def ownEqB (K : PySem.W.Frag) (x : Str) : Bool := decide (PySem.W.findIn K (.ref (He.ga K x)) "__eq__" = some (some (.ref (He.ma K (He.ga K x) "__eq__")))) && PySem.W.isFn K (.ref (He.ma K (He.ga K x) "__eq__")) &&
  decide (PySem.W.findIn K (.ref (He.ga K x)) "__ne__" = some (some (.builtin "object.__ne__"))) && decide (PySem.W.mroIn K (He.ga K x) (.type "object") = some true)
theorem ownEq_of {K : PySem.W.Frag} {x : Str} (h : ownEqB K x = true) : OwnEq K (He.ga K x) (He.ma K (He.ga K x) "__eq__") := by
  unfold ownEqB at h
  simp only [Bool.and_eq_true, decide_eq_true_eq] at h
  exact ⟨h.1.1.1, h.1.1.2, h.1.2, h.2⟩
/-- what isinstance asks of an own class -/
structure InsTy (K : PySem.W.Frag) (C : Addr) : Prop where
  ha : PySem.W.findIn K (.ref C) "__class__" = some (some (.builtin "object.__class__"))
  hn : PySem.W.specialIn K (.builtin "object.__class__") "__get__" = some (some (.builtin "getset_descriptor.__get__"))
  htk : PySem.W.takesIn K (.builtin "object.__class__") = some true
  hm : PySem.W.mroIn K C (.type "object") = some true
def insTyB (K : PySem.W.Frag) (C : Addr) : Bool := decide (PySem.W.findIn K (.ref C) "__class__" = some (some (.builtin "object.__class__"))) && decide (PySem.W.specialIn K (.builtin "object.__class__") "__get__" = some (some (.builtin "getset_descriptor.__get__"))) &&
  decide (PySem.W.takesIn K (.builtin "object.__class__") = some true) && decide (PySem.W.mroIn K C (.type "object") = some true)
theorem insTy_of {K : PySem.W.Frag} {C : Addr} (h : insTyB K C = true) : InsTy K C := by
  unfold insTyB at h
  simp only [Bool.and_eq_true, decide_eq_true_eq] at h
  exact ⟨h.1.1.1, h.1.1.2, h.1.2, h.2⟩
theorem InsTy.ty {K : PySem.W.Frag} {C a dx : Addr} {H : Hp} {fs : List (Str × V)} (i : InsTy K C) (c : Cls K C) (e : H a = some (.ins C dx fs)) : TyX K H (.ref a) (.ref C) := .base (.ins e c i.ha i.hn i.htk i.hm)
/-- x == y by the own == of x's class: its promise sp, a truth value -/
def rOwn (K : PySem.W.Frag) (C : Addr) (sp : Sp) (neg : Bool) : R2 := fun x y H Q => ∃ a dx fs t, x = .ref a ∧ H a = some (.ins C dx fs) ∧ TyX K H y t ∧ PySem.W.notFirst K C t = true ∧
  sp [x, y] H (fun v H' => ∃ b, v = .bl b ∧ Q (.bl (if neg then !b else b)) H') E0
section
variable {X : Cx} {C f : Addr} {k : Nat} {sp : Sp}
theorem op_eqO (q : OwnEq X.K C f) (F : FnR X.prog X.w X.K X.mg X.base CX0 k f sp) (hr : Room k X.A) : OpR X (compareOp .Eq) (rOwn X.K C sp false) := by
  intro pins s σ H x y u v Q I rx ry h
  obtain ⟨a, dx, fs, t, rfl, ha, ty, hn, hsp⟩ := h
  obtain rfl : u = Value.ref a := rx
  obtain ⟨mA, J, _⟩ := ins_get I.hok ha
  obtain ⟨od, J, _⟩ := J.look
  obtain ⟨m, hF⟩ := I.fr
  obtain ⟨Pt, kx, hP, _⟩ := kit_of I ry ty
  show wpAny (model X.prog X.w) X.A (richCompare .Eq (.ref a) v) (EP X pins σ Q) X.xe s
  refine PySem.W.cmp_K (op := .Eq) hr.units0 hF I.ok.mod.kin J (kx.ty _ _ I.kIn hP) hn q.eq q.fn ?_
  refine wpAny_call (codeAny_mono (run_fnR (vs := [.ref a, y]) F hr pass0 I (.cons rfl (.cons ry .nil)) hsp) fun r s' hq => ?_)
  cases r with
  | error e => exact hq
  | ok fl =>
    cases fl with
    | ret z =>
      obtain ⟨v', H', I', rv, b, rfl, hq⟩ := hq
      obtain rfl : z = Value.bool b := rv
      exact ⟨.bl b, H', I', rfl, hq⟩
    | next => exact False.elim hq
    | brk => exact False.elim hq
    | cont => exact False.elim hq
theorem in1_env0 {P : Program} {w : World} {K : PySem.W.Frag} {mg : Str → Option Value} {base : Heap} {A : Around} {outer : List Env} {s : Shared} {H : Hp} (e : Env0 P w K mg base A outer s H) : Env0 P w K mg base A.in1 outer s H := e.in1
/-- the callee runs one C frame deeper -/
theorem run_in1 {pins : List (Addr × Obj)} {σ : L2.St} {H : Hp} {s : Shared} {Q : VK} {us : List Value} {vs : List V} (F : FnR X.prog X.w X.K X.mg X.base CX0 k f sp) (hr : Room (k + 1) X.A) (I : Inv X pins σ H s) (r : Vals vs us) (h : sp vs H Q E0) :
    wpAny (model X.prog X.w) X.A.in1 (call (.ref f) us) (EP X pins σ Q) X.xe s := by
  refine wpAny_call (codeAny_mono (F X.A.in1 X.stack s H us vs Q E0 hr.in1 I.env0.in1 r h) fun r s' hq => ?_)
  cases r with
  | error e => exact False.elim hq
  | ok fl =>
    cases fl with
    | ret u => exact I.after hq
    | next => exact False.elim hq
    | brk => exact False.elim hq
    | cont => exact False.elim hq
theorem op_neO (q : OwnEq X.K C f) (F : FnR X.prog X.w X.K X.mg X.base CX0 k f sp) (hr : Room (k + 1) X.A) : OpR X (compareOp .NotEq) (rOwn X.K C sp true) := by
  intro pins s σ H x y u v Q I rx ry h
  obtain ⟨a, dx, fs, t, rfl, ha, ty, hn, hsp⟩ := h
  obtain rfl : u = Value.ref a := rx
  obtain ⟨mA, J, _⟩ := ins_get I.hok ha
  obtain ⟨od, J, _⟩ := J.look
  obtain ⟨Pt, kx, hP, _⟩ := kit_of I ry ty
  show wpAny (model X.prog X.w) X.A (richCompare .NotEq (.ref a) v) (EP X pins σ Q) X.xe s
  refine ne_own (hu_of hr) I.kIn J (kx.ty _ _ I.kIn hP) hn q.ob q.ne q.eq q.fn ?_
  refine thn (run_in1 (vs := [.ref a, y]) F hr I (.cons rfl (.cons ry .nil)) hsp) fun z s' hq => ?_
  obtain ⟨v', H', I', rv, b, rfl, hq⟩ := hq
  obtain rfl : z = Value.bool b := rv
  exact ⟨b, rfl, .bl (!b), H', I', rfl, hq⟩
/-- len(x) by the own __len__ of x's class -/
def rLenO (C : Addr) (sp : Sp) : List V → Hp → VK → Prop := fun xs H Q => ∃ a dx fs, xs = [.ref a] ∧ H a = some (.ins C dx fs) ∧ sp xs H (fun v H' => ∃ n : Int, v = .int n ∧ 0 ≤ n ∧ n < 2 ^ 63 ∧ Q (.int n) H') E0
theorem c_lenO (hs : PySem.W.findIn X.K (.ref C) "__len__" = some (some (.ref f))) (hf : PySem.W.isFn X.K (.ref f) = true) (F : FnR X.prog X.w X.K X.mg X.base CX0 k f sp) (hr : Room (k + 1) X.A) : CallR X (.builtin "len") (rLenO C sp) := by
  intro pins s σ H xs us Q I r h
  obtain ⟨a, dx, fs, rfl, ha, hsp⟩ := h
  obtain ⟨u, rfl, ru⟩ := vals1 r
  obtain rfl : u = Value.ref a := ru
  obtain ⟨mA, J, _⟩ := ins_get I.hok ha
  obtain ⟨od, J, _⟩ := J.look
  obtain ⟨m, hF⟩ := I.fr
  refine PySem.W.len_K hF I.ok.mod.kin J hs hf ?_
  refine thn (run_in1 (vs := [.ref a]) F hr I (.cons rfl .nil) hsp) fun z s' hq => ?_
  obtain ⟨v', H', I', rv, n, rfl, h0, h1, hq⟩ := hq
  obtain ⟨t, rfl⟩ := rv
  exact ⟨⟨h0, h1⟩, .int n, H', I'.tok _, ⟨_, rfl⟩, hq⟩
end
/-! ### more of data -/
section
variable {K : PySem.W.Frag} {F F' : Hp} {v : V} {vs : List V} {d : PyData} {ds es : List PyData}
theorem dpAll_len : ∀ {vs : List V} {ds : List PyData}, DpAll K F vs ds → vs.length = ds.length
  | _, _, .nil => rfl
  | _, _, .cons _ t => congrArg Nat.succ (dpAll_len t)
theorem dpAll_get : ∀ {vs : List V} {ds : List PyData} {i : Nat} {v : V}, DpAll K F vs ds → vs[i]? = some v → ∃ d, ds[i]? = some d ∧ Dp K F v d
  | _, _, _, _, .nil, h => by cases h
  | _, _, 0, _, .cons a _, h => by
    cases h
    exact ⟨_, rfl, a⟩
  | _, _, i + 1, v, .cons _ t, h => dpAll_get (i := i) (v := v) t h
theorem dpAll_at : ∀ {vs : List V} {ds : List PyData} {i : Nat} {d : PyData}, DpAll K F vs ds → ds[i]? = some d → ∃ v, vs[i]? = some v ∧ Dp K F v d
  | _, _, _, _, .nil, h => by cases h
  | _, _, 0, _, .cons a _, h => by
    cases h
    exact ⟨_, rfl, a⟩
  | _, _, i + 1, v, .cons _ t, h => dpAll_at (i := i) (d := v) t h
theorem dpAll_app : ∀ {vs ws : List V} {ds es : List PyData}, DpAll K F vs ds → DpAll K F ws es → DpAll K F (vs ++ ws) (ds ++ es)
  | _, _, _, _, .nil, h => h
  | _, _, _, _, .cons a t, h => .cons a (dpAll_app t h)
theorem dpAll_snoc (h : DpAll K F vs ds) (a : Dp K F v d) : DpAll K F (vs ++ [v]) (ds ++ [d]) := dpAll_app h (.cons a .nil)
theorem dp_list_inv (h : Dp K F v (.list ds)) : ∃ a xs, v = .ref a ∧ SqL K F a xs ∧ DpAll K F xs ds := by
  cases h with
  | lst h a => exact ⟨_, _, rfl, h, a⟩
theorem dp_tup_inv (h : Dp K F v (.tuple ds)) : ∃ a xs, v = .ref a ∧ SqT K F a xs ∧ DpAll K F xs ds := by
  cases h with
  | tup h a => exact ⟨_, _, rfl, h, a⟩
theorem dp_int_inv {i : Int} (h : Dp K F v (.int i)) : v = .int i := by
  cases h
  rfl
theorem dp_bool_inv {i : Bool} (h : Dp K F v (.bool i)) : v = .bl i := by
  cases h
  rfl
theorem dp_str_inv {i : Str} (h : Dp K F v (.str i)) : v = .str i := by
  cases h
  rfl
theorem dpAll_cons_inv (h : DpAll K F vs (d :: ds)) : ∃ v ws, vs = v :: ws ∧ Dp K F v d ∧ DpAll K F ws ds := by
  cases h with
  | cons a t => exact ⟨_, _, rfl, a, t⟩
theorem dpAll_nil_inv (h : DpAll K F vs []) : vs = [] := by
  cases h
  rfl
theorem dp_newT {p : Addr} (hp : F p = none) (h : DpAll K F vs ds) : Dp K (upd F p (.tup vs)) (.ref p) (.tuple ds) := .tup (SqT.of upd_same) (dpAll_mono (same_upd hp) h)
theorem dp_newL {p : Addr} (hp : F p = none) (h : DpAll K F vs ds) : Dp K (upd F p (.lst vs)) (.ref p) (.list ds) := .lst (SqL.of upd_same) (dpAll_mono (same_upd hp) h)
end
theorem take_snoc {α : Type} {l : List α} {i : Nat} {x : α} (h : l[i]? = some x) : l.take (i + 1) = l.take i ++ [x] := by
  rw [List.take_add_one, h]
  rfl
theorem map_get {α β : Type} {f : α → β} {l : List α} {i : Nat} {y : β} (h : (l.map f)[i]? = some y) : ∃ x, l[i]? = some x ∧ y = f x := by
  rw [List.getElem?_map] at h
  cases e : l[i]? with
  | none =>
    rw [e] at h
    cases h
  | some x =>
    rw [e] at h
    exact ⟨x, rfl, (Option.some.inj h).symm⟩
theorem kit_self {K : PySem.W.Frag} (t : Value) : PySem.W.kitOne K t t = some true := by
  unfold PySem.W.kitOne
  rw [if_pos (by simp)]
/-! ### methods by their bodies -/
theorem fnR_by {P : Program} {w : World} {K : PySem.W.Frag} {mg : Str → Option Value} {base : Heap} {x qual : Str} {params : Arguments} {body : List Stmt} {scope : Scope} {dvs dv : List V} {kws : List (Str × V)} {f : Addr} {fd : FuncData} {N ps : List Str} {k : Nat} {sp : Sp}
    (F : FunD K x qual params body scope dvs kws f fd) (S : FnScope N ps scope) (len : ∀ vs H Q E, sp vs H Q E → vs.length = ps.length) (hb : ∃ ds, Vals dv ds ∧ Binds K fd ps ds)
    (hbody : ∀ (cdv : Value) (A : Around) (outer : List Env) (s : Shared) (H : Hp) (vs : List V) (Q : VK) (E : XK), Room k (A.deeper (envOfC qual scope s.heap.objs.size f cdv)) → sp vs H Q E →
      ∃ t, PSs (cxOf CX0 P w K mg base N qual scope f cdv A outer s H E).nox body t ∧ t { nx := fun _ H' => Q .non H', rt := Q } (start N vs) H) : FnR P w K mg base CX0 (k + 1) f (fun vs H Q E => sp (vs ++ dv) H Q E) := by
  have G := F.ok (P := P) (w := w) (mg := mg) (base := base) (CX := CX0) S len fun cdv A outer s H vs Q E hr hsp => by
    obtain ⟨t, h, q⟩ := hbody cdv A outer s H vs Q E hr hsp
    exact ⟨t, h.nox, q⟩
  obtain ⟨ds, hd, hb⟩ := hb
  exact G.raw hb hd
theorem fnR_nil {P : Program} {w : World} {K : PySem.W.Frag} {mg : Str → Option Value} {base : Heap} {k : Nat} {f : Addr} {sp : Sp} (F : FnR P w K mg base CX0 k f (fun vs H Q E => sp (vs ++ []) H Q E)) : FnR P w K mg base CX0 k f sp :=
  F.imp fun vs H Q E h => by
    rw [List.append_nil]
    exact h
/-- def m(a, .., *v) -/
theorem fnR_star {P : Program} {w : World} {K : PySem.W.Frag} {mg : Str → Option Value} {base : Heap} {x qual : Str} {params : Arguments} {body : List Stmt} {scope : Scope} {kws : List (Str × V)} {f : Addr} {fd : FuncData} {N ps : List Str} {pv : Str} {k : Nat} {sp : Sp}
    (F : FunD K x qual params body scope [] kws f fd) (S : FnScope N (ps ++ [pv]) scope)
    (hb : ∀ (kV doc pm : Value) (an : Option Addr) (cdv ct : Value) (us rest : List Value), us.length = ps.length → bindArgs (PySem.W.fnOf x qual params body scope .none kV doc pm an cdv ct) ⟨us ++ rest, []⟩ = (newTuple rest >>= fun t => pure (ps.zip us ++ [(pv, t)])))
    (hbody : ∀ (cdv : Value) (A : Around) (outer : List Env) (s : Shared) (H : Hp) (vs : List V) (Q : VK) (E : XK), Room k (A.deeper (envOfC qual scope s.heap.objs.size f cdv)) → sp vs H Q E →
      ∃ t, PSs (cxOf CX0 P w K mg base N qual scope f cdv A outer s H E).nox body t ∧ t { nx := fun _ H' => Q .non H', rt := Q } (start N vs) H) :
    FnR P w K mg base CX0 (k + 1) f (fun vs H Q E => ∃ ws rest, vs = ws ++ rest ∧ ws.length = ps.length ∧ rest.length ≤ sizeLine ∧ ∀ p, H p = Option.none → sp (ws ++ [V.ref p]) (upd H p (.tup rest)) Q E) := by
  obtain ⟨oc, od, dV, kV, doc, pm, an, cdv, ct, osl, rfl, lk, hcd, hD, _⟩ := F.ex
  rcases hD with ⟨_, rfl⟩ | ⟨e, _⟩
  · exact StX.fn_star lk hcd S StX.cxUp_none (hb kV doc pm an cdv ct) fun A outer s H vs Q E hr hsp => by
      obtain ⟨t, h, q⟩ := hbody cdv A outer s H vs Q E hr hsp
      exact ⟨t, h.nox, q⟩
  · exact absurd rfl e
theorem lt1k {n : Nat} (h : (n + 1).ble 1000 = true := by rfl) : n < 1000 := Nat.le_of_ble_eq_true h
/-! ### readings -/
def MkB (C : Addr) (sp : Sp) (E : XK) (vs : List V) (H : Hp) (Q : VK) : Prop := ∀ x dx, H x = none → H dx = none → dx ≠ x → sp (V.ref x :: vs) (upd (upd H dx (.own x)) x (.ins C dx [])) (fun v H2 => v = .non ∧ Q (.ref x) H2) E
section
variable {K : PySem.W.Frag} {σ : L2.St} {H : Hp} {Q : VK} {D : Ends} {te ta tv : TE} {tr : TA} {F : Hp} {M : Cells} {p C dx : Addr} {vs : List V} {sp : Sp} {E : XK} {v y : V} {f m : Str} {fs : List (Str × V)}
theorem r_make (h : tr σ H fun vs H1 => MkB C sp E vs H1 Q) : StX.tMakeR C sp E tr σ H Q := h
theorem mkb (o : Own F M H) (k : ∀ x dx H', F x = none → F dx = none → dx ≠ x → Own F ((x, .ins C dx []) :: (dx, .own x) :: M) H' → sp (.ref x :: vs) H' (fun v H2 => v = .non ∧ Q (.ref x) H2) E) : MkB C sp E vs H Q := fun x dx hx hd ne =>
  k x dx _ (o.free hx) (o.free hd) ne ((o.newM hd).newM (by rw [upd_ne (Ne.symm ne)]; exact hx))
theorem r_methR (h : ta σ H fun x H1 => ∃ a dx fs, x = .ref a ∧ H1 a = some (.ins C dx fs) ∧ fs.lookup m = none ∧ tr σ H1 fun vs H2 => sp (x :: vs) H2 Q E) : tMethR C m sp E ta tr σ H Q := h
theorem r_recv {R : Prop} (h : H p = some (.ins C dx fs)) (hl : fs.lookup m = none) (k : R) : ∃ a dx fs, V.ref p = .ref a ∧ H a = some (.ins C dx fs) ∧ fs.lookup m = none ∧ R := ⟨p, dx, fs, rfl, h, hl, k⟩
theorem r_sfld (h : tv σ H fun y H1 => ta σ H1 fun x H2 => ∃ a C dx fs, x = .ref a ∧ H2 a = some (.ins C dx fs) ∧ Cls K C ∧ NoAttr K C f ∧ fs.length < 1000 ∧ D.nx σ (upd H2 a (.ins C dx (putF f y fs)))) : sFld K ta tv f D σ H := h
theorem r_setF {R : Hp → Prop} (o : Own F M H) (i : Nat) (h : M[i]? = some (p, .ins C dx fs)) (hc : Cls K C) (hn : NoAttr K C f) (k : ∀ H', Own F (M.set i (p, .ins C dx (putF f y fs))) H' → R H') (hl : fs.length < 1000 := by exact lt1k) :
    ∃ a C dx fs, V.ref p = .ref a ∧ H a = some (.ins C dx fs) ∧ Cls K C ∧ NoAttr K C f ∧ fs.length < 1000 ∧ R (upd H a (.ins C dx (putF f y fs))) := ⟨p, C, dx, fs, rfl, o.get i h, hc, hn, hl, k _ (o.set i h)⟩
theorem r_getF (h : H p = some (.ins C dx fs)) (hc : Cls K C) (hn : NoAttr K C f) (hl : fs.lookup f = some v) (q : Q v H) : ∃ a C dx fs v, V.ref p = .ref a ∧ H a = some (.ins C dx fs) ∧ Cls K C ∧ NoAttr K C f ∧ fs.lookup f = some v ∧ Q v H := ⟨p, C, dx, fs, v, rfl, h, hc, hn, hl, q⟩
theorem r_tfld' (h : ta σ H fun x H1 => ∃ a C dx fs v, x = .ref a ∧ H1 a = some (.ins C dx fs) ∧ Cls K C ∧ NoAttr K C f ∧ fs.lookup f = some v ∧ Q v H1) : tFld K ta f σ H Q := h
end
end Ed

/-! ## Ed: texts -/
namespace Ed
open PySem PySem.Spec PyProof.Rows L2
def rJoin (K : PySem.W.Frag) : V → List V → Hp → VK → Prop := fun x xs H Q => ∃ a p, ∃ ys : List Str, x = .str a ∧ xs = [.ref p] ∧ (SqL K H p (ys.map V.str) ∨ SqT K H p (ys.map V.str)) ∧ (ys.map (·.length)).sum + ys.length * a.length ≤ 16777216 ∧ Q (.str (Txt.join a ys)) H
def rSplit : V → List V → Hp → VK → Prop := fun x xs H Q => ∃ a b, x = .str a ∧ xs = [.str b] ∧ (b.length == 0) = false ∧ a.length + 2 ≤ sizeLine ∧ rNewStrs (Txt.split a b) H Q
def rPart : V → List V → Hp → VK → Prop := fun x xs H Q => ∃ a b, x = .str a ∧ xs = [.str b] ∧ (b.length == 0) = false ∧ a.length ≤ sizeLine ∧ ∀ p, H p = none → Q (.ref p) (upd H p (.tup [.str (Txt.partition a b).1, .str (Txt.partition a b).2.1, .str (Txt.partition a b).2.2]))
def rStarts : V → List V → Hp → VK → Prop := fun x xs H Q => ∃ a b, x = .str a ∧ xs = [.str b] ∧ Q (.bl (Txt.startswith a b)) H
def rEnds : V → List V → Hp → VK → Prop := fun x xs H Q => ∃ a b, x = .str a ∧ xs = [.str b] ∧ Q (.bl (Txt.endswith a b)) H
def rCatS : R2 := fun x y H Q => ∃ i j, x = .str i ∧ y = .str j ∧ i.length + j.length ≤ sizeLine ∧ Q (.str (i ++ j)) H
def rStrI : List V → Hp → VK → Prop := fun xs H Q => ∃ i, xs = [.int i] ∧ i.natAbs.log2 < 1920 ∧ Q (.str (toString i)) H
def rLenS' : List V → Hp → VK → Prop := fun xs H Q => ∃ a : Str, xs = [.str a] ∧ a.length ≤ sizeLine ∧ Q (.int a.length) H
section
variable {X : Cx} {o e : Expr} {to te : TE} {apos pos : Pos}
theorem kJoin (K : PySem.W.Frag) (ho : PE X o to) (he : PE X e te) (hs : starEach [e] X.env = [(false, eval e X.env)] := by rfl) (hbase : attributeBase o "join" X.env (eval o X.env) = eval o X.env := by rfl) (hline : (apos.endLine == pos.line) = true := by rfl) (hK : X.K = K := by rfl) :
    PE X (.Call (.Attribute o "join" apos) [e] [] pos) (tM1 (rJoin K) to te) := by
  subst hK
  exact pe_join ho he hs hbase hline
theorem kSplit (ho : PE X o to) (he : PE X e te) (hs : starEach [e] X.env = [(false, eval e X.env)] := by rfl) (hbase : attributeBase o "split" X.env (eval o X.env) = eval o X.env := by rfl) (hline : (apos.endLine == pos.line) = true := by rfl) :
    PE X (.Call (.Attribute o "split" apos) [e] [] pos) (tM1 rSplit to te) := pe_split ho he hs hbase hline
theorem kPart (ho : PE X o to) (he : PE X e te) (hs : starEach [e] X.env = [(false, eval e X.env)] := by rfl) (hbase : attributeBase o "partition" X.env (eval o X.env) = eval o X.env := by rfl) (hline : (apos.endLine == pos.line) = true := by rfl) :
    PE X (.Call (.Attribute o "partition" apos) [e] [] pos) (tM1 rPart to te) := pe_partition ho he hs hbase hline
theorem m_starts : MtR X "str.startswith" rStarts := mt_startswith
theorem m_ends : MtR X "str.endswith" rEnds := mt_endswith
theorem o_catS : OpR X (binaryOp .Add) rCatS := op_add_str
theorem c_strI : CallR X (.type "str") rStrI := call_str_int
theorem c_lenS : CallR X (.builtin "len") rLenS' := call_len_str
end
section
variable {K : PySem.W.Frag} {σ : L2.St} {H : Hp} {Q : VK} {F : Hp} {M : Cells} {p : Addr} {to te : TE} {a b z : Str} {n : Int}
theorem r_m1 {r : V → List V → Hp → VK → Prop} (h : to σ H fun x H1 => (∃ a, x = .str a) ∧ te σ H1 fun y H2 => r x [y] H2 Q) : tM1 r to te σ H Q := h
theorem r_isS {R : Prop} (k : R) : (∃ a, V.str z = .str a) ∧ R := ⟨⟨z, rfl⟩, k⟩
theorem r_join {ys : List Str} (h : SqL K H p (ys.map V.str)) (hb : (ys.map (·.length)).sum + ys.length * a.length ≤ 16777216) (q : Q (.str (Txt.join a ys)) H) : rJoin K (.str a) [.ref p] H Q := ⟨a, p, ys, rfl, rfl, .inl h, hb, q⟩
theorem r_starts (q : Q (.bl (Txt.startswith a b)) H) : rStarts (.str a) [.str b] H Q := ⟨a, b, rfl, rfl, q⟩
theorem r_ends (q : Q (.bl (Txt.endswith a b)) H) : rEnds (.str a) [.str b] H Q := ⟨a, b, rfl, rfl, q⟩
theorem r_catS (h : a.length + b.length ≤ sizeLine) (q : Q (.str (a ++ b)) H) : rCatS (.str a) (.str b) H Q := ⟨a, b, rfl, rfl, h, q⟩
theorem r_strI (h : n.natAbs.log2 < 1920) (q : Q (.str (toString n)) H) : rStrI [.int n] H Q := ⟨n, rfl, h, q⟩
theorem r_lenS (h : a.length ≤ sizeLine) (q : Q (.int a.length) H) : rLenS' [.str a] H Q := ⟨a, rfl, h, q⟩
theorem r_ixS {c : Nat} (h : z.length ≤ sizeLine) (ha : atI z.cps.toList n = some c) (q : Q (.str ⟨#[c]⟩) H) : rIxS (.str z) (.int n) H Q := ⟨z, n, c, rfl, rfl, h, ha, q⟩
theorem r_slS {lo hi : Option Int} (h : z.length ≤ sizeLine) (q : Q (.str (cutS z lo hi)) H) : rSlS (.str z) lo hi H Q := ⟨z, rfl, h, q⟩
theorem r_split (o : Own F M H) (hb : (b.length == 0) = false) (ha : a.length + 2 ≤ sizeLine) (k : ∀ l H', F l = none → Own F ((l, .lst ((Txt.split a b).map V.str)) :: M) H' → Q (.ref l) H') : rSplit (.str a) [.str b] H Q := ⟨a, b, rfl, rfl, hb, ha, fun l hl => k l _ (o.free hl) (o.newM hl)⟩
theorem r_partn (o : Own F M H) (hb : (b.length == 0) = false) (ha : a.length ≤ sizeLine) (k : ∀ l H', F l = none → Own (upd F l (.tup [.str (Txt.partition a b).1, .str (Txt.partition a b).2.1, .str (Txt.partition a b).2.2])) M H' → Q (.ref l) H') : rPart (.str a) [.str b] H Q :=
  ⟨a, b, rfl, rfl, hb, ha, fun l hl => k l _ (o.free hl) (o.newF hl)⟩
end
theorem perm_mid (A S M : Cells) : (A ++ (S ++ M)).Perm (S ++ (A ++ M)) := by
  rw [← List.append_assoc, ← List.append_assoc]
  exact List.perm_append_comm.append_right M
/-- draw(source, n), other cells A ahead -/
theorem use_draw {F : Hp} {S M : Cells} {H : Hp} {a : Addr} {n : Int} {Q : VK} {E : XK} (A : Cells) (o : Own F (A ++ (S ++ M)) H) (hs : Src a S) (h0 : 0 < n) (h1 : n < 2 ^ 120)
    (k : ∀ r S' H', 0 ≤ r → r < n → Src a S' → Own F (A ++ (S' ++ M)) H' → Q (.int r) H') : spDraw [.ref a, .int n] H Q E :=
  ⟨_, _, rfl, a, n, F, S, A ++ M, rfl, rfl, h0, h1, hs, o.perm (perm_mid A S M), fun r S' H' r0 r1 hs' o' => k r S' H' r0 r1 hs' (o'.perm (perm_mid A S' M).symm)⟩
/-- the signs of a text -/
abbrev cps (z : Str) : List Nat := z.cps.toList
theorem at_lt {α : Type} {xs : List α} {n : Int} (h0 : 0 ≤ n) (h1 : n < xs.length) : ∃ c, atI xs n = some c ∧ c ∈ xs := by
  have h : n.toNat < xs.length := by omega
  refine ⟨xs[n.toNat], ?_, List.getElem_mem h⟩
  have e := atI_nat (List.getElem?_eq_getElem h)
  rw [Int.toNat_of_nonneg h0] at e
  exact e
end Ed

/-! ## Ed: str of own things, f-texts, lists unpacked, making by keywords -/
namespace Ed
open PySem PySem.Spec PyProof.Rows L2
/-- either of two targets -/
def gOr (g h : TG) : TG := fun v σ H Q => g v σ H Q ∨ h v σ H Q
theorem pg_or {X : Cx} {e : Expr} {g h : TG} (a : PG X e g) (b : PG X e h) : PG X e (gOr g h) := ⟨fun pins s σ H v u Q I r hw => hw.elim (a.run pins s σ H v u Q I r) (b.run pins s σ H v u Q I r)⟩
/-- str(x), x with its own __str__ -/
def rStrO (C : Addr) (sp : Sp) : List V → Hp → VK → Prop := fun xs H Q => ∃ a dx fs, xs = [.ref a] ∧ H a = some (.ins C dx fs) ∧ sp xs H (fun v H' => ∃ z : Str, v = .str z ∧ Q (.str z) H') E0
theorem run_in2 {X : Cx} {f : Addr} {k : Nat} {sp : Sp} {pins : List (Addr × Obj)} {σ : L2.St} {H : Hp} {s : Shared} {Q : VK} {us : List Value} {vs : List V} (F : FnR X.prog X.w X.K X.mg X.base CX0 k f sp) (hr : Room (k + 2) X.A) (I : Inv X pins σ H s) (r : Vals vs us) (h : sp vs H Q E0) :
    wpAny (model X.prog X.w) X.A.in1.in1 (call (.ref f) us) (EP X pins σ Q) X.xe s := by
  refine wpAny_call (codeAny_mono (F X.A.in1.in1 X.stack s H us vs Q E0 hr.in1.in1 I.env0.in1.in1 r h) fun r s' hq => ?_)
  cases r with
  | error e => exact False.elim hq
  | ok fl =>
    cases fl with
    | ret u => exact I.after hq
    | next => exact False.elim hq
    | brk => exact False.elim hq
    | cont => exact False.elim hq
theorem c_strO {X : Cx} {C f : Addr} {k : Nat} {sp : Sp} (hs : PySem.W.findIn X.K (.ref C) "__str__" = some (some (.ref f))) (hf : PySem.W.isFn X.K (.ref f) = true) (F : FnR X.prog X.w X.K X.mg X.base CX0 k f sp) (hr : Room (k + 2) X.A) : CallR X (.type "str") (rStrO C sp) := by
  intro pins s σ H xs us Q I r h
  obtain ⟨a, dx, fs, rfl, ha, hsp⟩ := h
  obtain ⟨u, rfl, ru⟩ := vals1 r
  obtain rfl : u = Value.ref a := ru
  obtain ⟨mA, J, _⟩ := ins_get I.hok ha
  obtain ⟨od, J, _⟩ := J.look
  refine PySem.W.kso_call (hr.in1.in1.units0) I.kIn J hs hf ?_
  refine thn (run_in2 (vs := [.ref a]) F hr I (.cons rfl .nil) hsp) fun z s' hq => ?_
  obtain ⟨v', H', I', rv, n, rfl, hq⟩ := hq
  obtain ⟨t, rfl⟩ := rv
  exact ⟨.str n, H', I', ⟨_, rfl⟩, hq⟩
theorem kRev {X : Cx} (K : PySem.W.Frag) {e : Expr} {te : TE} {k : Nat} {p1 p2 p3 pos : Pos} (he : PE X e te) (hK : X.K = K := by rfl) : PE X (.Subscript e (.Slice none none (some (.UnaryOp .USub (.Constant (.int 1) k p1) p2)) p3) pos) (tRevL K te) := by
  subst hK
  exact pe_revL he
theorem pg_unlK {X : Cx} {pos : Pos} (K : PySem.W.Frag) {es : List Expr} {k : Nat} {t : TGs} {n : Nat} (hc : X.calm = true) (h : PGs X es t) (hn : (assignEach es X.env).length = n := by rfl) (hst : (assignEach es X.env).findIdx? (·.1) = none := by rfl) (hK : X.K = K := by rfl) : PG X (.Tuple es k pos) (gUnl K n t) := by
  subst hK
  exact pg_unl hc h hn hst
def MkA (C : Addr) (sp : V → Hp → VK → XK → Prop) (E : XK) (H : Hp) (Q : VK) : Prop := ∀ x dx, H x = none → H dx = none → dx ≠ x → sp (.ref x) (upd (upd H dx (.own x)) x (.ins C dx [])) (fun v H3 => v = .non ∧ Q (.ref x) H3) E
def RvB (K : PySem.W.Frag) (x : V) (H : Hp) (Q : VK) : Prop := ∃ a xs, x = .ref a ∧ SqL K H a xs ∧ ∀ p, H p = none → Q (.ref p) (upd H p (.lst xs.reverse))
def tJn (ts : List TE) : TE := fun σ H Q => tJs ts Str.empty σ H fun out H1 => Q (.str out) H1
theorem kJn {X : Cx} {v1 v2 : Expr} {rest : List Expr} {ts : List TE} {pos : Pos} (h : PJ X (v1 :: v2 :: rest) ts) : PE X (.JoinedStr (v1 :: v2 :: rest) pos) (tJn ts) := pe_joined h
section
variable {K : PySem.W.Frag} {σ : L2.St} {H : Hp} {Q : VK} {F : Hp} {M : Cells} {p l : Addr} {xs ys vs : List V} {te : TE} {tr tk : TA} {z acc : Str} {n : Int} {QS : L2.St → Hp → Prop} {v : V}
theorem r_gunl {gs : TGs} {k : Nat} (h : SqL K H p xs) (hl : xs.length = k) (hq : gs xs σ H QS) : gUnl K k gs (.ref p) σ H QS := ⟨p, xs, rfl, h, hl, hq⟩
theorem r_fmtI (h : n.natAbs.log2 < 1920) (q : Q (.str (toString n)) H) : (∃ y : Str, V.int n = .str y ∧ y.length ≤ sizeLine ∧ Q (.str y) H) ∨ ∃ i : Int, V.int n = .int i ∧ i.natAbs.log2 < 1920 ∧ Q (.str (toString i)) H := .inr ⟨n, rfl, h, q⟩
theorem r_fmtS (h : z.length ≤ sizeLine) (q : Q (.str z) H) : (∃ y : Str, V.str z = .str y ∧ y.length ≤ sizeLine ∧ Q (.str y) H) ∨ ∃ i : Int, V.str z = .int i ∧ i.natAbs.log2 < 1920 ∧ Q (.str (toString i)) H := .inl ⟨z, rfl, h, q⟩
theorem r_fmt (h : te σ H fun x H1 => (∃ y : Str, x = .str y ∧ y.length ≤ sizeLine ∧ Q (.str y) H1) ∨ ∃ i : Int, x = .int i ∧ i.natAbs.log2 < 1920 ∧ Q (.str (toString i)) H1) : tFmt te σ H Q := h
theorem r_jn {ts : List TE} (h : tJs ts Str.empty σ H fun out H1 => Q (.str out) H1) : tJn ts σ H Q := h
theorem r_js1 {t : TE} {ts : List TE} {R : Str → Hp → Prop} (h : t σ H fun x H1 => ∃ y : Str, x = .str y ∧ (acc ++ y).length ≤ sizeLine ∧ tJs ts (acc ++ y) σ H1 R) : tJs (t :: ts) acc σ H R := h
theorem r_js2 {R : Prop} (h : R) : ∃ y : Str, V.str z = .str y ∧ ((acc ++ y).length ≤ sizeLine → R) := ⟨z, rfl, fun _ => h⟩
theorem r_js0 {R : Str → Hp → Prop} (h : R acc H) : tJs [] acc σ H R := h
theorem r_rev (h : te σ H fun x H1 => RvB K x H1 Q) : tRevL K te σ H Q := h
theorem revB (o : Own F M H) (h : SqL K H p xs) (k : ∀ l H', F l = none → Own (upd F l (.lst xs.reverse)) M H' → Q (.ref l) H') : RvB K (.ref p) H Q := ⟨p, xs, rfl, h, fun l hl => k l _ (o.free hl) (o.newF hl)⟩
theorem r_listOfF (o : Own F M H) (h : SqL K H p xs ∨ SqT K H p xs) (k : ∀ l H', F l = none → Own (upd F l (.lst xs)) M H' → Q (.ref l) H') : rListOf K [.ref p] H Q := ⟨p, xs, rfl, h, fun l hl => k l _ (o.free hl) (o.newF hl)⟩
theorem r_slLF {lo hi : Option Int} (o : Own F M H) (h : SqL K H p xs) (k : ∀ l H', F l = none → Own (upd F l (.lst (cutV xs lo hi))) M H' → Q (.ref l) H') : rSlL K (.ref p) lo hi H Q := ⟨p, xs, rfl, h, fun l hl => k l _ (o.free hl) (o.newF hl)⟩
theorem r_catF {q : Addr} (o : Own F M H) (h1 : H p = some (.lst xs)) (h2 : H q = some (.lst ys)) (hl : xs.length + ys.length ≤ sizeLine) (k : ∀ l H', F l = none → Own (upd F l (.lst (xs ++ ys))) M H' → Q (.ref l) H') : rCat (.ref p) (.ref q) H Q :=
  ⟨p, q, xs, ys, rfl, rfl, h1, h2, hl, fun l hl => k l _ (o.free hl) (o.newF hl)⟩
theorem r_makeN {C : Addr} {n m : Nat} {sp : Sp} {gV : List V → List V → List V} {E : XK} (h : tr σ H fun vs H1 => tk σ H1 fun zs H2 => vs.length = n ∧ zs.length = m ∧ MkA C (fun x => sp (gV (x :: vs) zs)) E H2 Q) : tMakeN C n m sp gV E tr tk σ H Q := h
theorem mkA_of {C : Addr} {sp : Sp} {E : XK} (h : MkA C (fun x => sp (x :: vs)) E H Q) : MkB C sp E vs H Q := h
theorem mkA {C : Addr} {sp : V → Hp → VK → XK → Prop} {E : XK} (o : Own F M H) (k : ∀ x dx H', F x = none → F dx = none → dx ≠ x → Own F ((x, .ins C dx []) :: (dx, .own x) :: M) H' → sp (.ref x) H' (fun v H2 => v = .non ∧ Q (.ref x) H2) E) : MkA C sp E H Q := fun x dx hx hd ne =>
  k x dx _ (o.free hx) (o.free hd) ne ((o.newM hd).newM (by rw [upd_ne (Ne.symm ne)]; exact hx))
end
/-! ### own == with a value of another type -/
def oth1 (K : PySem.W.Frag) (C : Addr) (t : Value) : Bool := PySem.W.notFirst K C t && decide (PySem.W.kitOne K t (.ref C) = some false)
def othB (K : PySem.W.Frag) (C : Addr) : Bool := oth1 K C (.type "str") && oth1 K C (.type "tuple") && oth1 K C (.type "NoneType") && oth1 K C (.type "int") && oth1 K C (.type "list")
theorem oth_of {K : PySem.W.Frag} {C : Addr} {t : Value} (h : oth1 K C t = true) : PySem.W.notFirst K C t = true ∧ PySem.W.kitOne K t (.ref C) = some false := by
  unfold oth1 at h
  simp only [Bool.and_eq_true, decide_eq_true_eq] at h
  exact h
theorem tyT {K : PySem.W.Frag} {H : Hp} {a : Addr} {xs : List V} (h : SqT K H a xs) : TyX K H (.ref a) (.type "tuple") := by
  rcases h with (h | ⟨o, h⟩) | ⟨o, its, n, h, hc, _⟩
  · exact .base (.tup h)
  · exact .fTuple h
  · exact .kTuple h hc
theorem tyL {K : PySem.W.Frag} {H : Hp} {a : Addr} {xs : List V} (h : SqL K H a xs) : TyX K H (.ref a) (.type "list") := by
  rcases h with (h | ⟨o, h⟩) | ⟨o, its, n, h, hc, _⟩
  · exact .base (.lst h)
  · exact .base (.frz h)
  · exact .kList h hc
/-- isinstance(x, a built-in type) -/
theorem r_isi {K : PySem.W.Frag} {H : Hp} {Q : VK} {x : V} {n : String} {t : Value} {b : Bool} (ty : TyX K H x t) (hk : PySem.W.kitOne K t (.type n) = some b) (q : Q (.bl b) H) : rIsi K [x, .ty n] H Q := ⟨x, _, t, _, b, rfl, .ty n, ty, hk, q⟩
/-- a list that stays, whether it is kept or owned -/
def RdL (K : PySem.W.Frag) (F : Hp) (M : Cells) (l : Addr) (xs : List V) : Prop := ∀ F' A H', Same F F' → Own F' (A ++ M) H' → SqL K H' l xs
theorem RdL.fr {K : PySem.W.Frag} {F : Hp} {M : Cells} {l : Addr} {xs : List V} (h : SqL K F l xs) : RdL K F M l xs := fun F' A H' s o => (s.trans o.fr).seq h
theorem RdL.mu {K : PySem.W.Frag} {F : Hp} {M : Cells} {l : Addr} {xs : List V} (h : (l, HO.lst xs) ∈ M) : RdL K F M l xs := fun F' A H' s o => SqL.of (o.mu _ (List.mem_append_right _ h))
/-! joined texts -/
theorem join_cons (a x y : Str) (r : List Str) : Txt.join a (x :: y :: r) = x ++ (a ++ Txt.join a (y :: r)) := by
  have key : ∀ (l : List Str) (u v : Array Nat), l.foldl (fun acc p => acc ++ a.cps ++ p.cps) (u ++ v) = u ++ l.foldl (fun acc p => acc ++ a.cps ++ p.cps) v := by
    intro l
    induction l with
    | nil => intro u v; rfl
    | cons z l ih =>
      intro u v
      show l.foldl _ (u ++ v ++ a.cps ++ z.cps) = u ++ l.foldl _ (v ++ a.cps ++ z.cps)
      rw [← ih, Array.append_assoc, Array.append_assoc, Array.append_assoc]
  show (⟨r.foldl _ (x.cps ++ a.cps ++ y.cps)⟩ : Str) = ⟨x.cps ++ (a.cps ++ r.foldl _ y.cps)⟩
  rw [key, Array.append_assoc]
theorem join_one (a x : Str) : Txt.join a [x] = x := rfl
end Ed

namespace Ed
open PySem PySem.Spec PyProof.Rows L2
def topS (i : Nat) : Stmt := PySem.Challenge.pw_everydoor_k21_cases.main.body.getD i (.Pass ⟨0, 0, 0, 0⟩)
abbrev s_Case___init__ : Stmt := inClass (topS 2) 0
abbrev s_Case___eq__ : Stmt := inClass (topS 2) 2
abbrev s_Case___len__ : Stmt := inClass (topS 2) 3
abbrev s_Case___str__ : Stmt := inClass (topS 2) 4
abbrev s__law_source : Stmt := topS 4
abbrev s__law_draw : Stmt := topS 5
abbrev s__law_drawn : Stmt := topS 6
abbrev s__law_other : Stmt := topS 7
abbrev s__law_made : Stmt := topS 8
abbrev s__law_right : Stmt := topS 9
abbrev s_law : Stmt := topS 10
abbrev n_Case___init__ : List Str := ["self", "door", "states", "own", "marks", "held"]
theorem sc_Case___init__ : FnScope n_Case___init__ ["self", "door", "states", "own"] (defScope s_Case___init__) := ⟨rfl, rfl, rfl, by decide +kernel, rfl, by decide +kernel, by decide +kernel⟩
abbrev n_Case___eq__ : List Str := ["self", "other"]
theorem sc_Case___eq__ : FnScope n_Case___eq__ ["self", "other"] (defScope s_Case___eq__) := ⟨rfl, rfl, rfl, by decide +kernel, rfl, by decide +kernel, by decide +kernel⟩
abbrev n_Case___len__ : List Str := ["self"]
theorem sc_Case___len__ : FnScope n_Case___len__ ["self"] (defScope s_Case___len__) := ⟨rfl, rfl, rfl, by decide +kernel, rfl, by decide +kernel, by decide +kernel⟩
abbrev n_Case___str__ : List Str := ["self", "words", "marks", "held"]
theorem sc_Case___str__ : FnScope n_Case___str__ ["self"] (defScope s_Case___str__) := ⟨rfl, rfl, rfl, by decide +kernel, rfl, by decide +kernel, by decide +kernel⟩
abbrev n__law_source : List Str := ["_law_script", "_law_greats", "_law_lessers", "_law_cell"]
theorem sc__law_source : FnScope n__law_source ["_law_script"] (defScope s__law_source) := ⟨rfl, rfl, rfl, by decide +kernel, rfl, by decide +kernel, by decide +kernel⟩
abbrev n__law_draw : List Str := ["_law_source_here", "_law_limit", "_law_greats", "_law_lessers", "_law_value", "_law_turn", "_law_primes", "_law_mixed"]
theorem sc__law_draw : FnScope n__law_draw ["_law_source_here", "_law_limit"] (defScope s__law_draw) := ⟨rfl, rfl, rfl, by decide +kernel, rfl, by decide +kernel, by decide +kernel⟩
abbrev n__law_drawn : List Str := ["_law_source_here", "_law_letters", "_law_word", "_law_states", "_law_k", "_law_marks"]
theorem sc__law_drawn : FnScope n__law_drawn ["_law_source_here"] (defScope s__law_drawn) := ⟨rfl, rfl, rfl, by decide +kernel, rfl, by decide +kernel, by decide +kernel⟩
abbrev n__law_other : List Str := ["_law_source_here", "_law_parts", "_law_word", "_law_states", "_law_flag", "_law_form", "_law_at"]
theorem sc__law_other : FnScope n__law_other ["_law_source_here", "_law_parts"] (defScope s__law_other) := ⟨rfl, rfl, rfl, by decide +kernel, rfl, by decide +kernel, by decide +kernel⟩
abbrev n__law_made : List Str := ["_law_source_here", "_law_parts", "_law_word", "_law_states", "_law_flag", "_law_rows", "_law_case", "_law_state"]
theorem sc__law_made : FnScope n__law_made ["_law_source_here", "_law_parts"] (defScope s__law_made) := ⟨rfl, rfl, rfl, by decide +kernel, rfl, by decide +kernel, by decide +kernel⟩
abbrev n__law_right : List Str := ["_law_case", "_law_parts", "_law_word", "_law_states", "_law_flag", "_law_text", "_law_row", "_law_state"]
theorem sc__law_right : FnScope n__law_right ["_law_case", "_law_parts"] (defScope s__law_right) := ⟨rfl, rfl, rfl, by decide +kernel, rfl, by decide +kernel, by decide +kernel⟩
abbrev n_law : List Str := ["_law_script", "_law_source_here", "_law_turn", "_law_parts", "_law_other_parts", "_law_case", "_law_other_here", "_law_expected", "_law_told", "_law_odd"]
theorem sc_law : FnScope n_law ["_law_script"] (defScope s_law) := ⟨rfl, rfl, rfl, by decide +kernel, rfl, by decide +kernel, by decide +kernel⟩
def d_Case___init__ : He.DefD := ⟨("Case", some "__init__"), "__init__", "Case.__init__", defArgs s_Case___init__, defBody s_Case___init__, defScope s_Case___init__, [.bl false], []⟩
def d_Case___eq__ : He.DefD := ⟨("Case", some "__eq__"), "__eq__", "Case.__eq__", defArgs s_Case___eq__, defBody s_Case___eq__, defScope s_Case___eq__, [], []⟩
def d_Case___len__ : He.DefD := ⟨("Case", some "__len__"), "__len__", "Case.__len__", defArgs s_Case___len__, defBody s_Case___len__, defScope s_Case___len__, [], []⟩
def d_Case___str__ : He.DefD := ⟨("Case", some "__str__"), "__str__", "Case.__str__", defArgs s_Case___str__, defBody s_Case___str__, defScope s_Case___str__, [], []⟩
def d__law_source : He.DefD := ⟨("_law_source", none), "_law_source", "_law_source", defArgs s__law_source, defBody s__law_source, defScope s__law_source, [], []⟩
def d__law_draw : He.DefD := ⟨("_law_draw", none), "_law_draw", "_law_draw", defArgs s__law_draw, defBody s__law_draw, defScope s__law_draw, [], []⟩
def d__law_drawn : He.DefD := ⟨("_law_drawn", none), "_law_drawn", "_law_drawn", defArgs s__law_drawn, defBody s__law_drawn, defScope s__law_drawn, [], []⟩
def d__law_other : He.DefD := ⟨("_law_other", none), "_law_other", "_law_other", defArgs s__law_other, defBody s__law_other, defScope s__law_other, [], []⟩
def d__law_made : He.DefD := ⟨("_law_made", none), "_law_made", "_law_made", defArgs s__law_made, defBody s__law_made, defScope s__law_made, [], []⟩
def d__law_right : He.DefD := ⟨("_law_right", none), "_law_right", "_law_right", defArgs s__law_right, defBody s__law_right, defScope s__law_right, [], []⟩
def d_law : He.DefD := ⟨("law", none), "law", "law", defArgs s_law, defBody s_law, defScope s_law, [], []⟩
def fn : List He.DefD := [d_Case___init__, d_Case___eq__, d_Case___len__, d_Case___str__, d__law_source, d__law_draw, d__law_drawn, d__law_other, d__law_made, d__law_right, d_law]
def fa : List He.Fa := [.glo "_law_source", .glo "_law_draw", .glo "_law_drawn", .glo "_law_other", .glo "_law_made", .glo "_law_right", .glo "law", .free "bool", .free "int", .free "isinstance", .free "len", .free "list", .free "range", .free "str", .free "tuple", .glo "Case", .cls "Case", .mkr "Case", .noat "Case" "door", .noat "Case" "states", .noat "Case" "own", .meth "Case" "__eq__", .meth "Case" "__len__", .meth "Case" "__str__"]
structure Tx (K : PySem.W.Frag) (mg : Str → Option Value) : Prop where
  g__law_source : mg "_law_source" = some (.ref (He.ga K "_law_source"))
  g__law_draw : mg "_law_draw" = some (.ref (He.ga K "_law_draw"))
  g__law_drawn : mg "_law_drawn" = some (.ref (He.ga K "_law_drawn"))
  g__law_other : mg "_law_other" = some (.ref (He.ga K "_law_other"))
  g__law_made : mg "_law_made" = some (.ref (He.ga K "_law_made"))
  g__law_right : mg "_law_right" = some (.ref (He.ga K "_law_right"))
  g_law : mg "law" = some (.ref (He.ga K "law"))
  z_bool : mg "bool" = none
  z_int : mg "int" = none
  z_isinstance : mg "isinstance" = none
  z_len : mg "len" = none
  z_list : mg "list" = none
  z_range : mg "range" = none
  z_str : mg "str" = none
  z_tuple : mg "tuple" = none
  g_Case : mg "Case" = some (.ref (He.ga K "Case"))
  cl_Case : Cls K (He.ga K "Case")
  mk_Case : Mk K (He.ga K "Case") (He.ma K (He.ga K "Case") "__init__")
  na_Case_door : NoAttr K (He.ga K "Case") "door"
  na_Case_states : NoAttr K (He.ga K "Case") "states"
  na_Case_own : NoAttr K (He.ga K "Case") "own"
  me_Case___eq__ : Meth K (He.ga K "Case") "__eq__" (He.ma K (He.ga K "Case") "__eq__")
  me_Case___len__ : Meth K (He.ga K "Case") "__len__" (He.ma K (He.ga K "Case") "__len__")
  me_Case___str__ : Meth K (He.ga K "Case") "__str__" (He.ma K (He.ga K "Case") "__str__")
  F_Case___init__ : ∃ fd, FunD K d_Case___init__.name d_Case___init__.qual d_Case___init__.params d_Case___init__.body d_Case___init__.scope (d_Case___init__.dvs K) (d_Case___init__.kws K) (He.fAd K d_Case___init__.at_) fd
  F_Case___eq__ : ∃ fd, FunD K d_Case___eq__.name d_Case___eq__.qual d_Case___eq__.params d_Case___eq__.body d_Case___eq__.scope (d_Case___eq__.dvs K) (d_Case___eq__.kws K) (He.fAd K d_Case___eq__.at_) fd
  F_Case___len__ : ∃ fd, FunD K d_Case___len__.name d_Case___len__.qual d_Case___len__.params d_Case___len__.body d_Case___len__.scope (d_Case___len__.dvs K) (d_Case___len__.kws K) (He.fAd K d_Case___len__.at_) fd
  F_Case___str__ : ∃ fd, FunD K d_Case___str__.name d_Case___str__.qual d_Case___str__.params d_Case___str__.body d_Case___str__.scope (d_Case___str__.dvs K) (d_Case___str__.kws K) (He.fAd K d_Case___str__.at_) fd
  F__law_source : ∃ fd, FunD K d__law_source.name d__law_source.qual d__law_source.params d__law_source.body d__law_source.scope (d__law_source.dvs K) (d__law_source.kws K) (He.fAd K d__law_source.at_) fd
  F__law_draw : ∃ fd, FunD K d__law_draw.name d__law_draw.qual d__law_draw.params d__law_draw.body d__law_draw.scope (d__law_draw.dvs K) (d__law_draw.kws K) (He.fAd K d__law_draw.at_) fd
  F__law_drawn : ∃ fd, FunD K d__law_drawn.name d__law_drawn.qual d__law_drawn.params d__law_drawn.body d__law_drawn.scope (d__law_drawn.dvs K) (d__law_drawn.kws K) (He.fAd K d__law_drawn.at_) fd
  F__law_other : ∃ fd, FunD K d__law_other.name d__law_other.qual d__law_other.params d__law_other.body d__law_other.scope (d__law_other.dvs K) (d__law_other.kws K) (He.fAd K d__law_other.at_) fd
  F__law_made : ∃ fd, FunD K d__law_made.name d__law_made.qual d__law_made.params d__law_made.body d__law_made.scope (d__law_made.dvs K) (d__law_made.kws K) (He.fAd K d__law_made.at_) fd
  F__law_right : ∃ fd, FunD K d__law_right.name d__law_right.qual d__law_right.params d__law_right.body d__law_right.scope (d__law_right.dvs K) (d__law_right.kws K) (He.fAd K d__law_right.at_) fd
  F_law : ∃ fd, FunD K d_law.name d_law.qual d_law.params d_law.body d_law.scope (d_law.dvs K) (d_law.kws K) (He.fAd K d_law.at_) fd
  oe_Case : OwnEq K (He.ga K "Case") (He.ma K (He.ga K "Case") "__eq__")
  it_Case : InsTy K (He.ga K "Case")
  nf_Case : othB K (He.ga K "Case") = true
def exB (K : PySem.W.Frag) : Bool := true && (ownEqB K "Case") && (insTyB K (He.ga K "Case")) && (othB K (He.ga K "Case"))
theorem tx_of {K : PySem.W.Frag} {mg : Str → Option Value} {h : Heap} (X : K.In h) (G : h.Ns mainGlobals mg) (c : He.SaysD fa fn K) (e : exB K = true) : Tx K mg := by
  unfold exB at e
  simp only [Bool.and_eq_true] at e
  obtain ⟨⟨⟨_, hx0⟩, hx1⟩, hx2⟩ := e
  exact { g__law_source := He.glo_ok X G (c.fact 0 (f := .glo "_law_source") rfl), g__law_draw := He.glo_ok X G (c.fact 1 (f := .glo "_law_draw") rfl), g__law_drawn := He.glo_ok X G (c.fact 2 (f := .glo "_law_drawn") rfl), g__law_other := He.glo_ok X G (c.fact 3 (f := .glo "_law_other") rfl), g__law_made := He.glo_ok X G (c.fact 4 (f := .glo "_law_made") rfl), g__law_right := He.glo_ok X G (c.fact 5 (f := .glo "_law_right") rfl), g_law := He.glo_ok X G (c.fact 6 (f := .glo "law") rfl), z_bool := He.free_ok X G (c.fact 7 (f := .free "bool") rfl), z_int := He.free_ok X G (c.fact 8 (f := .free "int") rfl), z_isinstance := He.free_ok X G (c.fact 9 (f := .free "isinstance") rfl), z_len := He.free_ok X G (c.fact 10 (f := .free "len") rfl), z_list := He.free_ok X G (c.fact 11 (f := .free "list") rfl), z_range := He.free_ok X G (c.fact 12 (f := .free "range") rfl), z_str := He.free_ok X G (c.fact 13 (f := .free "str") rfl), z_tuple := He.free_ok X G (c.fact 14 (f := .free "tuple") rfl), g_Case := He.glo_ok X G (c.fact 15 (f := .glo "Case") rfl), cl_Case := He.cls_ok (c.fact 16 (f := .cls "Case") rfl), mk_Case := He.mkr_ok (c.fact 17 (f := .mkr "Case") rfl), na_Case_door := He.noat_ok (c.fact 18 (f := .noat "Case" "door") rfl), na_Case_states := He.noat_ok (c.fact 19 (f := .noat "Case" "states") rfl), na_Case_own := He.noat_ok (c.fact 20 (f := .noat "Case" "own") rfl), me_Case___eq__ := He.meth_ok (c.fact 21 (f := .meth "Case" "__eq__") rfl), me_Case___len__ := He.meth_ok (c.fact 22 (f := .meth "Case" "__len__") rfl), me_Case___str__ := He.meth_ok (c.fact 23 (f := .meth "Case" "__str__") rfl), F_Case___init__ := c.def_ 0 (d := d_Case___init__) rfl, F_Case___eq__ := c.def_ 1 (d := d_Case___eq__) rfl, F_Case___len__ := c.def_ 2 (d := d_Case___len__) rfl, F_Case___str__ := c.def_ 3 (d := d_Case___str__) rfl, F__law_source := c.def_ 4 (d := d__law_source) rfl, F__law_draw := c.def_ 5 (d := d__law_draw) rfl, F__law_drawn := c.def_ 6 (d := d__law_drawn) rfl, F__law_other := c.def_ 7 (d := d__law_other) rfl, F__law_made := c.def_ 8 (d := d__law_made) rfl, F__law_right := c.def_ 9 (d := d__law_right) rfl, F_law := c.def_ 10 (d := d_law) rfl, oe_Case := ownEq_of hx0, it_Case := insTy_of hx1, nf_Case := hx2 }
abbrev R : PySem.W.OpenRow := PySem.W.OpenLaw.row PySem.Challenge.rw_everydoor_k21_cases
abbrev hk : PySem.W.Hook := He.hookX 4 fa fn [] [] exB
def ob (s : PySem.W.SharedT) : He.AlX := He.obsX 4 fa fn [] [] exB (HandSHeadRun.getT s)
theorem ob_eq (s : PySem.W.SharedT) : ob s = hk.obs s.abs := He.obsX_eq (HandSHeadRun.getT_eq s)
def loose : List Str := ["_wall", "Case", "_law_source", "_law_draw", "_law_drawn", "_law_other", "_law_made", "_law_right"]
theorem run (w : World) : HandSHeadRun.RunEq R (PySem.W.view R.prog [10]) hk ob 3000 loose w := by
  intro os
  kernel_rfl
local macro_rules | `(tactic| walk_at "hp1") => `(tactic| first | exact (Own.fr (by assumption)) _ _ (by assumption) | exact Own.get (by assumption) 0 | exact Own.get (by assumption) 1 | exact Own.get (by assumption) 2 | exact Own.get (by assumption) 3 | exact Own.get (by assumption) 4 | exact Own.get (by assumption) 5 | exact Own.get (by assumption) 6 | exact Own.get (by assumption) 7 | exact Own.get (by assumption) 8 | exact Own.get (by assumption) 9)
local macro_rules | `(tactic| walk_at "same") => `(tactic| repeat (first | exact Same.refl _ | assumption | exact Own.fr (by assumption) | exact same_upd (by assumption) | refine Same.trans ?_ (Own.fr (by assumption)) | refine Same.trans ?_ (by assumption) | refine Same.trans ?_ (same_upd (by assumption))))
local macro_rules | `(tactic| walk_at "hp") => `(tactic| first | exact SqL.of (Own.get (by assumption) 0) | exact SqL.of (Own.get (by assumption) 1) | exact SqL.of (Own.get (by assumption) 2) | exact SqL.of (Own.get (by assumption) 3) | exact SqL.of (Own.get (by assumption) 4) | exact SqL.of (Own.get (by assumption) 5) | exact SqL.of (Own.get (by assumption) 6) | exact SqL.of (Own.get (by assumption) 7) | exact SqL.of (Own.get (by assumption) 8) | exact SqL.of (Own.get (by assumption) 9) | exact SqT.of (Own.get (by assumption) 0) | exact SqT.of (Own.get (by assumption) 1) | exact SqT.of (Own.get (by assumption) 2) | exact SqT.of (Own.get (by assumption) 3) | exact SqT.of (Own.get (by assumption) 4) | exact SqT.of (Own.get (by assumption) 5) | exact SqT.of (Own.get (by assumption) 6) | exact SqT.of (Own.get (by assumption) 7) | exact SqT.of (Own.get (by assumption) 8) | exact SqT.of (Own.get (by assumption) 9) | walk_at "hp1" | assumption | (apply Same.seq _ (by assumption); walk_at "same") | (apply Same.tup _ (by assumption); walk_at "same"))
local macro_rules | `(tactic| walk_at "lt") => `(tactic| first | omega | assumption | exact cdivW_of (by omega) (by omega) | exact Or.inr ⟨by omega, by omega⟩ | exact Or.inl ⟨by omega, by omega⟩ | exact ⟨by omega, by omega, by omega⟩)
local macro_rules | `(tactic| walk_at "r1") => `(tactic| first
  | with_reducible refine r_seq ?_ | with_reducible refine r_asg ?_ | with_reducible refine r_name ?_ | with_reducible refine r_op ?_ | with_reducible refine r_c ?_ | with_reducible refine r_cons ?_ | with_reducible refine r_nil ?_
  | ((with_reducible apply r_var); rfl) | with_reducible refine r_I0 ?_ | with_reducible refine r_test ?_ | with_reducible refine r_isbl ?_ | with_reducible refine r_cb ?_ | with_reducible refine r_int ?_ | with_reducible refine r_intB ?_
  | with_reducible refine r_if ?_ | with_reducible refine r_ifE ?_ | with_reducible refine r_and ?_ | with_reducible refine r_or ?_ | with_reducible refine r_not ?_ | with_reducible refine r_andV ?_ | with_reducible refine r_orV ?_ | with_reducible refine r_notV ?_ | with_reducible refine r_chain ?_
  | with_reducible refine r_drop ?_ | with_reducible refine r_ret ?_ | with_reducible refine r_retN ?_ | with_reducible refine r_next ?_ | with_reducible refine r_B ?_ | with_reducible refine r_sub ?_ | with_reducible refine r_gcons ?_ | with_reducible refine r_gnil ?_
  | with_reducible refine r_own ?_ | with_reducible refine r_bm ?_ | with_reducible refine r_bm0 ?_ | with_reducible refine r_sl ?_ | with_reducible refine r_nopart ?_ | with_reducible refine r_part ?_ | with_reducible refine r_isint ?_ | with_reducible refine r_tup ?_ | with_reducible refine r_lst ?_ | with_reducible refine r_U ?_ | with_reducible refine r_un ?_ | with_reducible refine r_min2 ?_
  | ((with_reducible refine r_eq ?_ ?_); rfl) | ((with_reducible refine r_ne ?_ ?_); rfl)
  | ((with_reducible refine r_I ?_ ?_); walk_at "lt")
  | ((with_reducible apply r_ixL); walk_at "hp"; rfl)
  | ((with_reducible apply r_ixT); walk_at "hp"; rfl)
  | ((with_reducible apply r_len); walk_at "hp")
  | ((with_reducible apply r_lenT); walk_at "hp")
  | ((with_reducible apply r_tyL); walk_at "hp")
  | with_reducible refine r_sfld ?_ | with_reducible refine r_tfld' ?_ | with_reducible refine r_make ?_ | with_reducible refine r_methR ?_ | with_reducible refine r_yes ?_
  | ((with_reducible apply r_getF); walk_at "hp1"; assumption; assumption; rfl)
  | ((with_reducible apply r_recv); walk_at "hp1"; rfl)
  | with_reducible refine r_rev ?_ | with_reducible refine r_jn ?_ | with_reducible refine r_js1 ?_ | with_reducible refine r_js0 ?_ | with_reducible refine r_fmt ?_ | with_reducible refine r_gcons ?_ | with_reducible refine r_gnil ?_
  | with_reducible refine r_m1 ?_ | with_reducible refine r_isS ?_ | with_reducible refine r_starts ?_ | with_reducible refine r_ends ?_
  | with_reducible refine r_for ?_ | with_reducible refine r_lc ?_ | with_reducible refine r_iList ?_ | with_reducible refine r_iTup ?_ | with_reducible refine r_iRng1 ?_ | with_reducible refine r_iRng2 ?_
  | ((with_reducible apply r_exL); walk_at "hp") | ((with_reducible apply r_exT); walk_at "hp") | ((with_reducible refine r_bnd ?_ ?_ ?_); omega; omega)
  | ((with_reducible refine r_wipe ?_ ?_); rfl)
  | with_reducible refine ⟨_, rfl, ?_⟩)
local macro_rules | `(tactic| walk_at "rd") => `(tactic| repeat (walk_at "r1"))
section
variable {P : Program} {w : World} {K : PySem.W.Frag} {mg : Str → Option Value} {base : Heap}
theorem ok__law_source (T : Tx K mg) : Ok1 P w K mg base "_law_source" 1 (spSource K) := by
  obtain ⟨fd, F⟩ := T.F__law_source

  refine ok1_of F T.g__law_source sc__law_source (fun vs H Q E h => sp1_len h) (fun _ _ _ _ _ _ us hl => match us, hl with | [_], _ => rfl) (fun cdv A outer s H vs Q E hr h => ?_)
  obtain ⟨v0, rfl, h⟩ := h
  refine ⟨_, (pss_cons (ps_setLc (i := 1) (own := [("_law_cell", 3)]) (g := (gName 3)) (by rfl) sc__law_source.nd rfl rfl (sw_true rfl rfl rfl (by decide +kernel)) (kPiL K (pe_slice (kSlL K) (pv 0) po_none (po_some pe_int))) (blkOk_by (own := [("_law_cell", 3)]) (N := n__law_source) (sc := defScope s__law_source) (by decide +kernel)) (fun _ _ _ _ _ => (pg_name (i := 3) sc__law_source.nd rfl (.inl rfl))) (fun _ _ _ _ _ => by exact (pts_one (pt_cmpR op_ge (pv 3) (pe_op op_pow pe_int pe_int) (nomark _)))) (fun _ _ _ _ _ => by exact (pe_callTy c_int1 (by rfl) T.z_int (by decide +kernel) (pa_cons (pv 3) pa_nil))))
      (pss_cons (ps_setLc (i := 2) (own := [("_law_cell", 3)]) (g := (gName 3)) (by rfl) sc__law_source.nd rfl rfl (sw_true rfl rfl rfl (by decide +kernel)) (kPiL K (pe_slice (kSlL K) (pv 0) po_none (po_some pe_int))) (blkOk_by (own := [("_law_cell", 3)]) (N := n__law_source) (sc := defScope s__law_source) (by decide +kernel)) (fun _ _ _ _ _ => (pg_name (i := 3) sc__law_source.nd rfl (.inl rfl))) (fun _ _ _ _ _ => by exact (pts_one (pt_cmpR op_lt (pv 3) (pe_op op_pow pe_int pe_int) (nomark _)))) (fun _ _ _ _ _ => by exact (pe_op op_mod (pe_callTy c_int1 (by rfl) T.z_int (by decide +kernel) (pa_cons (pv 3) pa_nil)) pe_int)))
      (pss_one (ps_ret (pe_lst (pa_cons (pv 1) (pa_cons (pv 2) (pa_cons pe_int (pa_cons pe_int pa_nil))))))))), ?_⟩
  try dsimp only [cxOf, Cx.nox, Cx.wish]
  have cl_Case := T.cl_Case
  have na_Case_door := T.na_Case_door
  have na_Case_states := T.na_Case_states
  have na_Case_own := T.na_Case_own

  obtain ⟨a, ns, F, M, rfl, hS, hl, o, k⟩ := h
  walk_at "rd"
  refine r_slL o (o.fr.seq hS) fun l1 H1 n1 o1 => ?_
  rw [cut_iL] at o1
  walk_at "rd"
  refine lcb (walk_list (xs := iL (cutL ns none (some 63)))) o1 (fun i acc F' M' => F' = F ∧ M' = (l1, .lst (iL (cutL ns none (some 63)))) :: M ∧ ∃ g, acc = iL g ∧ g.length ≤ i) ⟨rfl, rfl, [], rfl, Nat.zero_le _⟩ ?_ ?_ ?_
  · rintro D i acc F' M' H' _ ⟨rfl, rfl, _⟩ o'
    exact SqL.of (o'.get 1)
  · rintro D i x acc F' M' H' H'' hi ⟨rfl, rfl, g, rfl, hg⟩ o' ⟨rfl, hx⟩
    obtain ⟨n, hn, rfl⟩ := iL_get hx
    have hc := cutL_len ns none (some 63)
    rw [len_iL] at hi
    walk_at "rd"
    refine ite2 (fun hc => ?_) (fun hc => ?_)
    · walk_at "rd"
      exact lcN ⟨_, _, _, small1000 (by rw [len_iL]; omega), ⟨rfl, rfl, g ++ [n], iL_app _ _, by rw [List.length_append]; exact Nat.succ_le_succ hg⟩, o'⟩
    · exact ⟨_, _, _, ⟨rfl, rfl, g, rfl, by omega⟩, o'⟩
  rintro D acc F' M' H' nD ⟨rfl, rfl, g, rfl, hg⟩ o2
  have o2 : Own F' ((D, HO.lst (iL g)) :: M) H' := o2.sub (.cons_cons _ (.cons _ (.refl _)))
  walk_at "rd"
  refine r_slL o2 (o2.fr.seq hS) fun l2 H2 n2 o3 => ?_
  rw [cut_iL] at o3
  walk_at "rd"
  refine lcb (walk_list (xs := iL (cutL ns none (some 63)))) o3 (fun i acc F' M' => F' = _ ∧ M' = (l2, .lst (iL (cutL ns none (some 63)))) :: (D, HO.lst (iL g)) :: M ∧ ∃ l, acc = iL l ∧ l.length ≤ i) ⟨rfl, rfl, [], rfl, Nat.zero_le _⟩ ?_ ?_ ?_
  · rintro D i acc F' M' H' _ ⟨rfl, rfl, _⟩ o'
    exact SqL.of (o'.get 1)
  · rintro D i x acc F' M' H' H'' hi ⟨rfl, rfl, g, rfl, hg⟩ o' ⟨rfl, hx⟩
    obtain ⟨n, hn, rfl⟩ := iL_get hx
    have hc := cutL_len ns none (some 63)
    rw [len_iL] at hi
    walk_at "rd"
    refine ite2 (fun hc => ?_) (fun hc => ?_)
    · walk_at "rd"
      exact lcN ⟨_, _, _, small1000 (by rw [len_iL]; omega), ⟨rfl, rfl, g ++ [n % 2147483647], iL_app _ _, by rw [List.length_append]; exact Nat.succ_le_succ hg⟩, o'⟩
    · exact ⟨_, _, _, ⟨rfl, rfl, g, rfl, by omega⟩, o'⟩
  rintro E acc F' M' H' nE ⟨rfl, rfl, l, rfl, hl⟩ o4
  have o4 : Own F' [(E, HO.lst (iL l)), (D, HO.lst (iL g))] H' ∧ Own F' ((E, HO.lst (iL l)) :: (D, HO.lst (iL g)) :: M) H' := ⟨o4.sub (.cons_cons _ (.cons _ (.cons_cons _ (List.nil_sublist _)))), o4.sub (.cons_cons _ (.cons _ (.refl _)))⟩
  walk_at "rd"
  refine newL o4.2 fun p H3 _ o5 => ?_
  exact k p [(p, _), (D, _), (E, _)] H3 ⟨D, E, g, l, 0, 0, rfl⟩ (o5.perm (.cons _ (.swap _ _ _)))

theorem ok__law_draw (T : Tx K mg) : Ok1 P w K mg base "_law_draw" 1 (spDraw) := by
  obtain ⟨fd, F⟩ := T.F__law_draw

  refine ok1_of F T.g__law_draw sc__law_draw (fun vs H Q E h => sp2_len h) (fun _ _ _ _ _ _ us hl => match us, hl with | [_, _], _ => rfl) (fun cdv A outer s H vs Q E hr h => ?_)
  obtain ⟨v0, v1, rfl, h⟩ := h
  refine ⟨_, (pss_cons (ps_set (i := 2) sc__law_draw.nd rfl (.inl rfl) (pe_ix (kIxL K) (pv 0) pe_int (fun _ _ => rfl)))
      (pss_cons (ps_set (i := 3) sc__law_draw.nd rfl (.inl rfl) (pe_ix (kIxL K) (pv 0) pe_int (fun _ _ => rfl)))
      (pss_cut (ps_if (PW.pt (pw_and (pt_cmpR op_eq (pe_ix (kIxL K) (pv 0) pe_int (fun _ _ => rfl)) pe_int (nomark _)) (pw_and1 (pt_cmpR (kNeD K hr.units) (pv 2) (pe_lst pa_nil) (nomark _))))) (pss_one (ps_asg (pe_bm PySem.F.plainAttrs_list PySem.F.slot_list_pop PySem.F.type_list_pop mt_popAt (pv 2) (pa_cons pe_int pa_nil)) (pg_sub (pv 0) pe_int set_list))) pss_nil)
      (pss_cons (ps_set (i := 4) sc__law_draw.nd rfl (.inl rfl) (pe_op op_mod (pe_callTy c_int1 (by rfl) T.z_int (by decide +kernel) (pa_cons (pe_ix (kIxL K) (pv 0) pe_int (fun _ _ => rfl)) pa_nil)) (pv 1)))
      (pss_cons (ps_asg (pe_op op_fdivW (pe_callTy c_int1 (by rfl) T.z_int (by decide +kernel) (pa_cons (pe_ix (kIxL K) (pv 0) pe_int (fun _ _ => rfl)) pa_nil)) (pv 1)) (pg_sub (pv 0) pe_int set_list))
      (pss_cons (ps_set (i := 5) sc__law_draw.nd rfl (.inl rfl) (pe_ix (kIxL K) (pv 0) pe_int (fun _ _ => rfl)))
      (pss_cons (ps_asg (pe_op op_add (pv 5) pe_int) (pg_sub (pv 0) pe_int set_list))
      (pss_cut (ps_if (pt_cmpR (kNeD K hr.units) (pv 3) (pe_lst pa_nil) (nomark _)) (pss_cons (ps_set (i := 6) sc__law_draw.nd rfl (.inl rfl) (pe_lst (pa_cons pe_int (pa_cons pe_int (pa_cons pe_int (pa_cons pe_int (pa_cons pe_int (pa_cons pe_int (pa_cons pe_int (pa_cons pe_int pa_nil))))))))))
      (pss_cons (ps_set (i := 7) sc__law_draw.nd rfl (.inl rfl) (pe_op op_mod (pe_callTy c_int1 (by rfl) T.z_int (by decide +kernel) (pa_cons (pe_op op_add (pe_op op_mul (pe_ix (kIxL K) (pv 3) (pe_op op_mod (pv 5) (pe_callB (kLen K) (by rfl) T.z_len (by decide +kernel) (pa_cons (pv 3) pa_nil))) (fun _ _ => rfl)) (pe_ix (kIxL K) (pv 6) (pe_op op_mod (pv 5) pe_int) (fun _ _ => rfl))) (pe_op op_mul (pe_op op_add (pv 5) pe_int) pe_int)) pa_nil)) pe_int))
      (pss_one (ps_set (i := 4) sc__law_draw.nd rfl (.inl rfl) (pe_op op_add (pv 4) (pe_op op_mod (pe_callTy c_int1 (by rfl) T.z_int (by decide +kernel) (pa_cons (pe_op op_add (pe_op op_mul (pv 7) (pv 7)) (pv 5)) pa_nil)) pe_int)))))) pss_nil)
      (pss_one (ps_ret (pe_op op_mod (pv 4) (pv 1)))))))))))), ?_⟩
  try dsimp only [cxOf, Cx.nox, Cx.wish]
  have cl_Case := T.cl_Case
  have na_Case_door := T.na_Case_door
  have na_Case_states := T.na_Case_states
  have na_Case_own := T.na_Case_own

  obtain ⟨a, m, F, S, M, rfl, rfl, h0, h1, hs, o, k⟩ := h
  obtain ⟨ag, al, g, l, c, t, rfl⟩ := hs
  walk_at "rd"
  -- if the rest is used up, the next great number
  refine r_cut (fun σ' H' => ∃ (g : List Int) (c : Int), σ' = [some (.ref a), some (.int m), some (.ref ag), some (.ref al), none, none, none, none] ∧ Own F ([(a, HO.lst [V.ref ag, V.ref al, V.int c, V.int t]), (ag, HO.lst (iL g)), (al, HO.lst (iL l))] ++ M) H') ?_ ?_
  · walk_at "rd"
    refine ite2 (fun hc => ?_) (fun hc => ?_)
    · walk_at "rd"
      refine newL o fun p H1 _ o1 => ?_
      refine r_neD (.lst (SqL.of (o1.get 2)) (dpAll_iL g)) (.lst (SqL.of (o1.get 0)) .nil) (shp_iL g).shaped (shp_iL []).shaped ?_
      rw [eqv_iL_nil]
      walk_at "rd"
      cases g with
      | nil => exact iteF ⟨[], c, rfl, o1.tail⟩
      | cons n g =>
        refine iteT ?_
        walk_at "rd"
        refine r_popAt o1.tail 1 rfl (by decide) (by decide) (j := 0) (six rfl (by rw [len_iL]; simp)) rfl fun H2 o2 => ?_
        walk_at "rd"
        refine r_setL o2 0 rfl (j := 2) rfl fun H3 o3 => ?_
        exact ⟨g, n, rfl, o3⟩
    · refine iteF ?_
      walk_at "rd"
      exact ⟨g, c, rfl, o⟩
  · rintro σ' H1 ⟨g, c, rfl, o⟩
    walk_at "rd"
    refine r_setL o 0 rfl (j := 2) rfl fun H2 o => ?_
    walk_at "rd"
    refine r_setL o 0 rfl (j := 3) rfl fun H3 o => ?_
    refine r_cut (fun σ' H' => ∃ (z : Int) (y5 y6 y7 : Option V), σ' = [some (.ref a), some (.int m), some (.ref ag), some (.ref al), some (.int z), y5, y6, y7] ∧ Own F ([(a, HO.lst [V.ref ag, V.ref al, V.int (c / m), V.int (t + 1)]), (ag, HO.lst (iL g)), (al, HO.lst (iL l))] ++ M) H') ?_ ?_
    · walk_at "rd"
      refine newL o fun p H1 _ o1 => ?_
      refine r_neD (.lst (SqL.of (o1.get 3)) (dpAll_iL l)) (.lst (SqL.of (o1.get 0)) .nil) (shp_iL l).shaped (shp_iL []).shaped ?_
      rw [eqv_iL_nil]
      walk_at "rd"
      cases l with
      | nil => exact iteF ⟨_, _, _, _, rfl, o1.tail⟩
      | cons n l =>
        refine iteT ?_
        walk_at "rd"
        refine newL o1.tail fun p H2 _ o2 => ?_
        walk_at "rd"
        have hn : (0 : Int) < ((iL (n :: l)).length : Int) := by rw [len_iL, List.length_cons]; omega
        refine r_I hn ?_
        have e0 := Int.emod_nonneg t (show ((iL (n :: l)).length : Int) ≠ 0 by omega)
        have e1 := Int.emod_lt_of_pos t hn
        have hj : (t % ((iL (n :: l)).length : Int)).toNat < (n :: l).length := by rw [len_iL] at e0 e1 ⊢; omega
        refine r_ixL (SqL.of (o2.get 3)) (at_of (Int.toNat_of_nonneg e0).symm (get_iL hj)) ?_
        walk_at "rd"
        have e2 := Int.emod_nonneg t (show (8 : Int) ≠ 0 by decide)
        have e3 := Int.emod_lt_of_pos t (show (0 : Int) < 8 by decide)
        obtain ⟨q, hq, hq1, hq2⟩ : ∃ q : Int, atI [V.int 48271, V.int 69621, V.int 16807, V.int 39373, V.int 62089, V.int 40692, V.int 52774, V.int 31743] (t % 8) = some (.int q) ∧ 0 ≤ q ∧ q < 100000 := by
          have h8 : t % 8 = 0 ∨ t % 8 = 1 ∨ t % 8 = 2 ∨ t % 8 = 3 ∨ t % 8 = 4 ∨ t % 8 = 5 ∨ t % 8 = 6 ∨ t % 8 = 7 := by omega
          rcases h8 with h | h | h | h | h | h | h | h <;> rw [h] <;> exact ⟨_, rfl, by decide, by decide⟩
        refine r_ixL (SqL.of (o2.get 0)) hq ?_
        walk_at "rd"
        generalize hz : (n :: l)[(t % ((iL (n :: l)).length : Int)).toNat] * q + (t + 1) * 104729 = z
        have z0 := Int.emod_nonneg z (show (2147483647 : Int) ≠ 0 by decide)
        have z1 := Int.emod_lt_of_pos z (show (0 : Int) < 2147483647 by decide)
        walk_at "rd"
        exact ⟨_, _, _, _, rfl, o2.tail⟩
    · rintro σ' H1 ⟨z, y5, y6, y7, rfl, o⟩
      walk_at "rd"
      exact k _ _ _ (Int.emod_nonneg _ (by omega)) (Int.emod_lt_of_pos _ h0) ⟨ag, al, g, l, _, _, rfl⟩ o

def dSt (s : Int × Bool) : PyData := .tuple [.int s.1, .bool s.2]
def dStL (s : Int × Bool) : PyData := .list [.int s.1, .bool s.2]
def fsC (w : Str) (t : Addr) (b : Bool) : List (Str × V) := [("door", .str w), ("states", .ref t), ("own", .bl b)]
/-- a case: its door, its states, own -/
def CaseAt (K : PySem.W.Frag) (F : Hp) (v : V) (w : Str) (sts : List (Int × Bool)) (b : Bool) : Prop := ∃ x dx t, v = .ref x ∧ F x = some (.ins (He.ga K "Case") dx (fsC w t b)) ∧ Dp K F (.ref t) (.tuple (sts.map dSt))
def spInit (K : PySem.W.Frag) : Sp := sp4 fun v0 v1 v2 v3 H Q => ∃ (x dx l : Addr) (xs : List V) (w : Str) (sts : List (Int × Bool)) (b : Bool) (F : Hp) (M : Cells), v0 = .ref x ∧ v1 = .str w ∧ v2 = .ref l ∧ RdL K F M l xs ∧ (DpAll K F xs (sts.map dSt) ∨ DpAll K F xs (sts.map dStL)) ∧ v3 = .bl b ∧ sts.length ≤ 100 ∧
  Own F ((x, .ins (He.ga K "Case") dx []) :: M) H ∧ ∀ F' t H', Same F F' → Own F' ((x, .ins (He.ga K "Case") dx (fsC w t b)) :: M) H' → Dp K F' (.ref t) (.tuple (sts.map dSt)) → Q .non H'
theorem dp_st {K : PySem.W.Frag} {F : Hp} {v : V} {s : Int × Bool} (h : Dp K F v (dSt s)) : ∃ a, v = .ref a ∧ SqT K F a [.int s.1, .bl s.2] := by
  obtain ⟨a, xs, rfl, hx, h⟩ := dp_tup_inv h
  obtain ⟨v1, ws, rfl, h1, h⟩ := dpAll_cons_inv h
  obtain ⟨v2, ws, rfl, h2, h⟩ := dpAll_cons_inv h
  have e := dpAll_nil_inv h
  subst e
  rw [dp_int_inv h1, dp_bool_inv h2] at hx
  exact ⟨a, rfl, hx⟩
theorem dp_stL {K : PySem.W.Frag} {F : Hp} {v : V} {s : Int × Bool} (h : Dp K F v (dStL s)) : ∃ a, v = .ref a ∧ SqL K F a [.int s.1, .bl s.2] := by
  obtain ⟨a, xs, rfl, hx, h⟩ := dp_list_inv h
  obtain ⟨v1, ws, rfl, h1, h⟩ := dpAll_cons_inv h
  obtain ⟨v2, ws, rfl, h2, h⟩ := dpAll_cons_inv h
  have e := dpAll_nil_inv h
  subst e
  rw [dp_int_inv h1, dp_bool_inv h2] at hx
  exact ⟨a, rfl, hx⟩
/-- a row: a tuple or a list -/
def RowAt (K : PySem.W.Frag) (F : Hp) (v : V) (s : Int × Bool) : Prop := ∃ a, v = .ref a ∧ (SqT K F a [.int s.1, .bl s.2] ∨ SqL K F a [.int s.1, .bl s.2])
theorem row_of {K : PySem.W.Frag} {F : Hp} {xs : List V} {sts : List (Int × Bool)} (h : DpAll K F xs (sts.map dSt) ∨ DpAll K F xs (sts.map dStL)) {i : Nat} {y : V} (hy : xs[i]? = some y) : ∃ s, sts[i]? = some s ∧ RowAt K F y s := by
  rcases h with h | h
  · obtain ⟨d, hd, dy⟩ := dpAll_get h hy
    obtain ⟨s0, hs, rfl⟩ := map_get hd
    obtain ⟨p, rfl, hp⟩ := dp_st dy
    exact ⟨s0, hs, p, rfl, .inl hp⟩
  · obtain ⟨d, hd, dy⟩ := dpAll_get h hy
    obtain ⟨s0, hs, rfl⟩ := map_get hd
    obtain ⟨p, rfl, hp⟩ := dp_stL dy
    exact ⟨s0, hs, p, rfl, .inr hp⟩
theorem row_len {K : PySem.W.Frag} {F : Hp} {xs : List V} {sts : List (Int × Bool)} (h : DpAll K F xs (sts.map dSt) ∨ DpAll K F xs (sts.map dStL)) : xs.length = sts.length := by
  rcases h with h | h
  · rw [dpAll_len h, List.length_map]
  · rw [dpAll_len h, List.length_map]
theorem r_row {K : PySem.W.Frag} {F H : Hp} {σ : L2.St} {y : V} {s : Int × Bool} {gs : TGs} {Q : L2.St → Hp → Prop} (h : RowAt K F y s) (e : Same F H) (k : gs [.int s.1, .bl s.2] σ H Q) : gOr (gTup K 2 gs) (gUnl K 2 gs) y σ H Q := by
  obtain ⟨a, rfl, h | h⟩ := h
  · exact .inl (r_gtup (Same.tup e h) rfl k)
  · exact .inr (r_gunl (e.seq h) rfl k)
theorem init_ok (T : Tx K mg) : ∃ fd, FunD K d_Case___init__.name d_Case___init__.qual d_Case___init__.params d_Case___init__.body d_Case___init__.scope (d_Case___init__.dvs K) (d_Case___init__.kws K) (He.ma K (He.ga K "Case") "__init__") fd ∧ FnOk P w K mg base CX0 (1) (He.ma K (He.ga K "Case") "__init__") fd ["self", "door", "states", "own"] (spInit K) := by
  obtain ⟨fd, F⟩ := T.F_Case___init__
  refine ⟨fd, F, F.ok sc_Case___init__ (fun vs H Q E h => sp4_len h) fun cdv A outer s H vs Q E hr h => ?_⟩
  obtain ⟨v0, v1, v2, v3, rfl, h⟩ := h
  refine ⟨_, PSs.nox (pss_cons (ps_fld (pv 0) (pv 1) (by rfl))
      (pss_cons (ps_fld (pv 0) (pe_callTy (kTupleOf K) (by rfl) T.z_tuple (by decide +kernel) (pa_cons (pe_lc (own := [("marks", 4), ("held", 5)]) (g := (gOr (gTup K 2 (gCons (gName 4) (gCons (gName 5) gNil))) (gUnl K 2 (gCons (gName 4) (gCons (gName 5) gNil))))) (by rfl) sc_Case___init__.nd (kPiL K (pv 2)) (blkOk_by (own := [("marks", 4), ("held", 5)]) (N := n_Case___init__) (sc := defScope s_Case___init__) (by decide +kernel)) (fun _ _ _ _ _ => (pg_or (pg_tup (n := 2) rfl (pgs_cons (pg_name (i := 4) sc_Case___init__.nd rfl (.inl rfl)) (pgs_cons (pg_name (i := 5) sc_Case___init__.nd rfl (.inl rfl)) pgs_nil))) (pg_unlK K (n := 2) rfl (pgs_cons (pg_name (i := 4) sc_Case___init__.nd rfl (.inl rfl)) (pgs_cons (pg_name (i := 5) sc_Case___init__.nd rfl (.inl rfl)) pgs_nil))))) (fun _ _ _ _ _ => by exact pts_nil) (fun _ _ _ _ _ => by exact (pe_tup (pa_cons (pv 4) (pa_cons (pv 5) pa_nil))))) pa_nil)) (by rfl))
      (pss_one (ps_fld (pv 0) (pv 3) (by rfl))))), ?_⟩
  try dsimp only [cxOf, Cx.nox, Cx.wish]
  obtain ⟨x, dx, l, xs, w0, sts, b, F, M, rfl, rfl, rfl, hx, ha, rfl, hn, o, k⟩ := h
  have T1 := T.cl_Case
  walk_at "rd"
  refine r_setF o 0 rfl T1 T.na_Case_door fun H1 o => ?_
  walk_at "rd"
  refine ⟨⟨xs, hx F [_] _ (Same.refl _) o⟩, ?_⟩
  refine lcb (walk_list (xs := xs)) o (fun i acc F' M' => Same F F' ∧ M' = (x, .ins (He.ga K "Case") dx [("door", .str w0)]) :: M ∧ DpAll K F' acc ((sts.take i).map dSt)) ⟨Same.refl _, rfl, .nil⟩ ?_ ?_ ?_
  · rintro D i acc F' M' H' _ ⟨s1, rfl, _⟩ o'
    exact hx F' [_, _] H' s1 o'
  · rintro D i y acc F' M' H' H'' hi ⟨s1, rfl, hacc⟩ o' ⟨rfl, hy⟩
    obtain ⟨s0, hs, ry⟩ := row_of ha hy
    refine r_row ry (s1.trans o'.fr) ?_
    walk_at "rd"
    refine iteT ?_
    walk_at "rd"
    refine newT o' fun q H3 nq o3 => ?_
    refine lcN ⟨acc, _, _, small1000 ?_, ⟨s1.trans (same_upd nq), rfl, ?_⟩, o3⟩
    · have e := dpAll_len hacc
      rw [List.length_map, List.length_take] at e
      omega
    · rw [take_snoc hs, List.map_append]
      exact dpAll_snoc (dpAll_mono (same_upd nq) hacc) (dp_newT nq (.cons (.int _) (.cons (.bl _) .nil)))
  · rintro D acc F' M' H' nD ⟨s1, rfl, hacc⟩ o'
    rw [row_len ha, List.take_length] at hacc
    walk_at "rd"
    refine r_tupleOf o' (SqL.of (o'.get 0)) fun l H2 nl o2 => ?_
    walk_at "rd"
    refine r_setF o2.tail 0 rfl T1 T.na_Case_states fun H3 o3 => ?_
    walk_at "rd"
    refine r_setF o3 0 rfl T1 T.na_Case_own fun H4 o4 => ?_
    exact k _ l H4 (s1.trans (same_upd nl)) o4 (dp_newT nl hacc)
/-- Case(door, states, own) -/
theorem ok_Case___init__ (T : Tx K mg) : FnR P w K mg base CX0 (1) (He.ma K (He.ga K "Case") "__init__") (spInit K) := by
  obtain ⟨fd, F, G⟩ := init_ok (P := P) (w := w) (base := base) T
  obtain ⟨ds, hd, hb⟩ : ∃ ds, Vals [] ds ∧ Binds K fd ["self", "door", "states", "own"] ds := F.binds1 (ps := ["self", "door", "states", "own"]) 4 1 (by intro z; cases z) rfl fun _ _ _ _ _ _ _ us its hl hi => match us, its, hl, hi with | [_, _, _, _], [_], _, _ => ⟨_, rfl, rfl⟩
  exact fnR_nil (G.raw hb hd)
/-- Case(door, states) -/
theorem ok_Case2 (T : Tx K mg) : FnR P w K mg base CX0 (1) (He.ma K (He.ga K "Case") "__init__") (fun vs H Q E => spInit K (vs ++ [.bl false]) H Q E) := by
  obtain ⟨fd, F, G⟩ := init_ok (P := P) (w := w) (base := base) T
  obtain ⟨ds, hd, hb⟩ : ∃ ds, Vals [.bl false] ds ∧ Binds K fd ["self", "door", "states", "own"] ds := F.binds1 (ps := ["self", "door", "states", "own"]) 3 0 (by intro z; cases z) rfl fun _ _ _ _ _ _ _ us its hl hi => match us, its, hl, hi with | [_, _, _], [_], _, _ => ⟨_, rfl, rfl⟩
  exact G.raw hb hd
/-- Case(door, states, own = b) -/
theorem ok_CaseK (T : Tx K mg) : ∃ fd, FnOk P w K mg base CX0 (1) (He.ma K (He.ga K "Case") "__init__") fd ["self", "door", "states", "own"] (spInit K) ∧ ∃ its : List Value, KBn K fd ["self", "door", "states", "own"] (2 + 1) ["own"] (fun us ws => us ++ ws) (fun vs zs => vs ++ zs) := by
  obtain ⟨fd, F, G⟩ := init_ok (P := P) (w := w) (base := base) T
  refine ⟨fd, G, ?_⟩
  exact F.kbindsD 3 ["own"] (fun us _ ws => us ++ ws) (by intro z; cases z) (fun r1 _ r2 => r1.append r2) fun _ _ _ _ _ _ _ us its ws hl hi hw => match us, its, ws, hl, hi, hw with | [_, _, _], [_], [_], _, _, _ => ⟨_, rfl, rfl⟩

def caseEq (w : Str) (s : List (Int × Bool)) (b : Bool) (w' : Str) (s' : List (Int × Bool)) (b' : Bool) : Bool := decide (w = w') && (decide (s = s') && decide (b = b'))
theorem eqv_st (s s' : Int × Bool) : PyData.eqv (dSt s) (dSt s') = decide (s = s') := by
  obtain ⟨n, b⟩ := s
  obtain ⟨n', b'⟩ := s'
  show ((n == n') && ((b == b') && true)) = _
  rw [Bool.and_true]
  by_cases h1 : n = n' <;> by_cases h2 : b = b' <;> simp [h1, h2]
theorem eqv_sts : ∀ s s' : List (Int × Bool), PyData.eqvAll (s.map dSt) (s'.map dSt) = decide (s = s')
  | [], [] => rfl
  | [], _ :: _ => rfl
  | _ :: _, [] => rfl
  | a :: r, b :: q => by
    show (PyData.eqv (dSt a) (dSt b) && PyData.eqvAll (r.map dSt) (q.map dSt)) = _
    rw [eqv_st, eqv_sts r q]
    by_cases h1 : a = b <;> by_cases h2 : r = q <;> simp [h1, h2]
theorem shp_sts (s : List (Int × Bool)) : Shp 2 (.tuple (s.map dSt)) := shp_tuple fun d hd => by
  obtain ⟨i, _, rfl⟩ := List.mem_map.mp hd
  refine shp_tuple (n := 0) fun e he => ?_
  rcases List.mem_cons.mp he with rfl | he
  · exact shp_int _ _
  · rcases List.mem_cons.mp he with rfl | he
    · exact shp_bool _ _
    · cases he
theorem CaseAt.mono {K : PySem.W.Frag} {F F' : Hp} {v : V} {w : Str} {s : List (Int × Bool)} {b : Bool} (e : Same F F') (h : CaseAt K F v w s b) : CaseAt K F' v w s b := by
  obtain ⟨x, dx, t, rfl, hx, ht⟩ := h
  exact ⟨x, dx, t, rfl, e _ _ hx, dp_mono e ht⟩
def spEqC (K : PySem.W.Frag) : Sp := sp2 fun v0 v1 H Q => ∃ (w : Str) (s : List (Int × Bool)) (b r : Bool) (F : Hp) (M : Cells), CaseAt K F v0 w s b ∧ Own F M H ∧
  ((∃ w' s' b', CaseAt K F v1 w' s' b' ∧ r = caseEq w s b w' s' b') ∨ (∃ t, TyX K H v1 t ∧ PySem.W.kitOne K t (.ref (He.ga K "Case")) = some false ∧ r = false)) ∧ Q (.bl r) H
theorem ok_Case___eq__ (T : Tx K mg) : FnR P w K mg base CX0 1 (He.ma K (He.ga K "Case") "__eq__") (spEqC K) := by
  obtain ⟨fd, F⟩ := T.F_Case___eq__

  refine fnR_nil (fnR_by (dv := []) F sc_Case___eq__ (fun vs H Q E h => sp2_len h) (⟨[], .nil, F.bindsN fun _ _ _ _ _ _ us hl => match us, hl with | [_, _], _ => rfl⟩) (fun cdv A outer s H vs Q E hr h => ?_))
  obtain ⟨v0, v1, rfl, h⟩ := h
  refine ⟨_, (pss_one (ps_ret (pe_and (pe_callB (kIsi K) (by rfl) T.z_isinstance (by decide +kernel) (pa_cons (pv 1) (pa_cons (pe_glob (v := .ref (He.ga K "Case")) (by rfl) T.g_Case rfl) pa_nil))) (pe_and (pe_cmpR op_eq (kFld K (pv 0)) (kFld K (pv 1)) (nomark _)) (pe_and (pe_cmpR (kEqD K hr.units) (kFld K (pv 0)) (kFld K (pv 1)) (nomark _)) (pe_one (pe_cmpR op_eq (kFld K (pv 0)) (kFld K (pv 1)) (nomark _)))))))), ?_⟩
  try dsimp only [cxOf, Cx.nox, Cx.wish]
  have cl_Case := T.cl_Case
  have na_Case_door := T.na_Case_door
  have na_Case_states := T.na_Case_states
  have na_Case_own := T.na_Case_own

  obtain ⟨w0, s0, b0, r, F, M, h0, o, h, k⟩ := h
  have T1 := T.cl_Case
  obtain ⟨x, dx, t, rfl, hx, ht⟩ := h0
  walk_at "rd"
  rcases h with ⟨w1, s1, b1, h1, rfl⟩ | ⟨ty, hty, hk, rfl⟩
  · obtain ⟨x1, dx1, t1, rfl, hx1, ht1⟩ := h1
    refine ⟨_, _, _, _, true, rfl, .own _, T.it_Case.ty T1 (o.fr _ _ hx1), kit_self _, ?_⟩
    walk_at "rd"
    refine iteT ?_
    walk_at "rd"
    refine ite2 (fun hw => ?_) (fun hw => ?_)
    · walk_at "rd"
      refine r_eqD (dp_mono o.fr ht) (dp_mono o.fr ht1) (shp_sts _).shaped (shp_sts _).shaped ?_
      rw [PyData.eqv, eqv_sts]
      walk_at "rd"
      have ew : w0 = w1 := V.str.inj (of_decide_eq_true hw)
      refine ite2 (fun hs => ?_) (fun hs => ?_)
      · walk_at "rd"
        have e : caseEq w0 s0 b0 w1 s1 b1 = decide (V.bl b0 = V.bl b1) := by
          unfold caseEq
          rw [decide_eq_true ew, hs]
          by_cases hb : b0 = b1 <;> simp [hb]
        rw [← e]
        exact k
      · have e : caseEq w0 s0 b0 w1 s1 b1 = false := by
          unfold caseEq
          rw [Bool.eq_false_iff.mpr hs]
          simp
        rw [e] at k
        exact k
    · have e : caseEq w0 s0 b0 w1 s1 b1 = false := by
        unfold caseEq
        rw [decide_eq_false fun e => hw (decide_eq_true (congrArg V.str e))]
        rfl
      rw [e] at k
      exact k
  · refine ⟨_, _, _, _, false, rfl, .own _, hty, hk, ?_⟩
    walk_at "rd"
    exact iteF k
theorem ok_Case___len__ (T : Tx K mg) : FnR P w K mg base CX0 1 (He.ma K (He.ga K "Case") "__len__") (sp1 fun v H Q => ∃ (w : Str) (s : List (Int × Bool)) (b : Bool) (F : Hp) (M : Cells), CaseAt K F v w s b ∧ Own F M H ∧ Q (.int s.length) H) := by
  obtain ⟨fd, F⟩ := T.F_Case___len__

  refine fnR_nil (fnR_by (dv := []) F sc_Case___len__ (fun vs H Q E h => sp1_len h) (⟨[], .nil, F.bindsN fun _ _ _ _ _ _ us hl => match us, hl with | [_], _ => rfl⟩) (fun cdv A outer s H vs Q E hr h => ?_))
  obtain ⟨v0, rfl, h⟩ := h
  refine ⟨_, (pss_one (ps_ret (pe_callB (kLen K) (by rfl) T.z_len (by decide +kernel) (pa_cons (kFld K (pv 0)) pa_nil)))), ?_⟩
  try dsimp only [cxOf, Cx.nox, Cx.wish]
  have cl_Case := T.cl_Case
  have na_Case_door := T.na_Case_door
  have na_Case_states := T.na_Case_states
  have na_Case_own := T.na_Case_own

  obtain ⟨w0, s0, b0, F, M, h0, o, k⟩ := h
  obtain ⟨x, dx, t, rfl, hx, ht⟩ := h0
  walk_at "rd"
  obtain ⟨t', xs, e, hq, ha⟩ := dp_tup_inv ht
  cases e
  refine r_lenT (Same.tup o.fr hq) ?_
  rw [dpAll_len ha, List.length_map]
  exact k
def stT (s : Int × Bool) : Str := if s.2 then toString s.1 ++ Str.ofString "h" else toString s.1
def strC (w : Str) (sts : List (Int × Bool)) (b : Bool) : Str := Txt.join " " (w :: ((if b then [Str.ofString "own"] else []) ++ sts.map stT))
theorem empty_app (z : Str) : Str.empty ++ z = z := by
  show (⟨#[] ++ z.cps⟩ : Str) = z
  rw [Array.empty_append]
theorem app_len (x y : Str) : (x ++ y).length = x.length + y.length := Array.size_append
theorem sum_le {c : Nat} : ∀ {ys : List Str}, (∀ y ∈ ys, y.length ≤ c) → (ys.map (·.length)).sum ≤ ys.length * c
  | [], _ => Nat.zero_le _
  | y :: r, h => by
    rw [List.map_cons, List.sum_cons, List.length_cons, Nat.succ_mul, Nat.add_comm]
    exact Nat.add_le_add (sum_le fun z hz => h z (List.mem_cons_of_mem _ hz)) (h y List.mem_cons_self)
/-- the numbers are not too long -/
def Mks (sts : List (Int × Bool)) : Prop := ∀ s ∈ sts, s.1.natAbs.log2 < 1920 ∧ (stT s).length ≤ 100
def spStr (K : PySem.W.Frag) : Sp := sp1 fun v H Q => ∃ (w : Str) (s : List (Int × Bool)) (b : Bool) (F : Hp) (M : Cells), CaseAt K F v w s b ∧ Mks s ∧ s.length ≤ 100 ∧ w.length ≤ 100 ∧ Own F M H ∧ ∀ H', Own F M H' → Q (.str (strC w s b)) H'
theorem ok_Case___str__ (T : Tx K mg) : FnR P w K mg base CX0 1 (He.ma K (He.ga K "Case") "__str__") (spStr K) := by
  obtain ⟨fd, F⟩ := T.F_Case___str__

  refine fnR_nil (fnR_by (dv := []) F sc_Case___str__ (fun vs H Q E h => sp1_len h) (⟨[], .nil, F.bindsN fun _ _ _ _ _ _ us hl => match us, hl with | [_], _ => rfl⟩) (fun cdv A outer s H vs Q E hr h => ?_))
  obtain ⟨v0, rfl, h⟩ := h
  refine ⟨_, (pss_cons (ps_set (i := 1) sc_Case___str__.nd rfl (.inl rfl) (pe_lst (pa_cons (kFld K (pv 0)) pa_nil)))
      (pss_cut (ps_if (pt_val (kFld K (pv 0))) (pss_one (ps_expr (pe_bm PySem.F.plainAttrs_list PySem.F.slot_list_append PySem.F.type_list_append mt_append (pv 1) (pa_cons pe_str pa_nil)))) pss_nil)
      (pss_cons (ps_for PassesOwn.never rfl (kPiT K (kFld K (pv 0))) (pg_tup (n := 2) rfl (pgs_cons (pg_name (i := 2) sc_Case___str__.nd rfl (.inl rfl)) (pgs_cons (pg_name (i := 3) sc_Case___str__.nd rfl (.inl rfl)) pgs_nil)))
      (pss_one (ps_expr (pe_bm PySem.F.plainAttrs_list PySem.F.slot_list_append PySem.F.type_list_append mt_append (pv 1) (pa_cons (pe_ifExp (pt_val (pv 3)) (kJn (PJ.cons (pe_fmt (pv 2)) (PJ.cons pe_str PJ.nil))) (pe_joined1 (pe_fmt (pv 2)))) pa_nil)))))
      (pss_one (ps_ret (kJoin K pe_str (pv 1))))))), ?_⟩
  try dsimp only [cxOf, Cx.nox, Cx.wish]
  have cl_Case := T.cl_Case
  have na_Case_door := T.na_Case_door
  have na_Case_states := T.na_Case_states
  have na_Case_own := T.na_Case_own

  obtain ⟨w0, s0, b0, F, M, h0, hm, hl, hw, o, k⟩ := h
  obtain ⟨x, dx, t, rfl, hx, ht⟩ := h0
  obtain ⟨t', xs, e, hq, ha⟩ := dp_tup_inv ht
  cases e
  walk_at "rd"
  refine newL o fun L H1 nL o1 => ?_
  walk_at "rd"
  refine r_cut (fun σ H => ∃ y2 y3, σ = [some (.ref x), some (.ref L), y2, y3] ∧ Own F ((L, .lst ((w0 :: (if b0 then [Str.ofString "own"] else [])).map V.str)) :: M) H) ?_ ?_
  · walk_at "rd"
    cases b0
    · refine iteF ?_
      walk_at "rd"
      exact ⟨_, _, rfl, o1⟩
    · refine iteT ?_
      walk_at "rd"
      refine r_append o1 0 rfl (small1000 (Nat.le_of_ble_eq_true rfl)) fun H2 o2 => ?_
      exact ⟨_, _, rfl, o2⟩
  rintro σ H2 ⟨y2, y3, rfl, o2⟩
  walk_at "rd"
  refine forb_tup (xs := xs) (fun i σ H => ∃ y2 y3, σ = [some (.ref x), some (.ref L), y2, y3] ∧ Own F ((L, .lst ((w0 :: ((if b0 then [Str.ofString "own"] else []) ++ (s0.take i).map stT)).map V.str)) :: M) H) ⟨y2, y3, rfl, by rw [List.take_zero, List.map_nil, List.append_nil]; exact o2⟩ ?_ ?_ ?_
  · rintro i σ H3 _ ⟨z2, z3, rfl, o3⟩
    exact Same.tup o3.fr hq
  · rintro i v σ H3 hv ⟨z2, z3, rfl, o3⟩
    obtain ⟨d, hd, dy⟩ := dpAll_get ha hv
    obtain ⟨s1, hs, rfl⟩ := map_get hd
    obtain ⟨p, rfl, hp⟩ := dp_st dy
    have hm1 := hm s1 (List.mem_of_getElem? hs)
    refine r_gtup (Same.tup o3.fr hp) rfl ?_
    have hi : i < s0.length := (List.getElem?_eq_some_iff.mp hs).1
    have fin : ∀ H', Own F ([(L, HO.lst ((w0 :: ((if b0 then [Str.ofString "own"] else []) ++ (s0.take i).map stT)).map V.str ++ [V.str (stT s1)]))] ++ M) H' → Own F ((L, .lst ((w0 :: ((if b0 then [Str.ofString "own"] else []) ++ (s0.take (i + 1)).map stT)).map V.str)) :: M) H' := by
      intro H' o'
      rw [take_snoc hs, List.map_append, ← List.append_assoc, ← List.cons_append, List.map_append]
      exact o'
    have len : ((w0 :: ((if b0 then [Str.ofString "own"] else []) ++ (s0.take i).map stT)).map V.str).length ≤ 1000 := by
      have hb : (if b0 then [Str.ofString "own"] else []).length ≤ 1 := by cases b0 <;> decide
      rw [List.length_map, List.length_cons, List.length_append, List.length_map, List.length_take]
      omega
    walk_at "rd"
    obtain ⟨n1, c1⟩ := s1
    cases c1
    · refine iteF ?_
      walk_at "rd"
      refine .inr ⟨_, rfl, hm1.1, ?_⟩
      walk_at "rd"
      refine r_append o3 0 rfl (small1000 len) fun H4 o4 => ?_
      exact ⟨_, _, rfl, fin _ o4⟩
    · refine iteT ?_
      walk_at "rd"
      refine .inr ⟨_, rfl, hm1.1, ?_⟩
      have l2 := hm1.2
      dsimp only
      have l3 : (stT (n1, true)).length = (toString n1 : Str).length + 1 := app_len _ _
      refine ⟨_, rfl, ?_, ?_⟩
      · rw [empty_app]
        exact sz1 (by omega)
      refine ⟨_, rfl, ?_, ?_⟩
      · rw [empty_app]
        exact sz1 (by rw [app_len]; show _ + 1 ≤ _; omega)
      rw [empty_app]
      walk_at "rd"
      refine r_append o3 0 rfl (small1000 len) fun H4 o4 => ?_
      exact ⟨_, _, rfl, fin _ o4⟩
  · rintro σ H3 ⟨z2, z3, rfl, o3⟩
    have e := dpAll_len ha
    rw [List.length_map] at e
    rw [e, List.take_length] at o3
    walk_at "rd"
    refine r_join (ys := w0 :: ((if b0 then [Str.ofString "own"] else []) ++ s0.map stT)) (SqL.of (o3.get 0)) ?_ (k _ o3.tail)
    have hb : (if b0 then [Str.ofString "own"] else []).length ≤ 1 := by cases b0 <;> decide
    have h1 : (w0 :: ((if b0 then [Str.ofString "own"] else []) ++ s0.map stT)).length ≤ 102 := by
      rw [List.length_cons, List.length_append, List.length_map]
      omega
    have h2 : ((w0 :: ((if b0 then [Str.ofString "own"] else []) ++ s0.map stT)).map (·.length)).sum ≤ (w0 :: ((if b0 then [Str.ofString "own"] else []) ++ s0.map stT)).length * 100 := sum_le fun y hy => by
      rcases List.mem_cons.mp hy with rfl | hy
      · exact hw
      · rcases List.mem_append.mp hy with hy | hy
        · cases b0
          · cases hy
          · rw [List.mem_singleton.mp hy]
            decide
        · obtain ⟨s1, hs1, rfl⟩ := List.mem_map.mp hy
          exact (hm s1 hs1).2
    show _ + _ * 1 ≤ _
    omega

def letters : Str := "abcdefghijklmnopqrstuvwxyz"
theorem letters_len : letters.cps.toList.length = 26 := by decide +kernel
theorem letter_at {r : Int} (h0 : 0 ≤ r) (h1 : r < 26) : ∃ c, atI letters.cps.toList r = some c ∧ c ∈ letters.cps.toList := at_lt h0 (by rw [letters_len]; exact h1)
theorem sum_len1 : ∀ {ys : List Str}, (∀ y ∈ ys, y.length = 1) → (ys.map (·.length)).sum = ys.length
  | [], _ => rfl
  | y :: r, h => by
    rw [List.map_cons, List.sum_cons, sum_len1 (ys := r) fun z hz => h z (List.mem_cons_of_mem _ hz), h y List.mem_cons_self, List.length_cons]
    omega
structure Pt (w : Str) (sts : List (Int × Bool)) (m : Int) : Prop where
  wl : w.length ≤ 9
  wo : PyData.strOk w = true
  n1 : 1 ≤ sts.length
  n8 : sts.length ≤ 8
  ms : ∀ s ∈ sts, 0 ≤ s.1 ∧ s.1 < m
theorem Pt.mks {w : Str} {sts : List (Int × Bool)} (p : Pt w sts (10 ^ 31)) : Mks sts := fun s hs => by
  obtain ⟨h0, h1⟩ := p.ms s hs
  have hn : s.1.natAbs < 10 ^ 31 := by omega
  have hl := PySem.int_text_length_le10 (a := s.1) (k := 31) (by decide) hn
  refine ⟨?_, ?_⟩
  · by_cases hz : s.1.natAbs = 0
    · rw [hz]
      decide
    · exact (Nat.log2_lt hz).mpr (Nat.lt_of_lt_of_le hn (by decide))
  · have e : (toString s.1 : Str).length ≤ 32 := by
      rw [PySem.ofString_length]
      exact hl
    unfold stT
    split
    · rw [app_len]
      show _ + 1 ≤ _
      omega
    · omega
def dPt (w : Str) (sts : List (Int × Bool)) (b : Bool) : PyData := .tuple [.str w, .list (sts.map dSt), .bool b]
theorem dp_pt {K : PySem.W.Frag} {F : Hp} {v : V} {w : Str} {sts : List (Int × Bool)} {b : Bool} (h : Dp K F v (dPt w sts b)) : ∃ t tl xs, v = .ref t ∧ SqT K F t [.str w, .ref tl, .bl b] ∧ SqL K F tl xs ∧ DpAll K F xs (sts.map dSt) := by
  obtain ⟨t, xs, rfl, hx, h⟩ := dp_tup_inv h
  obtain ⟨v1, ws, rfl, h1, h⟩ := dpAll_cons_inv h
  obtain ⟨v2, ws, rfl, h2, h⟩ := dpAll_cons_inv h
  obtain ⟨v3, ws, rfl, h3, h⟩ := dpAll_cons_inv h
  have e := dpAll_nil_inv h
  subst e
  obtain ⟨tl, ys, rfl, hy, hd⟩ := dp_list_inv h2
  rw [dp_str_inv h1, dp_bool_inv h3] at hx
  exact ⟨t, tl, ys, rfl, hx, hy, hd⟩
theorem pt_dp {K : PySem.W.Frag} {F : Hp} {t tl : Addr} {w : Str} {sts : List (Int × Bool)} {b : Bool} (h : SqT K F t [.str w, .ref tl, .bl b]) (hd : Dp K F (.ref tl) (.list (sts.map dSt))) : Dp K F (.ref t) (dPt w sts b) := .tup h (.cons (.str _) (.cons hd (.cons (.bl _) .nil)))
theorem letters_ok : ∀ c ∈ letters.cps.toList, c < 0x110000 := by decide +kernel
theorem str_ok {z : Str} (h : ∀ c ∈ z.cps.toList, c < 0x110000) : PyData.strOk z = true := by
  unfold PyData.strOk
  rw [Array.all_eq_true']
  exact fun c hc => decide_eq_true (h c (Array.mem_toList_iff.mpr hc))
theorem ok_app {x y : Str} (hx : PyData.strOk x = true) (hy : PyData.strOk y = true) : PyData.strOk (x ++ y) = true := by
  unfold PyData.strOk at *
  show (x.cps ++ y.cps).all _ = true
  rw [Array.all_append, hx, hy]
  rfl
theorem join_ok {a : Str} (ha : PyData.strOk a = true) : ∀ {ys : List Str}, (∀ y ∈ ys, PyData.strOk y = true) → PyData.strOk (Txt.join a ys) = true
  | [], _ => (show PyData.strOk Str.empty = true by decide +kernel)
  | [y], h => h y List.mem_cons_self
  | y :: z :: r, h => by
    rw [join_cons]
    exact ok_app (h y List.mem_cons_self) (ok_app ha (join_ok ha fun u hu => h u (List.mem_cons_of_mem _ hu)))
theorem join_len0 : ∀ (ys : List Str), (Txt.join "" ys).length = (ys.map (·.length)).sum
  | [] => rfl
  | [y] => by show y.length = y.length + 0; rfl
  | y :: z :: r => by
    rw [join_cons, app_len, app_len, join_len0 (z :: r), List.map_cons (l := z :: r), List.sum_cons]
    show _ + (0 + _) = _
    rw [Nat.zero_add]
def spDrawn (K : PySem.W.Frag) : Sp := sp1 fun v H Q => ∃ (a : Addr) (F : Hp) (S M : Cells), v = .ref a ∧ Src a S ∧ Own F (S ++ M) H ∧
  ∀ v (w : Str) (sts : List (Int × Bool)) (b : Bool) F' S' H', Same F F' → Dp K F' v (dPt w sts b) → Pt w sts (10 ^ 30) → w.length ≤ 8 → Src a S' → Own F' (S' ++ M) H' → Q v H'
theorem ok__law_drawn (T : Tx K mg) : Ok1 P w K mg base "_law_drawn" 2 (spDrawn K) := by
  obtain ⟨fd, F⟩ := T.F__law_drawn
  have G__law_draw := ok__law_draw (P := P) (w := w) (base := base) T
  refine ok1_of F T.g__law_drawn sc__law_drawn (fun vs H Q E h => sp1_len h) (fun _ _ _ _ _ _ us hl => match us, hl with | [_], _ => rfl) (fun cdv A outer s H vs Q E hr h => ?_)
  obtain ⟨v0, rfl, h⟩ := h
  refine ⟨_, (pss_cons (ps_set (i := 1) sc__law_drawn.nd rfl (.inr rfl) pe_str)
      (pss_cons (ps_set (i := 2) sc__law_drawn.nd rfl (.inl rfl) (kJoin K pe_str (pe_lc (own := [("_law_k", 4)]) (g := (gName 4)) (by rfl) sc__law_drawn.nd (pi_range1 (by rfl) T.z_range (pa_cons (pe_own G__law_draw (hr.mono (by decide)) (by rfl) (pa_cons (pv 0) (pa_cons pe_int pa_nil))) pa_nil)) (blkOk_by (own := [("_law_k", 4)]) (N := n__law_drawn) (sc := defScope s__law_drawn) (by decide +kernel)) (fun _ _ _ _ _ => (pg_name (i := 4) sc__law_drawn.nd rfl (.inl rfl))) (fun _ _ _ _ _ => by exact pts_nil) (fun _ _ _ _ _ => by exact (pe_ix ix_str (pv 1) (pe_own G__law_draw (hr.mono (by decide)) (by rfl) (pa_cons (pv 0) (pa_cons pe_int pa_nil))) (fun _ _ => rfl))))))
      (pss_cons (ps_set (i := 3) sc__law_drawn.nd rfl (.inl rfl) (pe_lst pa_nil))
      (pss_cons (ps_for PassesOwn.never rfl (pi_range1 (by rfl) T.z_range (pa_cons (pe_op op_add pe_int (pe_own G__law_draw (hr.mono (by decide)) (by rfl) (pa_cons (pv 0) (pa_cons pe_int pa_nil)))) pa_nil)) (pg_name (i := 4) sc__law_drawn.nd rfl (.inl rfl))
      (pss_cons (ps_set (i := 5) sc__law_drawn.nd rfl (.inl rfl) (pe_own G__law_draw (hr.mono (by decide)) (by rfl) (pa_cons (pv 0) (pa_cons (pe_ix (kIxL K) (pe_lst (pa_cons pe_int (pa_cons (pe_op op_pow pe_int pe_int) pa_nil))) (pe_callTy c_int1 (by rfl) T.z_int (by decide +kernel) (pa_cons (pe_cmpR op_eq (pe_own G__law_draw (hr.mono (by decide)) (by rfl) (pa_cons (pv 0) (pa_cons pe_int pa_nil))) pe_int (nomark _)) pa_nil)) (fun _ _ => rfl)) pa_nil))))
      (pss_one (ps_expr (pe_bm PySem.F.plainAttrs_list PySem.F.slot_list_append PySem.F.type_list_append mt_append (pv 3) (pa_cons (pe_tup (pa_cons (pv 5) (pa_cons (pe_cmpR op_eq (pe_own G__law_draw (hr.mono (by decide)) (by rfl) (pa_cons (pv 0) (pa_cons pe_int pa_nil))) pe_int (nomark _)) pa_nil))) pa_nil))))))
      (pss_one (ps_ret (pe_tup (pa_cons (pv 2) (pa_cons (pv 3) (pa_cons (pe_cmpR op_eq (pe_own G__law_draw (hr.mono (by decide)) (by rfl) (pa_cons (pv 0) (pa_cons pe_int pa_nil))) pe_int (nomark _)) pa_nil)))))))))), ?_⟩
  try dsimp only [cxOf, Cx.nox, Cx.wish]
  have cl_Case := T.cl_Case
  have na_Case_door := T.na_Case_door
  have na_Case_states := T.na_Case_states
  have na_Case_own := T.na_Case_own

  obtain ⟨a, F, S, M, rfl, hs, o, k⟩ := h
  walk_at "rd"
  refine use_draw [] o hs (by decide) (by decide) fun r S1 H1 r0 r1 hs1 o1 => ?_
  walk_at "rd"
  refine lcb walk_range o1 (fun i acc F' M' => F' = F ∧ (∃ S', Src a S' ∧ M' = S' ++ M) ∧ ∃ ys : List Str, acc = ys.map V.str ∧ ys.length ≤ i ∧ ∀ y ∈ ys, y.length = 1 ∧ PyData.strOk y = true) ⟨rfl, ⟨S1, hs1, rfl⟩, [], rfl, Nat.le_refl _, fun _ h => by cases h⟩ (fun _ _ _ _ _ _ _ _ _ => trivial) ?_ ?_
  · rintro D i y acc F' M' H' H'' hi ⟨rfl, ⟨S2, hs2, rfl⟩, ys, rfl, hys, h1⟩ o' ⟨rfl, rfl⟩
    walk_at "rd"
    refine iteT ?_
    walk_at "rd"
    refine use_draw [_] o' hs2 (by decide) (by decide) fun c S3 H3 c0 c1 hs3 o3 => ?_
    obtain ⟨cp, hc, hcm⟩ := letter_at c0 c1
    refine r_ixS (by decide) hc ?_
    refine lcN ⟨_, _, _, small1000 ?_, ⟨rfl, ⟨S3, hs3, rfl⟩, ys ++ [⟨#[cp]⟩], by rw [List.map_append]; rfl, by rw [List.length_append]; exact Nat.succ_le_succ hys, fun y hy => ?_⟩, o3⟩
    · rw [List.length_map]
      omega
    · rcases List.mem_append.mp hy with hy | hy
      · exact h1 y hy
      · rw [List.mem_singleton.mp hy]
        refine ⟨rfl, str_ok fun c hc => ?_⟩
        rw [List.mem_singleton.mp hc]
        exact letters_ok _ hcm
  rintro D acc F' M' H' nD ⟨rfl, ⟨S2, hs2, rfl⟩, ys, rfl, hys, h1⟩ o2
  walk_at "rd"
  refine r_join (ys := ys) (SqL.of (o2.get 0)) ?_ ?_
  · rw [sum_len1 fun y hy => (h1 y hy).1, show (Str.length (Str.ofString "") : Nat) = 0 from rfl]
    omega
  have o3 := o2.tail
  walk_at "rd"
  refine newL o3 fun L H3 nL o4 => ?_
  walk_at "rd"
  refine use_draw [_] o4 hs2 (by decide) (by decide) fun m S3 H4 m0 m1 hs3 o5 => ?_
  walk_at "rd"
  have wl : (Txt.join (Str.ofString "") ys).length ≤ 8 := by
    have e := join_len0 ys
    rw [sum_len1 fun y hy => (h1 y hy).1] at e
    have e2 : (Txt.join (Str.ofString "") ys).length = ys.length := e
    omega
  have wo : PyData.strOk (Txt.join (Str.ofString "") ys) = true := join_ok (by decide +kernel) fun y hy => (h1 y hy).2
  generalize Txt.join (Str.ofString "") ys = wd at wl wo
  refine forb_range (fun i σ H => ∃ (F1 : Hp) (S' : Cells) (sts : List (Int × Bool)) (vs : List V) (y4 y5 : Option V), σ = [some (.ref a), some (.str letters), some (.str wd), some (.ref L), y4, y5] ∧ Same F' F1 ∧ Src a S' ∧ Own F1 ((L, .lst vs) :: (S' ++ M)) H ∧
    DpAll K F1 vs (sts.map dSt) ∧ sts.length = i ∧ ∀ s ∈ sts, 0 ≤ s.1 ∧ s.1 < 10 ^ 30) ⟨F', S3, [], [], _, _, rfl, Same.refl _, hs3, o5, .nil, rfl, fun _ h => by cases h⟩ ?_ ?_
  · rintro i σ H5 hi ⟨F1, S4, sts, vs, y4, y5, rfl, s1, hs4, o6, hd, hl, hm⟩
    walk_at "rd"
    refine newL o6 fun q H6 nq o7 => ?_
    walk_at "rd"
    refine use_draw [_, _] o7 hs4 (by decide) (by decide) fun c S5 H7 c0 c1 hs5 o8 => ?_
    walk_at "rd"
    obtain ⟨lm, hlm, l0, l1⟩ : ∃ lm : Int, atI [V.int 4, V.int (10 ^ Int.toNat 30)] (if decide (V.int c = V.int 3) = true then 1 else 0) = some (.int lm) ∧ 0 < lm ∧ lm ≤ 10 ^ 30 := by
      by_cases hc : V.int c = V.int 3
      · rw [if_pos (decide_eq_true hc)]
        exact ⟨_, rfl, by decide, by decide⟩
      · rw [if_neg (by rw [decide_eq_false hc]; decide)]
        exact ⟨_, rfl, by decide, by decide⟩
    refine r_ixL (SqL.of (o8.get 0)) hlm ?_
    walk_at "rd"
    refine use_draw [_, _] o8 hs5 l0 (by omega) fun mk S6 H8 mk0 mk1 hs6 o9 => ?_
    walk_at "rd"
    refine use_draw [_] o9.tail hs6 (by decide) (by decide) fun b S7 H9 b0 b1 hs7 o10 => ?_
    walk_at "rd"
    refine newT o10 fun p H10 np o11 => ?_
    walk_at "rd"
    refine r_append o11 0 rfl (small1000 ?_) fun H11 o12 => ?_
    · rw [dpAll_len hd, List.length_map]
      omega
    refine ⟨_, S7, sts ++ [(mk, decide (V.int b = V.int 1))], _, _, _, rfl, s1.trans (same_upd np), hs7, o12, ?_, by rw [List.length_append, hl]; rfl, fun s hs => ?_⟩
    rotate_left
    · rcases List.mem_append.mp hs with hs | hs
      · exact hm s hs
      · rw [List.mem_singleton.mp hs]
        exact ⟨mk0, by show mk < _; omega⟩
    rw [List.map_append]
    exact dpAll_snoc (dpAll_mono (same_upd np) hd) (dp_newT np (.cons (.int _) (.cons (.bl _) .nil)))
  · rintro σ H5 ⟨F1, S4, sts, vs, y4, y5, rfl, s1, hs4, o6, hd, hl, hm⟩
    walk_at "rd"
    refine use_draw [_] o6 hs4 (by decide) (by decide) fun b S5 H6 b0 b1 hs5 o7 => ?_
    walk_at "rd"
    have nL1 := o7.apart 0
    refine newT (o7.fz 0) fun t H7 nt o8 => ?_
    exact k _ wd sts _ _ S5 H7 (s1.trans ((same_upd nL1).trans (same_upd nt))) (pt_dp (SqT.of upd_same) (dp_mono (same_upd nt) (dp_newL nL1 hd))) ⟨by omega, wo, by omega, by omega, hm⟩ wl hs5 o8

theorem dpAll_take {K : PySem.W.Frag} {F : Hp} : ∀ {vs : List V} {ds : List PyData}, DpAll K F vs ds → ∀ n, DpAll K F (vs.take n) (ds.take n)
  | _, _, .nil, n => by
    rw [List.take_nil, List.take_nil]
    exact .nil
  | _, _, .cons a t, 0 => .nil
  | _, _, .cons a t, n + 1 => .cons a (dpAll_take t n)
theorem dpAll_drop {K : PySem.W.Frag} {F : Hp} : ∀ {vs : List V} {ds : List PyData}, DpAll K F vs ds → ∀ n, DpAll K F (vs.drop n) (ds.drop n)
  | _, _, .nil, n => by
    rw [List.drop_nil, List.drop_nil]
    exact .nil
  | _, _, .cons a t, 0 => .cons a t
  | _, _, .cons a t, n + 1 => dpAll_drop t n
theorem dpAll_rev {K : PySem.W.Frag} {F : Hp} : ∀ {vs : List V} {ds : List PyData}, DpAll K F vs ds → DpAll K F vs.reverse ds.reverse
  | _, _, .nil => .nil
  | _, _, .cons a t => by
    rw [List.reverse_cons, List.reverse_cons]
    exact dpAll_snoc (dpAll_rev t) a
theorem dpAll_cut {K : PySem.W.Frag} {F : Hp} {vs : List V} {ds : List PyData} (h : DpAll K F vs ds) (lo hi : Option Int) : DpAll K F (cutV vs lo hi) (cutL ds lo hi) := by
  have hl := dpAll_len h
  rw [cutV_eq]
  unfold cutL
  rw [hl]
  exact dpAll_take (dpAll_drop h _) _
theorem cutL_from {α : Type} (l : List α) (k : Nat) : cutL l (some (k : Int)) none = l.drop k := by
  unfold cutL
  rw [HT.sIx_nat, HT.sIx_none]
  by_cases h : k ≤ l.length
  · rw [Nat.min_eq_left h, List.take_of_length_le (by rw [List.length_drop]; omega)]
  · rw [Nat.min_eq_right (by omega), List.drop_of_length_le (Nat.le_refl _), List.drop_of_length_le (by omega), List.take_nil]
theorem cutL_upto {α : Type} (l : List α) (k : Nat) : cutL l none (some (k : Int)) = l.take k := by
  unfold cutL
  rw [HT.sIx_none, HT.sIx_nat, List.drop_zero, Nat.sub_zero]
  by_cases h : k ≤ l.length
  · rw [Nat.min_eq_left h]
  · rw [Nat.min_eq_right (by omega), List.take_of_length_le (Nat.le_refl _), List.take_of_length_le (by omega)]
def spOther (K : PySem.W.Frag) : Sp := sp2 fun v0 v1 H Q => ∃ (a : Addr) (w : Str) (sts : List (Int × Bool)) (b : Bool) (F : Hp) (S M : Cells), v0 = .ref a ∧ Src a S ∧ Dp K F v1 (dPt w sts b) ∧ Pt w sts (10 ^ 30) ∧ w.length ≤ 8 ∧ Own F (S ++ M) H ∧
  ∀ v (w : Str) (sts : List (Int × Bool)) (b : Bool) F' S' H', Same F F' → Dp K F' v (dPt w sts b) → Pt w sts (10 ^ 31) → Src a S' → Own F' (S' ++ M) H' → Q v H'
theorem ok__law_other (T : Tx K mg) : Ok1 P w K mg base "_law_other" 2 (spOther K) := by
  obtain ⟨fd, F⟩ := T.F__law_other
  have G__law_draw := ok__law_draw (P := P) (w := w) (base := base) T
  refine ok1_of F T.g__law_other sc__law_other (fun vs H Q E h => sp2_len h) (fun _ _ _ _ _ _ us hl => match us, hl with | [_, _], _ => rfl) (fun cdv A outer s H vs Q E hr h => ?_)
  obtain ⟨v0, v1, rfl, h⟩ := h
  refine ⟨_, (pss_cons (ps_asg (pv 1) (pg_tup (n := 3) rfl (pgs_cons (pg_name (i := 2) sc__law_other.nd rfl (.inl rfl)) (pgs_cons (pg_name (i := 3) sc__law_other.nd rfl (.inl rfl)) (pgs_cons (pg_name (i := 4) sc__law_other.nd rfl (.inl rfl)) pgs_nil)))))
      (pss_cons (ps_set (i := 5) sc__law_other.nd rfl (.inl rfl) (pe_own G__law_draw (hr.mono (by decide)) (by rfl) (pa_cons (pv 0) (pa_cons pe_int pa_nil))))
      (pss_cons (ps_set (i := 6) sc__law_other.nd rfl (.inl rfl) (pe_own G__law_draw (hr.mono (by decide)) (by rfl) (pa_cons (pv 0) (pa_cons (pe_callB (kLen K) (by rfl) T.z_len (by decide +kernel) (pa_cons (pv 3) pa_nil)) pa_nil))))
      (pss_cons (ps_if (pt_cmpR op_eq (pv 5) pe_int (nomark _)) (pss_one (ps_ret (pe_tup (pa_cons (pe_op o_catS (pv 2) pe_str) (pa_cons (pv 3) (pa_cons (pv 4) pa_nil)))))) pss_nil)
      (pss_cons (ps_if (pt_cmpR op_eq (pv 5) pe_int (nomark _)) (pss_one (ps_ret (pe_tup (pa_cons (pv 2) (pa_cons (pv 3) (pa_cons (pe_not (pv 4)) pa_nil)))))) pss_nil)
      (pss_cons (ps_if (pt_cmpR op_eq (pv 5) pe_int (nomark _)) (pss_one (ps_ret (pe_tup (pa_cons (pv 2) (pa_cons (pe_op op_cat (pe_op op_cat (pe_slice (kSlL K) (pv 3) po_none (po_some (pv 6))) (pe_lst (pa_cons (pe_tup (pa_cons (pe_op op_add (pe_ix (kIxT K) (pe_ix (kIxL K) (pv 3) (pv 6) (fun _ _ => rfl)) pe_int (fun _ _ => rfl)) pe_int) (pa_cons (pe_ix (kIxT K) (pe_ix (kIxL K) (pv 3) (pv 6) (fun _ _ => rfl)) pe_int (fun _ _ => rfl)) pa_nil))) pa_nil))) (pe_slice (kSlL K) (pv 3) (po_some (pe_op op_add (pv 6) pe_int)) po_none)) (pa_cons (pv 4) pa_nil)))))) pss_nil)
      (pss_cons (ps_if (pt_cmpR op_eq (pv 5) pe_int (nomark _)) (pss_one (ps_ret (pe_tup (pa_cons (pv 2) (pa_cons (pe_op op_cat (pe_op op_cat (pe_slice (kSlL K) (pv 3) po_none (po_some (pv 6))) (pe_lst (pa_cons (pe_tup (pa_cons (pe_ix (kIxT K) (pe_ix (kIxL K) (pv 3) (pv 6) (fun _ _ => rfl)) pe_int (fun _ _ => rfl)) (pa_cons (pe_not (pe_ix (kIxT K) (pe_ix (kIxL K) (pv 3) (pv 6) (fun _ _ => rfl)) pe_int (fun _ _ => rfl))) pa_nil))) pa_nil))) (pe_slice (kSlL K) (pv 3) (po_some (pe_op op_add (pv 6) pe_int)) po_none)) (pa_cons (pv 4) pa_nil)))))) pss_nil)
      (pss_cons (ps_if (pt_cmpR op_eq (pv 5) pe_int (nomark _)) (pss_one (ps_ret (pe_tup (pa_cons (pv 2) (pa_cons (kRev K (pv 3)) (pa_cons (pv 4) pa_nil)))))) pss_nil)
      (pss_one (ps_ret (pv 1))))))))))), ?_⟩
  try dsimp only [cxOf, Cx.nox, Cx.wish]
  have cl_Case := T.cl_Case
  have na_Case_door := T.na_Case_door
  have na_Case_states := T.na_Case_states
  have na_Case_own := T.na_Case_own

  obtain ⟨a, w0, s0, b0, F, S, M, rfl, hs, hd, hp, hw, o, k⟩ := h
  obtain ⟨t, tl, xs, rfl, ht, hl, ha⟩ := dp_pt hd
  have hlen : xs.length = s0.length := by rw [dpAll_len ha, List.length_map]
  walk_at "rd"
  refine r_gtup (Same.tup o.fr ht) rfl ?_
  walk_at "rd"
  refine use_draw [] o hs (by decide) (by decide) fun f S1 H1 f0 f1 hs1 o1 => ?_
  walk_at "rd"
  have n1 := hp.n1
  have n8 := hp.n8
  refine use_draw [] o1 hs1 (by omega) (by omega) fun i S2 H2 i0 i1 hs2 o2 => ?_
  obtain ⟨j, rfl⟩ : ∃ j : Nat, i = (j : Int) := ⟨i.toNat, by omega⟩
  have hj : j < s0.length := by omega
  obtain ⟨v, hv, dv⟩ := dpAll_at (i := j) (d := dSt s0[j]) ha (by rw [List.getElem?_map, List.getElem?_eq_getElem hj]; rfl)
  obtain ⟨p, rfl, hpv⟩ := dp_st dv
  have hv := atI_nat hv
  have hm : ∀ s ∈ s0, 0 ≤ s.1 ∧ s.1 < 10 ^ 30 := hp.ms
  have hmj := hm s0[j] (List.getElem_mem hj)
  have hup : ∀ s ∈ s0, 0 ≤ s.1 ∧ s.1 < 10 ^ 31 := fun s hs => ⟨(hm s hs).1, by have := (hm s hs).2; omega⟩
  -- the list with another row
  have splice : ∀ (F3 : Hp) (r : Int × Bool) (y : V), Same F F3 → Dp K F3 y (dSt r) → (0 ≤ r.1 ∧ r.1 < 10 ^ 31) → DpAll K F3 (cutV xs none (some (j : Int)) ++ [y] ++ cutV xs (some ((j : Int) + 1)) none) ((s0.take j ++ [r] ++ s0.drop (j + 1)).map dSt) ∧ Pt w0 (s0.take j ++ [r] ++ s0.drop (j + 1)) (10 ^ 31) := by
    intro F3 r y s3 dy hr
    have d1 := dpAll_cut (dpAll_mono s3 ha) none (some (j : Int))
    have d2 := dpAll_cut (dpAll_mono s3 ha) (some (((j + 1 : Nat) : Int))) none
    rw [cutL_map, cutL_upto] at d1
    rw [cutL_map, cutL_from] at d2
    refine ⟨?_, hp.wl, hp.wo, ?_, ?_, ?_⟩
    · rw [List.map_append, List.map_append]
      exact dpAll_app (dpAll_app d1 (.cons dy .nil)) d2
    · rw [List.length_append, List.length_append, List.length_take, List.length_drop]
      show 1 ≤ _ + 1 + _
      omega
    · rw [List.length_append, List.length_append, List.length_take, List.length_drop]
      show _ + 1 + _ ≤ 8
      omega
    · intro s hs
      rcases List.mem_append.mp hs with hs | hs
      · rcases List.mem_append.mp hs with hs | hs
        · exact hup s (List.mem_of_mem_take hs)
        · rw [List.mem_singleton.mp hs]
          exact hr
      · exact hup s (List.mem_of_mem_drop hs)
  have lcut : ∀ lo hi, (cutV xs lo hi).length ≤ 8 := fun lo hi => Nat.le_trans (cutL_len _ _ _) (by omega)
  walk_at "rd"
  refine ite2 (fun h => ?_) (fun h => ?_)
  · walk_at "rd"
    refine r_catS (sz1 (by show _ + 1 ≤ _; omega)) ?_
    walk_at "rd"
    refine newT o2 fun t' H3 nt o3 => ?_
    exact k _ _ s0 b0 _ S2 H3 (same_upd nt) (pt_dp (SqT.of upd_same) (dp_mono (same_upd nt) (.lst hl ha))) ⟨by rw [app_len]; show _ + 1 ≤ _; omega, ok_app hp.wo (by decide +kernel), hp.n1, hp.n8, hup⟩ hs2 o3
  walk_at "rd"
  refine ite2 (fun h => ?_) (fun h => ?_)
  · walk_at "rd"
    refine newT o2 fun t' H3 nt o3 => ?_
    exact k _ _ s0 (!b0) _ S2 H3 (same_upd nt) (pt_dp (SqT.of upd_same) (dp_mono (same_upd nt) (.lst hl ha))) ⟨hp.wl, hp.wo, hp.n1, hp.n8, hup⟩ hs2 o3
  walk_at "rd"
  refine ite2 (fun h => ?_) (fun h => ?_)
  · walk_at "rd"
    refine r_slL o2 (o2.fr.seq hl) fun l1 H3 nl1 o3 => ?_
    walk_at "rd"
    refine r_ixL (o3.fr.seq hl) hv ?_
    walk_at "rd"
    refine r_ixL (o3.fr.seq hl) hv ?_
    walk_at "rd"
    refine newT o3 fun p2 H4 np2 o4 => ?_
    walk_at "rd"
    refine newL o4 fun l2 H5 nl2 o5 => ?_
    refine r_cat o5 (o5.get 1) (o5.get 0) (sz1 (by have := lcut none (some (j : Int)); show _ + 1 ≤ _; omega)) fun l3 H6 nl3 o6 => ?_
    walk_at "rd"
    have s6 := same_upd (x := HO.tup [V.int (s0[j].1 + 1), V.bl s0[j].2]) np2
    refine r_slL o6 (o6.fr.seq (s6.seq hl)) fun l4 H7 nl4 o7 => ?_
    refine r_catF o7 (o7.get 1) (o7.get 0) (sz1 (by have := lcut none (some (j : Int)); have := lcut (some ((j : Int) + 1)) none; rw [List.length_append]; show _ + 1 + _ ≤ _; omega)) fun l5 H8 nl5 o8 => ?_
    walk_at "rd"
    refine newT o8 fun t' H9 nt o9 => ?_
    obtain ⟨q1, q2⟩ := splice _ (s0[j].1 + 1, s0[j].2) (.ref p2) s6 (dp_newT np2 (.cons (.int _) (.cons (.bl _) .nil))) ⟨by show 0 ≤ s0[j].1 + 1; omega, by show s0[j].1 + 1 < _; omega⟩
    exact k _ _ _ b0 _ S2 H9 (s6.trans ((same_upd nl5).trans (same_upd nt))) (pt_dp (SqT.of upd_same) (dp_mono (same_upd nt) (dp_newL nl5 q1))) q2 hs2 (o9.tail.tail.tail.tail)
  walk_at "rd"
  refine ite2 (fun h => ?_) (fun h => ?_)
  · walk_at "rd"
    refine r_slL o2 (o2.fr.seq hl) fun l1 H3 nl1 o3 => ?_
    walk_at "rd"
    refine r_ixL (o3.fr.seq hl) hv ?_
    walk_at "rd"
    refine r_ixL (o3.fr.seq hl) hv ?_
    walk_at "rd"
    refine newT o3 fun p2 H4 np2 o4 => ?_
    walk_at "rd"
    refine newL o4 fun l2 H5 nl2 o5 => ?_
    refine r_cat o5 (o5.get 1) (o5.get 0) (sz1 (by have := lcut none (some (j : Int)); show _ + 1 ≤ _; omega)) fun l3 H6 nl3 o6 => ?_
    walk_at "rd"
    have s6 := same_upd (x := HO.tup [V.int s0[j].1, V.bl (!s0[j].2)]) np2
    refine r_slL o6 (o6.fr.seq (s6.seq hl)) fun l4 H7 nl4 o7 => ?_
    refine r_catF o7 (o7.get 1) (o7.get 0) (sz1 (by have := lcut none (some (j : Int)); have := lcut (some ((j : Int) + 1)) none; rw [List.length_append]; show _ + 1 + _ ≤ _; omega)) fun l5 H8 nl5 o8 => ?_
    walk_at "rd"
    refine newT o8 fun t' H9 nt o9 => ?_
    obtain ⟨q1, q2⟩ := splice _ (s0[j].1, !s0[j].2) (.ref p2) s6 (dp_newT np2 (.cons (.int _) (.cons (.bl _) .nil))) ⟨by show 0 ≤ s0[j].1; omega, by show s0[j].1 < _; omega⟩
    exact k _ _ _ b0 _ S2 H9 (s6.trans ((same_upd nl5).trans (same_upd nt))) (pt_dp (SqT.of upd_same) (dp_mono (same_upd nt) (dp_newL nl5 q1))) q2 hs2 (o9.tail.tail.tail.tail)
  walk_at "rd"
  refine ite2 (fun h => ?_) (fun h => ?_)
  · walk_at "rd"
    refine revB o2 (o2.fr.seq hl) fun l1 H3 nl1 o3 => ?_
    walk_at "rd"
    refine newT o3 fun t' H9 nt o9 => ?_
    have d1 := dpAll_rev ha
    rw [← List.map_reverse] at d1
    exact k _ _ s0.reverse b0 _ S2 H9 ((same_upd nl1).trans (same_upd nt)) (pt_dp (SqT.of upd_same) (dp_mono (same_upd nt) (dp_newL nl1 d1))) ⟨hp.wl, hp.wo, by rw [List.length_reverse]; exact n1, by rw [List.length_reverse]; exact n8, fun s hs => hup s (List.mem_reverse.mp hs)⟩ hs2 o9
  walk_at "rd"
  exact k _ _ s0 b0 _ S2 H2 (Same.refl _) hd ⟨hp.wl, hp.wo, hp.n1, hp.n8, hup⟩ hs2 o2

theorem CaseAt.ref {K : PySem.W.Frag} {F : Hp} {v : V} {w : Str} {s : List (Int × Bool)} {b : Bool} (h : CaseAt K F v w s b) : ∃ x dx t, v = .ref x ∧ F x = some (.ins (He.ga K "Case") dx (fsC w t b)) := by
  obtain ⟨x, dx, t, rfl, hx, _⟩ := h
  exact ⟨x, dx, t, rfl, hx⟩
theorem use_init {K : PySem.W.Frag} {F H : Hp} {M : Cells} {l : Addr} {xs : List V} {w : Str} {s : List (Int × Bool)} {b : Bool} {Q : VK} (o : Own F M H) (hx : RdL K F M l xs) (hd : DpAll K F xs (s.map dSt) ∨ DpAll K F xs (s.map dStL)) (hl : s.length ≤ 100) (k : ∀ x F' H', Same F F' → Own F' M H' → CaseAt K F' (.ref x) w s b → Q (.ref x) H') :
    MkA (He.ga K "Case") (fun x => spInit K [x, .str w, .ref l, .bl b]) E0 H Q := by
  refine mkA o fun x dx H1 nx ndx ne o1 => ?_
  refine ⟨_, _, _, _, rfl, x, dx, l, xs, w, s, b, F, _, rfl, rfl, rfl, fun F' A H' s' o' => ?_, hd, rfl, hl, o1, fun F3 t3 H3 s3 o3 d3 => ⟨rfl, ?_⟩⟩
  · refine hx F' (A ++ [(dx, .own x)]) H' s' ?_
    rw [List.append_assoc]
    exact o'
  have n4 := o3.apart 0
  exact k x _ H3 (s3.trans (same_upd n4)) (o3.fz 0).tail ⟨x, dx, t3, rfl, upd_same, dp_mono (same_upd n4) d3⟩
def spMade (K : PySem.W.Frag) : Sp := sp2 fun v0 v1 H Q => ∃ (a : Addr) (w : Str) (sts : List (Int × Bool)) (b : Bool) (F : Hp) (S M : Cells), v0 = .ref a ∧ Src a S ∧ Dp K F v1 (dPt w sts b) ∧ Pt w sts (10 ^ 31) ∧ Own F (S ++ M) H ∧
  ∀ v F' S' H', Same F F' → CaseAt K F' v w sts b → Src a S' → Own F' (S' ++ M) H' → Q v H'
theorem ok__law_made (T : Tx K mg) : Ok1 P w K mg base "_law_made" 3 (spMade K) := by
  obtain ⟨fd, F⟩ := T.F__law_made
  have G__law_draw := ok__law_draw (P := P) (w := w) (base := base) T
  have G_Case := ok_Case___init__ (P := P) (w := w) (base := base) T
  have G_Case_2 := ok_Case2 (P := P) (w := w) (base := base) T
  obtain ⟨fdC, GK_Case, itC, KB_Case⟩ := ok_CaseK (P := P) (w := w) (base := base) T
  refine ok1_of F T.g__law_made sc__law_made (fun vs H Q E h => sp2_len h) (fun _ _ _ _ _ _ us hl => match us, hl with | [_, _], _ => rfl) (fun cdv A outer s H vs Q E hr h => ?_)
  obtain ⟨v0, v1, rfl, h⟩ := h
  refine ⟨_, (pss_cons (ps_asg (pv 1) (pg_tup (n := 3) rfl (pgs_cons (pg_name (i := 2) sc__law_made.nd rfl (.inl rfl)) (pgs_cons (pg_name (i := 3) sc__law_made.nd rfl (.inl rfl)) (pgs_cons (pg_name (i := 4) sc__law_made.nd rfl (.inl rfl)) pgs_nil)))))
      (pss_cons (ps_setLc (i := 5) (own := [("_law_state", 7)]) (g := (gName 7)) (by rfl) sc__law_made.nd rfl rfl (sw_true rfl rfl rfl (by decide +kernel)) (kPiL K (pv 3)) (blkOk_by (own := [("_law_state", 7)]) (N := n__law_made) (sc := defScope s__law_made) (by decide +kernel)) (fun _ _ _ _ _ => (pg_name (i := 7) sc__law_made.nd rfl (.inl rfl))) (fun _ _ _ _ _ => by exact pts_nil) (fun _ _ _ _ _ => by exact (pv 7)))
      (pss_cut (ps_if (pt_cmpR op_eq (pe_own G__law_draw (hr.mono (by decide)) (by rfl) (pa_cons (pv 0) (pa_cons pe_int pa_nil))) pe_int (nomark _)) (pss_one (ps_setLc (i := 5) (own := [("_law_state", 7)]) (g := (gName 7)) (by rfl) sc__law_made.nd rfl rfl (sw_true rfl rfl rfl (by decide +kernel)) (kPiL K (pv 3)) (blkOk_by (own := [("_law_state", 7)]) (N := n__law_made) (sc := defScope s__law_made) (by decide +kernel)) (fun _ _ _ _ _ => (pg_name (i := 7) sc__law_made.nd rfl (.inl rfl))) (fun _ _ _ _ _ => by exact pts_nil) (fun _ _ _ _ _ => by exact (pe_callTy (kListOf K) (by rfl) T.z_list (by decide +kernel) (pa_cons (pv 7) pa_nil))))) pss_nil)
      (pss_cut (ps_if (pt_cmpR op_eq (pe_own G__law_draw (hr.mono (by decide)) (by rfl) (pa_cons (pv 0) (pa_cons pe_int pa_nil))) pe_int (nomark _)) (pss_one (ps_set (i := 6) sc__law_made.nd rfl (.inl rfl) (StX.pe_makeR T.mk_Case G_Case (hr.mono (by decide)) (by rfl) T.g_Case pass0 (pa_cons (pv 2) (pa_cons (pv 5) (pa_cons (pv 4) pa_nil)))))) (pss_one (ps_if (PW.pt (pw_or (pt_val (pv 4)) (pw_or1 (pt_cmpR op_eq (pe_own G__law_draw (hr.mono (by decide)) (by rfl) (pa_cons (pv 0) (pa_cons pe_int pa_nil))) pe_int (nomark _))))) (pss_one (ps_set (i := 6) sc__law_made.nd rfl (.inl rfl) (pe_makeN T.mk_Case GK_Case (hr.mono (by decide)) (by rfl) T.g_Case KB_Case pass0 (pa_cons (pv 2) (pa_cons (pv 5) pa_nil)) (pk_cons (pv 4) pk_nil)))) (pss_one (ps_set (i := 6) sc__law_made.nd rfl (.inl rfl) (StX.pe_makeR T.mk_Case G_Case_2 (hr.mono (by decide)) (by rfl) T.g_Case pass0 (pa_cons (pv 2) (pa_cons (pv 5) pa_nil))))))))
      (pss_cons (ps_expr (pe_bm PySem.F.plainAttrs_list PySem.F.slot_list_append PySem.F.type_list_append mt_append (pv 5) (pa_cons (pe_tup (pa_cons pe_int (pa_cons pe_bl pa_nil))) pa_nil)))
      (pss_cons (ps_asg (pe_tup (pa_cons pe_int (pa_cons pe_bl pa_nil))) (pg_sub (pv 5) pe_int set_list))
      (pss_one (ps_ret (pv 6))))))))), ?_⟩
  try dsimp only [cxOf, Cx.nox, Cx.wish]
  have cl_Case := T.cl_Case
  have na_Case_door := T.na_Case_door
  have na_Case_states := T.na_Case_states
  have na_Case_own := T.na_Case_own

  obtain ⟨a, w0, s0, b0, F, S, M, rfl, hs, hd, hp, o, k⟩ := h
  obtain ⟨t, tl, xs, rfl, ht, hl, ha⟩ := dp_pt hd
  have hlen : xs.length = s0.length := by rw [dpAll_len ha, List.length_map]
  have n1 := hp.n1
  have n8 := hp.n8
  walk_at "rd"
  refine r_gtup (Same.tup o.fr ht) rfl ?_
  walk_at "rd"
  refine lcb (walk_list (xs := xs)) o (fun i acc F' M' => F' = F ∧ M' = S ++ M ∧ acc = xs.take i) ⟨rfl, rfl, rfl⟩ ?_ ?_ ?_
  · rintro D i acc F' M' H' _ ⟨rfl, rfl, _⟩ o'
    exact o'.fr.seq hl
  · rintro D i y acc F' M' H' H'' hi ⟨rfl, rfl, rfl⟩ o' ⟨rfl, hy⟩
    walk_at "rd"
    refine iteT ?_
    walk_at "rd"
    exact lcN ⟨_, _, _, small1000 (by rw [List.length_take]; omega), ⟨rfl, rfl, (take_snoc hy).symm⟩, o'⟩
  rintro R acc F' M' H1 nR ⟨rfl, rfl, rfl⟩ o1
  rw [List.take_length] at o1
  walk_at "rd"
  refine r_cut (fun σ H => ∃ (F1 : Hp) (R : Addr) (ys : List V) (S' : Cells) (y6 y7 : Option V), σ = [some (.ref a), some (.ref t), some (.str w0), some (.ref tl), some (.bl b0), some (.ref R), y6, y7] ∧ Same F' F1 ∧ (DpAll K F1 ys (s0.map dSt) ∨ DpAll K F1 ys (s0.map dStL)) ∧ Src a S' ∧ Own F1 ((R, .lst ys) :: (S' ++ M)) H) ?_ ?_
  · walk_at "rd"
    refine use_draw [_] o1 hs (by decide) (by decide) fun c S1 H2 c0 c1 hs1 o2 => ?_
    walk_at "rd"
    refine ite2 (fun h => ?_) (fun h => ?_)
    · walk_at "rd"
      refine lcb (walk_list (xs := xs)) o2 (fun i acc F1 M' => Same F' F1 ∧ M' = (R, .lst xs) :: (S1 ++ M) ∧ DpAll K F1 acc ((s0.take i).map dStL)) ⟨Same.refl _, rfl, .nil⟩ ?_ ?_ ?_
      · rintro D i acc F1 M' H' _ ⟨s1, rfl, _⟩ o'
        exact (s1.trans o'.fr).seq hl
      · rintro D i y acc F1 M' H' H'' hi ⟨s1, rfl, hacc⟩ o' ⟨rfl, hy⟩
        obtain ⟨d, hd, dy⟩ := dpAll_get ha hy
        obtain ⟨s2, hs2, rfl⟩ := map_get hd
        obtain ⟨p, rfl, hp⟩ := dp_st dy
        walk_at "rd"
        refine iteT ?_
        walk_at "rd"
        refine r_listOfF o' (.inr (Same.tup (s1.trans o'.fr) hp)) fun q H3 nq o3 => ?_
        refine lcN ⟨acc, _, _, small1000 ?_, ⟨s1.trans (same_upd nq), rfl, ?_⟩, o3⟩
        · have e := dpAll_len hacc
          rw [List.length_map, List.length_take] at e
          omega
        · rw [take_snoc hs2, List.map_append]
          exact dpAll_snoc (dpAll_mono (same_upd nq) hacc) (dp_newL nq (.cons (.int _) (.cons (.bl _) .nil)))
      rintro D acc F1 M' H3 nD ⟨s1, rfl, hacc⟩ o3
      rw [hlen, List.take_length] at hacc
      exact ⟨F1, D, acc, S1, _, _, rfl, s1, .inr hacc, hs1, o3.sub (.cons_cons _ (.cons _ (List.Sublist.refl _)))⟩
    · walk_at "rd"
      exact ⟨F', R, xs, S1, _, _, rfl, Same.refl _, .inl ha, hs1, o2⟩
  rintro σ H2 ⟨F1, R1, ys, S1, y6, y7, rfl, s1, hys, hs1, o2⟩
  have ylen := row_len hys
  have rdl : ∀ S', RdL K F1 ((R1, .lst ys) :: (S' ++ M)) R1 ys := fun S' => RdL.mu List.mem_cons_self
  refine r_cut (fun σ H => ∃ (F2 : Hp) (S' : Cells) (v : V) (y7 : Option V), σ = [some (.ref a), some (.ref t), some (.str w0), some (.ref tl), some (.bl b0), some (.ref R1), some v, y7] ∧ Same F' F2 ∧ CaseAt K F2 v w0 s0 b0 ∧ Src a S' ∧ Own F2 ((R1, .lst ys) :: (S' ++ M)) H) ?_ ?_
  · walk_at "rd"
    refine use_draw [_] o2 hs1 (by decide) (by decide) fun c S2 H3 c0 c1 hs2 o3 => ?_
    walk_at "rd"
    refine ite2 (fun h => ?_) (fun h => ?_)
    · walk_at "rd"
      refine mkA_of (use_init o3 (rdl S2) hys (by omega) fun x F2 H4 s2 o4 hc => ?_)
      exact ⟨F2, S2, _, _, rfl, s1.trans s2, hc, hs2, o4⟩
    · walk_at "rd"
      cases b0
      · refine iteF ?_
        walk_at "rd"
        refine use_draw [_] o3 hs2 (by decide) (by decide) fun c S3 H4 c0 c1 hs3 o4 => ?_
        walk_at "rd"
        refine ite2 (fun h => ?_) (fun h => ?_)
        · walk_at "rd"
          refine r_makeN ?_
          walk_at "rd"
          refine ⟨rfl, rfl, use_init (w := w0) (b := false) o4 (rdl S3) hys (by omega) fun x F2 H4 s2 o4 hc => ?_⟩
          exact ⟨F2, S3, _, _, rfl, s1.trans s2, hc, hs3, o4⟩
        · walk_at "rd"
          refine mkA_of (use_init (w := w0) (b := false) o4 (rdl S3) hys (by omega) fun x F2 H4 s2 o4 hc => ?_)
          exact ⟨F2, S3, _, _, rfl, s1.trans s2, hc, hs3, o4⟩
      · refine iteT ?_
        refine iteT ?_
        walk_at "rd"
        refine r_makeN ?_
        walk_at "rd"
        refine ⟨rfl, rfl, use_init (w := w0) (b := true) o3 (rdl S2) hys (by omega) fun x F2 H4 s2 o4 hc => ?_⟩
        exact ⟨F2, S2, _, _, rfl, s1.trans s2, hc, hs2, o4⟩
  rintro σ H3 ⟨F2, S2, v, z7, rfl, s2, hc, hs2, o3⟩
  walk_at "rd"
  refine newT o3 fun p1 H4 np1 o4 => ?_
  walk_at "rd"
  refine r_append o4 0 rfl (small1000 (by omega)) fun H5 o5 => ?_
  walk_at "rd"
  refine newT o5 fun p2 H6 np2 o6 => ?_
  walk_at "rd"
  refine r_setL o6 0 rfl (iix (j := 0) rfl (by rw [List.length_append]; exact Nat.succ_pos _)) fun H7 o7 => ?_
  walk_at "rd"
  exact k v _ S2 H7 (s2.trans ((same_upd np1).trans (same_upd np2))) ((hc.mono (same_upd np1)).mono (same_upd np2)) hs2 o7.tail

theorem join_map (w : Str) (b : Bool) (x : Str) (xs : List Str) : Txt.join " " (w :: ((if b then [Str.ofString "own"] else []) ++ (x :: xs))) = w ++ (if b then Str.ofString " own " else Str.ofString " ") ++ Txt.join " " (x :: xs) := by
  have as : ∀ a b c : Str, a ++ b ++ c = a ++ (b ++ c) := fun a b c => by
    show (⟨a.cps ++ b.cps ++ c.cps⟩ : Str) = ⟨a.cps ++ (b.cps ++ c.cps)⟩
    rw [Array.append_assoc]
  cases b
  · show Txt.join " " (w :: x :: xs) = w ++ Str.ofString " " ++ Txt.join " " (x :: xs)
    rw [join_cons, as]
  · show Txt.join " " (w :: Str.ofString "own" :: x :: xs) = w ++ Str.ofString " own " ++ Txt.join " " (x :: xs)
    rw [join_cons, join_cons, as, ← as (Str.ofString "own"), ← as (Str.ofString " ")]
    rfl
theorem strC_eq (w : Str) (sts : List (Int × Bool)) (b : Bool) (h : 1 ≤ sts.length) : w ++ (if b then Str.ofString " own " else Str.ofString " ") ++ Txt.join " " (sts.map stT) = strC w sts b := by
  cases sts with
  | nil => cases h
  | cons x xs => exact (join_map w b (stT x) (xs.map stT)).symm
theorem join_le {c : Nat} : ∀ {ys : List Str}, (∀ y ∈ ys, y.length ≤ c) → (Txt.join " " ys).length ≤ ys.length * (c + 1)
  | [], _ => Nat.zero_le _
  | [y], h => by
    have := h y List.mem_cons_self
    show y.length ≤ 1 * (c + 1)
    omega
  | y :: z :: r, h => by
    have h1 := h y List.mem_cons_self
    have ih := join_le (ys := z :: r) fun u hu => h u (List.mem_cons_of_mem _ hu)
    rw [join_cons, app_len, app_len, List.length_cons, Nat.succ_mul]
    have e : (Str.ofString " ").length = 1 := rfl
    omega
def spRight (K : PySem.W.Frag) : Sp := sp2 fun v0 v1 H Q => ∃ (w : Str) (s : List (Int × Bool)) (b : Bool) (F : Hp) (M : Cells), CaseAt K F v0 w s b ∧ Dp K F v1 (dPt w s b) ∧ Pt w s (10 ^ 31) ∧ Own F M H ∧ ∀ F' H', Same F F' → Own F' M H' → Q (.bl true) H'
theorem ok__law_right (T : Tx K mg) : Ok1 P w K mg base "_law_right" 4 (spRight K) := by
  obtain ⟨fd, F⟩ := T.F__law_right
  have G_Case___len__ := ok_Case___len__ (P := P) (w := w) (base := base) T
  have G_Case___str__ := ok_Case___str__ (P := P) (w := w) (base := base) T
  refine ok1_of F T.g__law_right sc__law_right (fun vs H Q E h => sp2_len h) (fun _ _ _ _ _ _ us hl => match us, hl with | [_, _], _ => rfl) (fun cdv A outer s H vs Q E hr h => ?_)
  obtain ⟨v0, v1, rfl, h⟩ := h
  refine ⟨_, (pss_cons (ps_asg (pv 1) (pg_tup (n := 3) rfl (pgs_cons (pg_name (i := 2) sc__law_right.nd rfl (.inl rfl)) (pgs_cons (pg_name (i := 3) sc__law_right.nd rfl (.inl rfl)) (pgs_cons (pg_name (i := 4) sc__law_right.nd rfl (.inl rfl)) pgs_nil)))))
      (pss_cons (ps_set (i := 5) sc__law_right.nd rfl (.inl rfl) (pe_op o_catS (pe_op o_catS (pv 2) (pe_ix (kIxL K) (pe_lst (pa_cons pe_str (pa_cons pe_str pa_nil))) (pe_callTy c_int1 (by rfl) T.z_int (by decide +kernel) (pa_cons (pv 4) pa_nil)) (fun _ _ => rfl))) (kJoin K pe_str (pe_lc (own := [("_law_row", 6)]) (g := (gName 6)) (by rfl) sc__law_right.nd (kPiL K (pv 3)) (blkOk_by (own := [("_law_row", 6)]) (N := n__law_right) (sc := defScope s__law_right) (by decide +kernel)) (fun _ _ _ _ _ => (pg_name (i := 6) sc__law_right.nd rfl (.inl rfl))) (fun _ _ _ _ _ => by exact pts_nil) (fun _ _ _ _ _ => by exact (pe_op o_catS (pe_callTy c_strI (by rfl) T.z_str (by decide +kernel) (pa_cons (pe_ix (kIxT K) (pv 6) pe_int (fun _ _ => rfl)) pa_nil)) (pe_ix (kIxL K) (pe_lst (pa_cons pe_str (pa_cons pe_str pa_nil))) (pe_callTy c_int1 (by rfl) T.z_int (by decide +kernel) (pa_cons (pe_ix (kIxT K) (pv 6) pe_int (fun _ _ => rfl)) pa_nil)) (fun _ _ => rfl))))))))
      (pss_cons (ps_if (PW.pt (pw_or (pt_cmpR op_ne (kFld K (pv 0)) (pv 2) (nomark _)) (pw_or (pt_cmpR (kNeD K hr.units) (kFld K (pv 0)) (pe_callTy (kTupleOf K) (by rfl) T.z_tuple (by decide +kernel) (pa_cons (pv 3) pa_nil)) (nomark _)) (pw_or1 (pt_not (pt_val (pe_callB (kIsi K) (by rfl) T.z_isinstance (by decide +kernel) (pa_cons (kFld K (pv 0)) (pa_cons (pe_bltn (v := .ty "tuple") (u := .type "tuple") (by rfl) T.z_tuple (by decide +kernel) rfl) pa_nil))))))))) (pss_one (ps_ret pe_bl)) pss_nil)
      (pss_cons (ps_if (pt_cmpR (kIn K) pe_bl (pe_lc (own := [("_law_state", 7)]) (g := (gName 7)) (by rfl) sc__law_right.nd (kPiT K (kFld K (pv 0))) (blkOk_by (own := [("_law_state", 7)]) (N := n__law_right) (sc := defScope s__law_right) (by decide +kernel)) (fun _ _ _ _ _ => (pg_name (i := 7) sc__law_right.nd rfl (.inl rfl))) (fun _ _ _ _ _ => by exact pts_nil) (fun _ _ _ _ _ => by exact (pe_and (pe_callB (kIsi K) (by rfl) T.z_isinstance (by decide +kernel) (pa_cons (pv 7) (pa_cons (pe_bltn (v := .ty "tuple") (u := .type "tuple") (by rfl) T.z_tuple (by decide +kernel) rfl) pa_nil))) (pe_one (pe_callB (kIsi K) (by rfl) T.z_isinstance (by decide +kernel) (pa_cons (pe_ix (kIxT K) (pv 7) pe_int (fun _ _ => rfl)) (pa_cons (pe_bltn (v := .ty "bool") (u := .type "bool") (by rfl) T.z_bool (by decide +kernel) rfl) pa_nil))))))) (by rfl)) (pss_one (ps_ret pe_bl)) pss_nil)
      (pss_cons (ps_if (PW.pt (pw_or (pt_cmpR op_ne (kFld K (pv 0)) (pv 4) (nomark _)) (pw_or1 (pt_not (pt_val (pe_callB (kIsi K) (by rfl) T.z_isinstance (by decide +kernel) (pa_cons (kFld K (pv 0)) (pa_cons (pe_bltn (v := .ty "bool") (u := .type "bool") (by rfl) T.z_bool (by decide +kernel) rfl) pa_nil)))))))) (pss_one (ps_ret pe_bl)) pss_nil)
      (pss_one (ps_ret (pe_and (pe_cmpR op_eq (pe_callB (c_lenO T.me_Case___len__.at_ T.me_Case___len__.fn G_Case___len__ (hr.mono (by decide))) (by rfl) T.z_len (by decide +kernel) (pa_cons (pv 0) pa_nil)) (pe_callB (kLen K) (by rfl) T.z_len (by decide +kernel) (pa_cons (pv 3) pa_nil)) (nomark _)) (pe_one (pe_cmpR op_eq (pe_callTy (c_strO T.me_Case___str__.at_ T.me_Case___str__.fn G_Case___str__ (hr.mono (by decide))) (by rfl) T.z_str (by decide +kernel) (pa_cons (pv 0) pa_nil)) (pv 5) (nomark _))))))))))), ?_⟩
  try dsimp only [cxOf, Cx.nox, Cx.wish]
  have cl_Case := T.cl_Case
  have na_Case_door := T.na_Case_door
  have na_Case_states := T.na_Case_states
  have na_Case_own := T.na_Case_own

  obtain ⟨w0, s0, b0, F, M, hc, hd, hp, o, k⟩ := h
  obtain ⟨x, dx, tt, rfl, hx, ht⟩ := id hc
  obtain ⟨t, tl, xs, rfl, hpt, hl, ha⟩ := dp_pt hd
  have hlen : xs.length = s0.length := by rw [dpAll_len ha, List.length_map]
  have n1 := hp.n1
  have n8 := hp.n8
  have hm := hp.mks
  have wl := hp.wl
  walk_at "rd"
  refine r_gtup (Same.tup o.fr hpt) rfl ?_
  walk_at "rd"
  refine newLF o fun l1 H1 nl1 o1 => ?_
  walk_at "rd"
  have e1 : atI [V.str (Str.ofString " "), V.str (Str.ofString " own ")] (if b0 = true then 1 else 0) = some (V.str (if b0 then Str.ofString " own " else Str.ofString " ")) := by cases b0 <;> rfl
  refine r_ixL (SqL.of (o1.fr _ _ upd_same)) e1 ?_
  have lb : (if b0 then Str.ofString " own " else Str.ofString " ").length ≤ 5 := by cases b0 <;> decide
  refine r_catS (sz1 (by omega)) ?_
  have s1 := same_upd (x := HO.lst [V.str (Str.ofString " "), V.str (Str.ofString " own ")]) nl1
  walk_at "rd"
  refine lcb (walk_list (xs := xs)) o1 (fun i acc F' M' => Same F F' ∧ M' = M ∧ acc = ((s0.take i).map stT).map V.str) ⟨s1, rfl, rfl⟩ ?_ ?_ ?_
  · rintro D i acc F' M' H' _ ⟨s2, rfl, _⟩ o'
    exact (s2.trans o'.fr).seq hl
  · rintro D i y acc F' M' H' H'' hi ⟨s2, rfl, rfl⟩ o' ⟨rfl, hy⟩
    obtain ⟨d, hd, dy⟩ := dpAll_get ha hy
    obtain ⟨q, hq, rfl⟩ := map_get hd
    obtain ⟨p, rfl, hp⟩ := dp_st dy
    have hmq := hm q (List.mem_of_getElem? hq)
    have hp' := Same.tup s2 hp
    walk_at "rd"
    refine iteT ?_
    walk_at "rd"
    refine r_strI hmq.1 ?_
    walk_at "rd"
    refine newLF o' fun l2 H3 nl2 o3 => ?_
    have s3 := s2.trans (same_upd (x := HO.lst [V.str (Str.ofString ""), V.str (Str.ofString "h")]) nl2)
    have hp'' := Same.tup s3 hp
    walk_at "rd"
    have e2 : atI [V.str (Str.ofString ""), V.str (Str.ofString "h")] (if q.2 = true then 1 else 0) = some (V.str (if q.2 then Str.ofString "h" else Str.ofString "")) := by cases q.2 <;> rfl
    refine r_ixL (SqL.of (o3.fr _ _ upd_same)) e2 ?_
    have e3 : (toString q.1 : Str) ++ (if q.2 then Str.ofString "h" else Str.ofString "") = stT q := by
      unfold stT
      cases q.2
      · show (⟨_ ++ #[]⟩ : Str) = _
        rw [Array.append_empty]
        rfl
      · rfl
    refine r_catS ?_ ?_
    · rw [← app_len, e3]
      exact sz1 (by have := hmq.2; omega)
    rw [e3]
    refine lcN ⟨_, _, _, small1000 ?_, ⟨s3, rfl, ?_⟩, o3⟩
    · rw [List.length_map, List.length_map, List.length_take]
      omega
    · rw [take_snoc hq, List.map_append, List.map_append]
      rfl
  rintro D acc F' M' H2 nD ⟨s2, rfl, rfl⟩ o2
  rw [hlen, List.take_length] at o2
  walk_at "rd"
  have sm : ∀ y ∈ s0.map stT, y.length ≤ 100 := fun y hy => by
    obtain ⟨q, hq, rfl⟩ := List.mem_map.mp hy
    exact (hm q hq).2
  refine r_join (ys := s0.map stT) (SqL.of (o2.get 0)) ?_ ?_
  · have e := sum_le sm
    rw [List.length_map] at e ⊢
    show _ + _ * 1 ≤ _
    omega
  refine r_catS ?_ ?_
  · have e := join_le sm
    rw [List.length_map] at e
    rw [app_len]
    exact sz1 (by show _ + (Txt.join (Str.ofString " ") _).length ≤ _; omega)
  have e4 := strC_eq w0 s0 b0 n1
  rw [show w0 ++ (if b0 then Str.ofString " own " else Str.ofString " ") ++ Txt.join (Str.ofString " ") (s0.map stT) = strC w0 s0 b0 from e4]
  have hx2 := s2 _ _ hx
  have hc2 := hc.mono s2
  have ht2 := dp_mono s2 ht
  have o3 := o2.tail
  walk_at "rd"
  refine iteNS rfl ?_
  walk_at "rd"
  refine r_tupleOf o3 (o3.fr.seq (s2.seq hl)) fun l2 H3 nl2 o4 => ?_
  have s4 := same_upd (x := HO.tup xs) nl2
  refine r_neD (dp_mono (s4.trans o4.fr) ht2) (dp_mono o4.fr (dp_newT nl2 (dpAll_mono s2 ha))) (shp_sts _).shaped (shp_sts _).shaped ?_
  rw [PyData.eqv, eqv_sts, decide_eq_true rfl]
  have hx4 := s4 _ _ hx2
  obtain ⟨tt', xs2, e5, htt, hat⟩ := dp_tup_inv ht2
  cases e5
  walk_at "rd"
  refine iteF ?_
  walk_at "rd"
  refine r_isi (tyT (Same.tup (s4.trans o4.fr) htt)) (kit_self _) ?_
  walk_at "rd"
  refine iteF ?_
  walk_at "rd"
  have len2 : xs2.length = s0.length := by rw [dpAll_len hat, List.length_map]
  refine lcb (walk_tup (xs := xs2)) o4 (fun i acc F1 M1 => F1 = upd F' l2 (.tup xs) ∧ M1 = M' ∧ acc = List.replicate i (V.bl true)) ⟨rfl, rfl, rfl⟩ ?_ ?_ ?_
  · rintro D i acc F1 M1 H' _ ⟨rfl, rfl, _⟩ o'
    exact Same.tup (s4.trans o'.fr) htt
  · rintro D i y acc F1 M1 H' H'' hi ⟨rfl, rfl, rfl⟩ o' ⟨rfl, hy⟩
    obtain ⟨d, hd, dy⟩ := dpAll_get hat hy
    obtain ⟨q, hq, rfl⟩ := map_get hd
    obtain ⟨p, rfl, hp⟩ := dp_st dy
    have hp' := Same.tup s4 hp
    walk_at "rd"
    refine iteT ?_
    walk_at "rd"
    refine r_isi (tyT (Same.tup o'.fr hp')) (kit_self _) ?_
    walk_at "rd"
    refine iteT ?_
    walk_at "rd"
    refine r_isi (.base (.bl _)) (kit_self _) ?_
    refine lcN ⟨_, _, _, small1000 (by rw [List.length_replicate]; omega), ⟨rfl, rfl, ?_⟩, o'⟩
    rw [List.replicate_succ']
  rintro D2 acc F1 M1 H4 nD2 ⟨rfl, rfl, rfl⟩ o5
  refine ⟨D2, _, rfl, .inl (SqL.of (o5.get 0)), rfl, ?_, ?_⟩
  · rw [List.all_eq_true]
    intro z hz
    rw [(List.mem_replicate.mp hz).2]
    rfl
  have e6 : inV (.bl false) (List.replicate xs2.length (V.bl true)) = false := by
    unfold inV
    rw [List.any_eq_false]
    intro z hz
    rw [(List.mem_replicate.mp hz).2]
    decide
  rw [e6]
  have o6 := o5.tail
  walk_at "rd"
  refine iteF ?_
  walk_at "rd"
  refine iteNS rfl ?_
  walk_at "rd"
  refine r_isi (.base (.bl _)) (kit_self _) ?_
  walk_at "rd"
  refine iteF ?_
  walk_at "rd"
  refine ⟨x, dx, _, rfl, o6.fr _ _ hx4, _, rfl, w0, s0, b0, _, _, hc2.mono s4, o6, s0.length, rfl, by omega, by omega, ?_⟩
  walk_at "rd"
  rw [hlen]
  refine ite2 (fun _ => ?_) (fun h => absurd (decide_eq_true rfl) h)
  walk_at "rd"
  refine ⟨x, dx, _, rfl, o6.fr _ _ hx4, _, rfl, w0, s0, b0, _, _, hc2.mono s4, hm, by omega, by omega, o6, fun H7 o7 => ⟨_, rfl, ?_⟩⟩
  walk_at "rd"
  rw [decide_eq_true rfl]
  exact k _ _ (s2.trans s4) o7

theorem use_eq {K : PySem.W.Frag} {F H : Hp} {M : Cells} {v v' : V} {w w' : Str} {s s' : List (Int × Bool)} {b b' neg : Bool} {Q : VK} (it : InsTy K (He.ga K "Case")) (cl : Cls K (He.ga K "Case")) (o : Own F M H) (h : CaseAt K F v w s b) (h' : CaseAt K F v' w' s' b')
    (k : Q (.bl (if neg then !caseEq w s b w' s' b' else caseEq w s b w' s' b')) H) : rOwn K (He.ga K "Case") (spEqC K) neg v v' H Q := by
  obtain ⟨x, dx, t, rfl, hx⟩ := h.ref
  obtain ⟨x', dx', t', rfl, hx'⟩ := h'.ref
  exact ⟨x, dx, _, .ref (He.ga K "Case"), rfl, o.fr _ _ hx, it.ty cl (o.fr _ _ hx'), by simp [PySem.W.notFirst], _, _, rfl, w, s, b, _, F, M, h, o, .inl ⟨w', s', b', h', rfl⟩, _, rfl, k⟩
/-- with a thing of another type -/
theorem use_odd {K : PySem.W.Frag} {F H : Hp} {M : Cells} {v v' : V} {t' : Value} {w : Str} {s : List (Int × Bool)} {b neg : Bool} {Q : VK} (o : Own F M H) (h : CaseAt K F v w s b) (ty : TyX K H v' t') (ht : oth1 K (He.ga K "Case") t' = true)
    (k : Q (.bl neg) H) : rOwn K (He.ga K "Case") (spEqC K) neg v v' H Q := by
  obtain ⟨x, dx, t, rfl, hx⟩ := h.ref
  have z := oth_of ht
  refine ⟨x, dx, _, t', rfl, o.fr _ _ hx, ty, z.1, _, _, rfl, w, s, b, false, F, M, h, o, .inr ⟨t', ty, z.2, rfl⟩, _, rfl, ?_⟩
  cases neg <;> exact k
theorem use_right {K : PySem.W.Frag} {F H : Hp} {M : Cells} {v v2 : V} {w : Str} {s : List (Int × Bool)} {b : Bool} {Q : VK} {E : XK} (hc : CaseAt K F v w s b) (hd : Dp K F v2 (dPt w s b)) (hp : Pt w s (10 ^ 31)) (o : Own F M H) (k : ∀ F' H', Same F F' → Own F' M H' → Q (.bl true) H') :
    spRight K [v, v2] H Q E := ⟨_, _, rfl, w, s, b, F, M, hc, hd, hp, o, k⟩
theorem shp_pt {w : Str} {s : List (Int × Bool)} {b : Bool} {m : Int} (h : Pt w s m) : Shp 3 (dPt w s b) := shp_tuple fun d hd => by
  rcases List.mem_cons.mp hd with rfl | hd
  · exact shp_str _ h.wo
  · rcases List.mem_cons.mp hd with rfl | hd
    · refine shp_list fun d hd => ?_
      obtain ⟨i, _, rfl⟩ := List.mem_map.mp hd
      refine shp_tuple (n := 0) fun e he => ?_
      rcases List.mem_cons.mp he with rfl | he
      · exact shp_int _ _
      · rcases List.mem_cons.mp he with rfl | he
        · exact shp_bool _ _
        · cases he
    · rcases List.mem_cons.mp hd with rfl | hd
      · exact shp_bool _ _
      · cases hd
theorem eqv_pt (w w' : Str) (s s' : List (Int × Bool)) (b b' : Bool) : PyData.eqv (dPt w s b) (dPt w' s' b') = caseEq w s b w' s' b' := by
  show ((w == w') && (PyData.eqvAll (s.map dSt) (s'.map dSt) && ((b == b') && true))) = _
  rw [eqv_sts, Bool.and_true]
  unfold caseEq
  congr 1
theorem caseEq_comm (w w' : Str) (s s' : List (Int × Bool)) (b b' : Bool) : caseEq w s b w' s' b' = caseEq w' s' b' w s b := by
  unfold caseEq
  rw [decide_eq_decide.mpr (eq_comm (a := w)), decide_eq_decide.mpr (eq_comm (a := s)), decide_eq_decide.mpr (eq_comm (a := b))]
def spLaw (K : PySem.W.Frag) : Sp := sp1 fun v H Q => ∃ (a : Addr) (ns : List Int), v = .ref a ∧ SqL K H a (iL ns) ∧ ns.length ≤ 63 ∧ ∀ H', Q (.bl true) H'
theorem law_pre {K : PySem.W.Frag} (H : Hp) (a : Addr) (ns : List Int) (hl : ns.length ≤ 63) (hS : SqL K H a (ns.map V.int)) : spLaw K [.ref a] H (fun v _ => v = .bl true) (fun _ _ _ => False) := ⟨_, rfl, a, ns, rfl, hS, hl, fun _ => rfl⟩
theorem ok_law_fn (T : Tx K mg) {f : Addr} {fd : FuncData} (F : FunD K d_law.name d_law.qual d_law.params d_law.body d_law.scope (d_law.dvs K) (d_law.kws K) f fd) : FnOk P w K mg base CX0 5 f fd ["_law_script"] (spLaw K) := by
  have G__law_source := ok__law_source (P := P) (w := w) (base := base) T
  have G__law_drawn := ok__law_drawn (P := P) (w := w) (base := base) T
  have G__law_other := ok__law_other (P := P) (w := w) (base := base) T
  have G__law_made := ok__law_made (P := P) (w := w) (base := base) T
  have G__law_right := ok__law_right (P := P) (w := w) (base := base) T
  have G_Case___eq__ := ok_Case___eq__ (P := P) (w := w) (base := base) T
  have G_Case___str__ := ok_Case___str__ (P := P) (w := w) (base := base) T
  refine F.ok sc_law (fun vs H Q E h => ?_) (fun cdv A outer s H vs Q E hr h => ?_)
  · exact sp1_len h
  obtain ⟨v0, rfl, h⟩ := h
  refine ⟨_, PSs.nox (pss_cons (ps_set (i := 1) sc_law.nd rfl (.inl rfl) (pe_own G__law_source (hr.mono (by decide)) (by rfl) (pa_cons (pv 0) pa_nil)))
      (pss_cons (ps_for PassesOwn.never rfl (pi_range1 (by rfl) T.z_range (pa_cons pe_int pa_nil)) (pg_name (i := 2) sc_law.nd rfl (.inl rfl))
      (pss_cons (ps_set (i := 3) sc_law.nd rfl (.inl rfl) (pe_own G__law_drawn (hr.mono (by decide)) (by rfl) (pa_cons (pv 1) pa_nil)))
      (pss_cons (ps_set (i := 4) sc_law.nd rfl (.inl rfl) (pe_own G__law_other (hr.mono (by decide)) (by rfl) (pa_cons (pv 1) (pa_cons (pv 3) pa_nil))))
      (pss_cons (ps_set (i := 5) sc_law.nd rfl (.inl rfl) (pe_own G__law_made (hr.mono (by decide)) (by rfl) (pa_cons (pv 1) (pa_cons (pv 3) pa_nil))))
      (pss_cons (ps_set (i := 6) sc_law.nd rfl (.inl rfl) (pe_own G__law_made (hr.mono (by decide)) (by rfl) (pa_cons (pv 1) (pa_cons (pv 4) pa_nil))))
      (pss_cut (ps_if (PW.pt (pw_or (pt_not (pt_val (pe_own G__law_right (hr.mono (by decide)) (by rfl) (pa_cons (pv 5) (pa_cons (pv 3) pa_nil))))) (pw_or (pt_not (pt_val (pe_own G__law_right (hr.mono (by decide)) (by rfl) (pa_cons (pv 6) (pa_cons (pv 4) pa_nil))))) (pw_or1 (pt_not (pt_val (pe_own G__law_right (hr.mono (by decide)) (by rfl) (pa_cons (pv 5) (pa_cons (pv 3) pa_nil))))))))) (pss_one (ps_ret pe_bl)) pss_nil)
      (pss_cons (ps_set (i := 7) sc_law.nd rfl (.inl rfl) (pe_cmpR (kEqD K hr.units) (pv 3) (pv 4) (nomark _)))
      (pss_cons (ps_set (i := 8) sc_law.nd rfl (.inl rfl) (pe_lst (pa_cons (pe_cmpR (op_eqO T.oe_Case G_Case___eq__ (hr.mono (by decide))) (pv 5) (pv 6) (nomark _)) (pa_cons (pe_cmpR (op_eqO T.oe_Case G_Case___eq__ (hr.mono (by decide))) (pv 6) (pv 5) (nomark _)) (pa_cons (pe_not (pe_cmpR (op_neO T.oe_Case G_Case___eq__ (hr.mono (by decide))) (pv 5) (pv 6) (nomark _))) pa_nil)))))
      (pss_cons (ps_if (PW.pt (pw_or (pt_cmpR (kNeD K hr.units) (pv 8) (pe_lst (pa_cons (pv 7) (pa_cons (pv 7) (pa_cons (pv 7) pa_nil)))) (nomark _)) (pw_or1 (pt_not (pt_val (pe_callB (kIsi K) (by rfl) T.z_isinstance (by decide +kernel) (pa_cons (pe_ix (kIxL K) (pv 8) pe_int (fun _ _ => rfl)) (pa_cons (pe_bltn (v := .ty "bool") (u := .type "bool") (by rfl) T.z_bool (by decide +kernel) rfl) pa_nil)))))))) (pss_one (ps_ret pe_bl)) pss_nil)
      (pss_one (ps_for PassesOwn.never rfl (kPiL K (pe_lst (pa_cons (pe_callTy (c_strO T.me_Case___str__.at_ T.me_Case___str__.fn G_Case___str__ (hr.mono (by decide))) (by rfl) T.z_str (by decide +kernel) (pa_cons (pv 5) pa_nil)) (pa_cons (kFld K (pv 5)) (pa_cons pe_non (pa_cons pe_int (pa_cons (pe_lst (pa_cons (pv 5) pa_nil)) pa_nil))))))) (pg_name (i := 9) sc_law.nd rfl (.inl rfl))
      (pss_one (ps_if (PW.pt (pw_or (pt_cmpR (op_eqO T.oe_Case G_Case___eq__ (hr.mono (by decide))) (pv 5) (pv 9) (nomark _)) (pw_or1 (pt_not (pt_cmpR (op_neO T.oe_Case G_Case___eq__ (hr.mono (by decide))) (pv 5) (pv 9) (nomark _)))))) (pss_one (ps_ret pe_bl)) pss_nil)))))))))))))
      (pss_one (ps_ret pe_bl)))), ?_⟩
  try dsimp only [cxOf, Cx.nox, Cx.wish]
  have cl_Case := T.cl_Case
  have na_Case_door := T.na_Case_door
  have na_Case_states := T.na_Case_states
  have na_Case_own := T.na_Case_own

  obtain ⟨a, ns, rfl, hS, hl, k⟩ := h
  have o := Own.start H
  walk_at "rd"
  refine ⟨_, rfl, a, ns, H, [], rfl, hS, hl, o, fun src S H1 hs o1 => ?_⟩
  rw [List.append_nil] at o1
  walk_at "rd"
  refine forb_range (fun i σ H' => ∃ (F : Hp) (S : Cells) (rest : List (Option V)), σ = some (.ref a) :: some (.ref src) :: rest ∧ rest.length = 8 ∧ Src src S ∧ Own F S H') ⟨H, S, _, rfl, rfl, hs, o1⟩ ?_ ?_
  · rintro i σ H2 hi ⟨F, S, rest, rfl, hlr, hs, o⟩
    match rest, hlr with
    | [y2, y3, y4, y5, y6, y7, y8, y9], _ =>
    walk_at "rd"
    refine ⟨_, rfl, src, F, S, [], rfl, hs, by rw [List.append_nil]; exact o, fun v3 w3 s3 b3 F1 S1 H3 e1 d3 p3 l3 hs1 o1 => ?_⟩
    walk_at "rd"
    refine ⟨_, _, rfl, src, w3, s3, b3, F1, S1, [], rfl, hs1, d3, p3, l3, o1, fun v4 w4 s4 b4 F2 S2 H4 e2 d4 p4 hs2 o2 => ?_⟩
    have p3' : Pt w3 s3 (10 ^ 31) := ⟨p3.wl, p3.wo, p3.n1, p3.n8, fun s hs => ⟨(p3.ms s hs).1, by have := (p3.ms s hs).2; omega⟩⟩
    walk_at "rd"
    refine ⟨_, _, rfl, src, w3, s3, b3, F2, S2, [], rfl, hs2, dp_mono e2 d3, p3', o2, fun v5 F3 S3 H5 e3 c5 hs3 o3 => ?_⟩
    walk_at "rd"
    refine ⟨_, _, rfl, src, w4, s4, b4, F3, S3, [], rfl, hs3, dp_mono e3 d4, p4, o3, fun v6 F4 S4 H6 e4 c6 hs4 o4 => ?_⟩
    rw [List.append_nil] at o4
    refine r_cut (fun σ H => ∃ F5, Same F4 F5 ∧ Own F5 S4 H ∧ σ = [some (.ref a), some (.ref src), some (.int (0 + (i : Int))), some v3, some v4, some v5, some v6, y7, y8, y9]) ?_ ?_
    · walk_at "rd"
      refine use_right (c5.mono e4) (dp_mono (e2.trans (e3.trans e4)) d3) p3' o4 fun F5 H7 e5 o5 => ?_
      walk_at "rd"
      refine iteF ?_
      walk_at "rd"
      refine use_right (c6.mono e5) (dp_mono (e3.trans (e4.trans e5)) d4) p4 o5 fun F6 H8 e6 o6 => ?_
      walk_at "rd"
      refine iteF ?_
      walk_at "rd"
      refine use_right ((c5.mono e4).mono (e5.trans e6)) (dp_mono ((e2.trans (e3.trans e4)).trans (e5.trans e6)) d3) p3' o6 fun F7 H9 e7 o7 => ?_
      walk_at "rd"
      refine iteF ?_
      walk_at "rd"
      exact ⟨F7, e5.trans (e6.trans e7), o7, rfl⟩
    rintro σ H7 ⟨F5, e5, o5, rfl⟩
    have c5' := (c5.mono e4).mono e5
    have c6' := c6.mono e5
    have d3' := dp_mono ((e2.trans (e3.trans e4)).trans e5) d3
    have d4' := dp_mono (e3.trans (e4.trans e5)) d4
    clear c5 c6 d3 d4
    walk_at "rd"
    refine r_eqD (dp_mono o5.fr d3') (dp_mono o5.fr d4') (shp_pt p3).shaped (shp_pt p4).shaped ?_
    rw [eqv_pt]
    walk_at "rd"
    refine use_eq T.it_Case cl_Case o5 c5' c6' ?_
    walk_at "rd"
    refine use_eq T.it_Case cl_Case o5 c6' c5' ?_
    walk_at "rd"
    refine use_eq T.it_Case cl_Case o5 c5' c6' ?_
    rw [caseEq_comm w4 w3]
    generalize caseEq w3 s3 b3 w4 s4 b4 = ex
    walk_at "rd"
    have en : (!(if true then !ex else ex)) = ex := by cases ex <;> rfl
    rw [en]
    refine newLF o5 fun l8 H8 n8 o8 => ?_
    walk_at "rd"
    refine newLF o8 fun l9 H9 n9 o9 => ?_
    have db : ∀ (F : Hp) (l : Addr), F l = some (.lst [V.bl ex, .bl ex, .bl ex]) → Dp K F (.ref l) (.list [.bool ex, .bool ex, .bool ex]) := fun F l h => .lst (SqL.of h) (.cons (.bl _) (.cons (.bl _) (.cons (.bl _) .nil)))
    have e8 := same_upd (x := HO.lst [V.bl ex, .bl ex, .bl ex]) n8
    have e9 := same_upd (x := HO.lst [V.bl ex, .bl ex, .bl ex]) n9
    have sh : Shp 1 (.list [.bool ex, .bool ex, .bool ex]) := shp_list fun d hd => by
      rcases List.mem_cons.mp hd with rfl | hd
      · exact shp_bool _ _
      rcases List.mem_cons.mp hd with rfl | hd
      · exact shp_bool _ _
      rcases List.mem_cons.mp hd with rfl | hd
      · exact shp_bool _ _
      · cases hd
    refine r_neD (dp_mono o9.fr (db _ l8 (e9 _ _ upd_same))) (dp_mono o9.fr (db _ l9 upd_same)) sh.shaped sh.shaped ?_
    have ee : PyData.eqv (.list [.bool ex, .bool ex, .bool ex]) (.list [.bool ex, .bool ex, .bool ex]) = true := by cases ex <;> rfl
    rw [ee]
    walk_at "rd"
    refine iteF ?_
    walk_at "rd"
    refine r_ixL (SqL.of (o9.fr _ _ (e9 _ _ upd_same))) (by rfl) ?_
    walk_at "rd"
    refine r_isi (.base (.bl _)) (kit_self _) ?_
    walk_at "rd"
    refine iteF ?_
    have e89 := e8.trans e9
    have c9 := c5'.mono e89
    obtain ⟨x, dx, tt, rfl, hx, ht⟩ := id c9
    obtain ⟨t', xs, e, hq, ha⟩ := dp_tup_inv ht
    cases e
    walk_at "rd"
    refine ⟨x, dx, _, rfl, o9.fr _ _ hx, _, rfl, w3, s3, b3, _, _, c9, p3'.mks, by have := p3.n8; omega, by omega, o9, fun H10 o10 => ⟨_, rfl, ?_⟩⟩
    walk_at "rd"
    refine newLF o10 fun l10 H11 n10 o11 => ?_
    have e10 := same_upd (x := HO.lst [V.ref x]) n10
    have c11 := c9.mono e10
    walk_at "rd"
    refine newLF o11 fun l11 H12 n11 o12 => ?_
    have e11 := same_upd (x := HO.lst [V.str (strC w3 s3 b3), V.ref tt, V.non, V.int 0, V.ref l10]) n11
    have c12 := c11.mono e11
    have hq12 := Same.tup e11 (Same.tup e10 hq)
    have hl12 := e11 l10 _ upd_same
    have hodd := T.nf_Case
    unfold othB at hodd
    simp only [Bool.and_eq_true] at hodd
    obtain ⟨⟨⟨⟨q1, q2⟩, q3⟩, q4⟩, q5⟩ := hodd
    walk_at "rd"
    refine r_exL (SqL.of (o12.fr _ _ upd_same)) ?_
    refine forb_list (K := K) (xs := [V.str (strC w3 s3 b3), V.ref tt, V.non, V.int 0, V.ref l10]) (fun _ σ H' => ∃ y, σ = [some (.ref a), some (.ref src), some (.int (0 + (i : Int))), some v3, some v4, some (.ref x), some v6, some (.bl ex), some (.ref l8), y] ∧ Own (upd (upd (upd (upd F5 l8 (.lst [.bl ex, .bl ex, .bl ex])) l9 (.lst [.bl ex, .bl ex, .bl ex])) l10 (.lst [.ref x])) l11 (.lst [V.str (strC w3 s3 b3), V.ref tt, V.non, V.int 0, V.ref l10])) S4 H') ⟨_, rfl, o12⟩ ?_ ?_ ?_
    · rintro j σ H' _ ⟨y, rfl, o'⟩
      exact SqL.of (o'.fr _ _ upd_same)
    · rintro j z σ H' hz ⟨y, rfl, o'⟩
      obtain ⟨t', ty, ht'⟩ : ∃ t', TyX K H' z t' ∧ oth1 K (He.ga K "Case") t' = true := by
        match j, hz with
        | 0, h => cases h; exact ⟨_, .base (.str _), q1⟩
        | 1, h => cases h; exact ⟨_, tyT (Same.tup o'.fr hq12), q2⟩
        | 2, h => cases h; exact ⟨_, .base .non, q3⟩
        | 3, h => cases h; exact ⟨_, .base (.int _), q4⟩
        | 4, h => cases h; exact ⟨_, .base (.lst (o'.fr _ _ hl12)), q5⟩
        | j + 5, h => cases h
      walk_at "rd"
      refine use_odd o' c12 ty ht' ?_
      walk_at "rd"
      refine iteF ?_
      walk_at "rd"
      refine use_odd o' c12 ty ht' ?_
      walk_at "rd"
      refine iteF ?_
      walk_at "rd"
      exact o'
    · rintro σ H' ⟨y, rfl, o'⟩
      exact ⟨_, S4, _, rfl, rfl, hs4, o'⟩
  · rintro σ H2 ⟨F, S, rest, rfl, hlr, hs, o⟩
    walk_at "rd"
    exact k _

end
end Ed
namespace Ed
open PySem PySem.Spec PyProof.Rows L2
theorem facts {P : Program} {w : World} {K : PySem.W.Frag} {h : Heap} {mg : Str → Option Value} {f : Addr} (X : K.In h) (G : h.Ns mainGlobals mg) (hfa : mg ("law" : Str) = some (.ref f)) (c : He.SaysX fa fn [] [] exB w h K) :
    ∃ fd : FuncData, (∀ (s : Shared) (v : Value), BindsTo s fd ⟨[v], []⟩ [("_law_script", v)]) ∧ ∀ base : Heap, K.In base → base.Ns mainGlobals mg → FnOk P w K mg base CX0 5 f fd ["_law_script"] (spLaw K) := by
  have T : Tx K mg := tx_of X G c.t.d c.more
  obtain ⟨fd, F⟩ := T.F_law
  have e := hfa.symm.trans T.g_law
  cases e
  have b := FunD.bindsA (ps := ["_law_script"]) F fun _ _ _ _ _ _ us hl => match us, hl with | [_], _ => rfl
  exact ⟨fd, fun s v => b s [v] rfl, fun base _ _ => ok_law_fn T F⟩
end Ed
open PySem PySem.W PySem.Calls PyProof.Rows
set_option maxHeartbeats 0 in
theorem PySem.Challenge.cw_everydoor_k21_cases_holds : PySem.Challenge.rw_everydoor_k21_cases.Holds := by
  w_on; o_law
  refine HandSHeadRun.head_any (r := OpenLaw.row PySem.Challenge.rw_everydoor_k21_cases) (q := view (OpenLaw.row PySem.Challenge.rw_everydoor_k21_cases).prog [10]) (H := Ed.hk) (ob := Ed.ob) (M := 3000) (loose := Ed.loose) (d := HandSHeadRun.topDef (OpenLaw.row PySem.Challenge.rw_everydoor_k21_cases).prog 10) (kwd := []) Ed.ob_eq
    (by kernel_rfl) (fun s => by kernel_rfl) Ed.run (by kernel_rfl) (by kernel_rfl) (by kernel_rfl) (by rfl) (by first | assumption | decide +kernel) (by decide +kernel) ⟨rfl, rfl, rfl, rfl, rfl, by decide +kernel⟩ ?hw ?hc
  case hw => w_witness2
  case hc =>
    refine L2.walk_ofE (l := PySem.Challenge.rw_everydoor_k21_cases) (n := 63) (k := 5) (x := "_law_script") (CX := L2.CX0) rfl (by decide) (by kernel_rfl) ⟨rfl, by decide, by decide⟩ ?F (fun _ _ _ _ z => z)
    intro w mg fa h Y G hmg0
    obtain ⟨K, KX, c⟩ := Y
    have hmg : mg ("law" : PySem.Str) = some (.ref fa) := by
      have e : (HandSHeadRun.topDef (OpenLaw.row PySem.Challenge.rw_everydoor_k21_cases).prog 10).name = ("law" : PySem.Str) := by kernel_rfl
      rw [← e]
      exact hmg0
    obtain ⟨fd, hb, hF⟩ := Ed.facts (P := (PySem.Challenge.rw_everydoor_k21_cases).prog) (w := w) KX G hmg c
    exact ⟨K, fd, Ed.spLaw K, KX, hb, fun H a ns hl _ hS => Ed.law_pre H a ns hl hS, hF⟩
