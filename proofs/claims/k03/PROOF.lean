import PyProof.Rows.All
import HandS.ForMost
import HandS.ForExc
import HandS.Defaults
import HandS.EndTab
import HandS.HeadHook4
import HandS.HeadWalk
import HandS.Head2
import HandS.Wide
import HandS.WideBits
import HandS.Flow
import HandS.Style
import HandS.IsInst
import HandS.Conv
import HandS.More
import HandS.TupAny
import HandS.Walk
import HandS.SortInts
import HandS.FStr
import HandS.DictComp
import HandS.CallSlots
import HandS.Evl
import KE.GoesMore
import HandS.WordsList
import PySem.Challenge.RW_everyorder_k03_whole_rules_of_rearrangem
set_option Elab.async false
set_option linter.all false
set_option maxRecDepth 100000
set_option maxHeartbeats 4000000
/-! Our own base: contracts by name, walks of lists or tuples, what stays of the heap, the reading's steps. -/
namespace EV
open PySem PySem.Spec PyProof.Rows L2
open He (ga)

/-! ### a contract by the def's name -/
/-- the module's x is a def that keeps the promise sp with k calls of room -/
structure Gd (P : Program) (w : World) (K : PySem.W.Frag) (mg : Str → Option Value) (base : Heap) (k : Nat) (x : Str) (sp : Sp) : Prop where
  glo : mg x = some (.ref (ga K x))
  kept : PySem.W.keepIn K (.ref (ga K x)) = true
  runs : FnR P w K mg base (L2.CX P w) k (ga K x) sp
theorem Gd.imp {P : Program} {w : World} {K : PySem.W.Frag} {mg : Str → Option Value} {base : Heap} {k : Nat} {x : Str} {sp sp' : Sp} (G : Gd P w K mg base k x sp)
    (h : ∀ vs H Q E, sp' vs H Q E → sp vs H Q E) : Gd P w K mg base k x sp' := ⟨G.glo, G.kept, G.runs.imp h⟩
/-- where a def stands (all of it written, no defaults) -/
abbrev Stands (K : PySem.W.Frag) (x : Str) (st : Stmt) : Prop := ∃ fd, FunD K x x (defArgs st) (defBody st) (defScope st) [] [] (ga K x) fd
/-- how its parameters are bound: shown by rfl, a parameter at a time -/
abbrev BindsAll (x : Str) (st : Stmt) (ps : List Str) : Prop := ∀ (kV doc pm : Value) (an : Option Addr) (cdv ct : Value) (us : List Value), us.length = ps.length →
  bindArgs (PySem.W.fnOf x x (defArgs st) (defBody st) (defScope st) .none kV doc pm an cdv ct) ⟨us, []⟩ = pure (ps.zip us)

section
variable {P : Program} {w : World} {K : PySem.W.Frag} {mg : Str → Option Value} {base : Heap}
/-- a def keeps its promise: its body's derivation and the reading of it -/
theorem ok_of {x : Str} {st : Stmt} {fd : FuncData} {f : Addr} {N ps : List Str} {k : Nat} {sp : Sp} (F : FunD K x x (defArgs st) (defBody st) (defScope st) [] [] f fd) (S : FnScope N ps (defScope st))
    (len : ∀ vs H Q E, sp vs H Q E → vs.length = ps.length)
    (body : ∀ (X : Cx) (H : Hp) (vs : List V) (Q : VK) (E : XK), (∃ cdv A outer s, X = cxOf (L2.CX P w) P w K mg base N x (defScope st) f cdv A outer s H E) → Room k X.A → Takes X (fun cls d _ H => E cls d H) → PassesOwn (model X.prog X.w) X.A X.env X.xe → sp vs H Q E →
      ∃ t, PSs X (defBody st) t ∧ t { nx := fun _ H' => Q .non H', rt := Q } (start N vs) H) : FnOk P w K mg base (L2.CX P w) (k + 1) f fd ps sp := by
  refine F.ok S len fun cdv A outer s H vs Q E hr hs => ?_
  exact body _ H vs Q E ⟨cdv, A, outer, s, rfl⟩ hr (takes_of rfl rfl rfl rfl) (passes_of rfl) hs
theorem gd_of {x : Str} {st : Stmt} {ps : List Str} {k : Nat} {sp : Sp} (g : mg x = some (.ref (ga K x))) (F : Stands K x st) (b : BindsAll x st ps)
    (ok : ∀ fd, FunD K x x (defArgs st) (defBody st) (defScope st) [] [] (ga K x) fd → FnOk P w K mg base (L2.CX P w) k (ga K x) fd ps sp) : Gd P w K mg base k x sp := by
  obtain ⟨fd, D⟩ := F
  refine ⟨g, D.kp, ?_⟩
  refine FnR.imp ((ok fd D).raw (FunD.bindsN D b) .nil) fun vs H Q E h => ?_
  rw [List.append_nil]
  exact h
end

/-- a statement's own block; none -/
def bodyOf : Stmt → List Stmt
  | .For _ _ b _ _ => b
  | .While _ b _ _ => b
  | .If _ b _ _ => b
  | _ => []
def stPass : Stmt := .Pass ⟨0, 0, 0, 0⟩
/-! ### rules of our own -/
section
variable {X : Cx} {k : Nat} {x : Str} {sp : Sp} {E : L2.St → XK} {p pos : Pos} {e : Expr} {es : List Expr} {t : TA}
def tCr (sp : Sp) (E : L2.St → XK) (t : TA) : TE := fun σ H Q => t σ H fun vs H1 => sp vs H1 Q (E σ)
theorem run_gd {pins : List (Addr × Obj)} {σ : L2.St} {H : Hp} {s : Shared} {Q : VK} {us : List Value} {vs : List V} (G : Gd X.prog X.w X.K X.mg X.base k x sp) (hr : Room k X.A)
    (hx : PassesAt (L2.CX X.prog X.w) X σ (E σ)) (I : Inv X pins σ H s) (r : Vals vs us) (h : sp vs H Q (E σ)) : wpAny (model X.prog X.w) X.A (call (.ref (ga X.K x)) us) (EP X pins σ Q) X.xe s := by
  refine wpAny_call (codeAny_mono (G.runs X.A X.stack s H us vs Q (E σ) hr I.env0 r h) fun r s' hq => ?_)
  match r, hq with
  | .error u, hq => exact hx pins H s u s' I hq
  | .ok (.ret u), hq => exact I.after hq
  | .ok .next, hq => exact False.elim hq
  | .ok .brk, hq => exact False.elim hq
  | .ok .cont, hq => exact False.elim hq
/-- f(e, ..) by a contract -/
theorem pe_cr (G : Gd X.prog X.w X.K X.mg X.base k x sp) (hr : Room k X.A) (hx : ∀ σ, PassesAt (L2.CX X.prog X.w) X σ (E σ)) (ha : PA X (e :: es) t) (hg : Gl X x := by rfl)
    (hdb : (x == ("__debug__" : Str)) = false := by decide) (he : starEach (e :: es) X.env = (false, eval e X.env) :: starEach es X.env := by rfl)
    (hpl : (backTo pos (starEach es X.env)).any (·.1) = false := by rfl) : PE X (.Call (.Name x p) (e :: es) [] pos) (tCr sp E t) := by
  constructor
  intro pins s σ H Q I h
  apply wpAny_Call_Name_kw
  refine ld_glob I hg G.glo ?_ hdb
  refine PySem.W.callWith_K (h₀ := X.base) I.ok.mod.kin G.kept ?_ he hpl
  refine thn (ha.run pos pins s σ H _ I h) fun us s1 q => ?_
  obtain ⟨vs, H1, I1, r, q⟩ := q
  exact ⟨I1.kIn, run_gd G hr (hx σ) I1 r q⟩
theorem pe_cr0 (G : Gd X.prog X.w X.K X.mg X.base k x sp) (hr : Room k X.A) (hx : ∀ σ, PassesAt (L2.CX X.prog X.w) X σ (E σ)) (hg : Gl X x := by rfl)
    (hdb : (x == ("__debug__" : Str)) = false := by decide) : PE X (.Call (.Name x p) [] [] pos) (tCr sp E tNil) := by
  constructor
  intro pins s σ H Q I h
  apply wpAny_Call_Name_kw
  refine ld_glob I hg G.glo ?_ hdb
  exact PySem.W.callWith_K0 I.kIn G.kept (run_gd (us := []) G hr (hx σ) I .nil h)
/-- a whole number that the module's name holds -/
theorem pe_gint {i : Int} (hg : Gl X x) (h : ∃ t, X.mg x = some (.int i t)) (hd : (x == ("__debug__" : Str)) = false := by decide) : PE X (.Name x pos) (tC (.int i)) := by
  obtain ⟨t, h⟩ := h
  exact pe_glob hg h ⟨t, rfl⟩ hd
end

theorem mul_l {i j : Int} (h : -(2 ^ 64) < i) (h2 : i < 2 ^ 64) : CMul i j := .inl ⟨h, h2⟩
theorem mul_r {i j : Int} (h : -(2 ^ 64) < j) (h2 : j < 2 ^ 64) : CMul i j := .inr ⟨h, h2⟩

theorem seq_ix {d : Int} {n : Nat} (h0 : 0 ≤ d) (h1 : d < (n : Int)) : seqIndex? d n = some d.toNat := by
  have h2 : ¬ d < 0 := by omega
  unfold seqIndex?
  simp [h2, h0, h1]

theorem ite_t {c : Bool} {A B : Prop} (e : c = true) (h : A) : if c = true then A else B := by
  rw [if_pos e]
  exact h
theorem ite_f {c : Bool} {A B : Prop} (e : c = false) (h : B) : if c = true then A else B := by
  rw [e]
  exact iteF h
/-- the natural n as Python's int -/
def vI (n : Nat) : V := .int (n : Int)
theorem vI_map (f : List Nat) : f.map vI = (f.map Int.ofNat).map V.int := by rw [List.map_map]; rfl
theorem rgV_nat (n : Nat) : rgV 0 (n : Int) = (List.range n).map vI := by
  unfold rgV
  rw [show ((n : Int) - 0).toNat = n by omega]
  apply List.map_congr_left
  intro x _
  show V.int (0 + (x : Int)) = V.int (x : Int)
  rw [Int.zero_add]
theorem of_map_perm {ys : List V} {f : List Nat} (h : ys.Perm (f.map vI)) : ∃ g : List Nat, ys = g.map vI ∧ g.Perm f := by
  induction f generalizing ys with
  | nil => exact ⟨[], by simpa using h, .refl _⟩
  | cons a r ih =>
    have ha : vI a ∈ ys := h.mem_iff.mpr (by simp)
    obtain ⟨s, t, rfl⟩ := List.append_of_mem ha
    have h2 : (s ++ t).Perm (r.map vI) := (List.perm_middle.symm.trans h).cons_inv
    obtain ⟨g, e, p⟩ := ih h2
    obtain ⟨g1, g2, rfl, e1, e2⟩ := List.append_eq_map_iff.mp e
    exact ⟨g1 ++ a :: g2, by simp [e1, e2], List.perm_middle.trans (p.cons a)⟩

/-! ### lists and tuples alike -/
/-- a list (true), a tuple (false) -/
def SqB (b : Bool) (K : PySem.W.Frag) (H : Hp) (a : Addr) (xs : List V) : Prop := match b with
  | true => SqL K H a xs
  | false => SqT K H a xs
theorem SqB.or {b : Bool} {K : PySem.W.Frag} {H : Hp} {a : Addr} {xs : List V} (h : SqB b K H a xs) : SqL K H a xs ∨ SqT K H a xs := by
  cases b
  · exact .inr h
  · exact .inl h
theorem Same.rd {H H' : Hp} {a : Addr} {u : HO} (s : Same H H') (h : Rd H a u) : Rd H' a u := by
  rcases h with h | ⟨o, h⟩
  · exact .inl (s a _ h)
  · exact .inr ⟨o, s a _ h⟩
theorem Same.sqt {K : PySem.W.Frag} {H H' : Hp} {a : Addr} {xs : List V} (s : Same H H') (h : SqT K H a xs) : SqT K H' a xs := by
  rcases h with h | h
  · exact .inl (Same.rd s h)
  · exact .inr h
theorem Same.sqb {b : Bool} {K : PySem.W.Frag} {H H' : Hp} {a : Addr} {xs : List V} (s : Same H H') (h : SqB b K H a xs) : SqB b K H' a xs := by
  cases b
  · exact Same.sqt s h
  · exact L2.Same.seq s h
theorem Same.new {H : Hp} {p : Addr} {o : HO} (h : H p = none) : Same H (upd H p o) := fun b u e => by
  rw [upd_ne (ne_of_none e h)]
  exact e
/-- an object that H does not know may be changed -/
theorem Same.put {H H' : Hp} {p : Addr} {o : HO} (s : Same H H') (h : H p = none) : Same H (upd H' p o) := fun b u e => by
  rw [upd_ne (ne_of_none e h)]
  exact s b u e

section
variable {X : Cx} {tg : Expr}
/-- what a for over a list or a tuple asks -/
def iSeq (K : PySem.W.Frag) (tl : TE) : TI := fun σ H R => tl σ H fun x H1 => ∃ (a : Addr) (b : Bool) (xs : List V), x = .ref a ∧ SqB b K H1 a xs ∧
  ∀ J, Walk J xs.length (fun H => SqB b K H a xs) (YAt xs) → R J H1
theorem pi_seq {l : Expr} {tl : TE} (hl : PE X l tl) : PI X tg l (iSeq X.K tl) := by
  constructor
  intro pins s σ H R I h
  refine thn (hl.run pins s σ H _ I h) fun v s1 q1 => ?_
  obtain ⟨x, H1, I1, r1, a, b, xs, e, hq, q⟩ := q1
  subst e
  cases r1
  have fresh : ∀ b, b ∈ [s1.heap.objs.size] → FpOk X pins H1 b := fun b hb => by
    have e : b = s1.heap.objs.size := List.mem_singleton.mp hb
    rw [e]
    exact I1.fpOk (Nat.le_refl _) (I1.hok.fresh (Nat.le_refl _))
  cases b with
  | true =>
    obtain ⟨its, rv, p, hz⟩ := I1.list (show SqL X.K H1 a xs from hq)
    refine wpAny_pyIter_list p.isList ?_
    refine ⟨s1.heap.objs.size, [s1.heap.objs.size], _, _, H1, rfl, I1.kept (t' := s1.toks) fun b o e => Heap.get?_push_of_some _ e, turn_list a _, ⟨_, Heap.get?_push_size _ rfl, rfl, rfl⟩, fresh, ?_⟩
    exact q _ walk_list
  | false =>
    obtain ⟨its, rv, p, hz⟩ := I1.tuple (show SqT X.K H1 a xs from hq)
    refine wpAny_pyIter_tuple (show s1.heap.IsTuple a its.toArray from p) ?_
    refine ⟨s1.heap.objs.size, [s1.heap.objs.size], _, _, H1, rfl, I1.kept (t' := s1.toks) fun b o e => Heap.get?_push_of_some _ e, turn_tuple a _, ⟨_, Heap.get?_push_size _ rfl, rfl, rfl⟩, fresh, ?_⟩
    exact q _ walk_tup
end
theorem yes_if {σ : L2.St} {H : Hp} {A B : Hp → Prop} (h : A H) : tYes σ H fun b H3 => if b = true then A H3 else B H3 := by
  show if true = true then A H else B H
  exact iteT h
/-! ### comprehensions that make a list of known items -/
def PvM (H1 : Hp) (D : Addr) (ys : List V) (i : Nat) (H : Hp) : Prop := Same H1 H ∧ H D = some (.lst (ys.take i))
theorem pvM_turn {H1 H H4 : Hp} {D : Addr} {ys : List V} {i : Nat} {y : V} (hD : H1 D = none) (hn : ys.length ≤ 100000) (p : PvM H1 D ys i H) (s : Same H H4) (e : ys[i]? = some y) :
    ∃ acc, H4 D = some (.lst acc) ∧ acc.length < sizeLine ∧ PvM H1 D ys (i + 1) (upd H4 D (.lst (acc ++ [y]))) := by
  refine ⟨_, s _ _ p.2, Nat.lt_of_le_of_lt (m := 100000) ?_ (by decide), Same.put (p.1.trans s) hD, ?_⟩
  · rw [List.length_take]
    omega
  · rw [upd_same, List.take_add_one, e]
    rfl
theorem lc_map {J : It} {n : Nat} {G : Hp → Prop} {Y : Nat → Hp → V → Hp → Prop} (w : Walk J n G Y) {g : TG} {tt : TT} {te : TE} {vs : List Nat} {σ : L2.St} {H1 : Hp} {D : Addr} {Qd : Hp → Prop}
    (ys : List V) (hl : ys.length = n) (hD : H1 D = none) (hG : ∀ H, Same H1 H → G H)
    (hs : ∀ i x H H', i < n → Same H1 H → PvM H1 D ys i H → Y i H x H' → g x (wipe σ vs) H' fun σ2 H2 => wipe σ2 vs = wipe σ vs ∧ tt σ2 H2 fun b H3 =>
      if b = true then te σ2 H3 fun y H4 => ∃ acc, H4 D = some (.lst acc) ∧ acc.length < sizeLine ∧ PvM H1 D ys (i + 1) (upd H4 D (.lst (acc ++ [y]))) else PvM H1 D ys (i + 1) H3)
    (hd : ∀ H, Same H1 H → H D = some (.lst ys) → Qd H) :
    ∃ W : Nat → Nat → Hp → Prop, (∃ m, W 0 m (upd H1 D (.lst []))) ∧ ∀ i m H, W i m H →
      (J.stop i H ∧ Qd H) ∨ (J.go i H ∧ ∃ Nx : Hp → Prop, (∀ H', Nx H' → ∃ m', m' < m ∧ W (i + 1) m' H') ∧ ∀ x H', J.yld i H x H' → g x (wipe σ vs) H' fun σ2 H2 => wipe σ2 vs = wipe σ vs ∧ tt σ2 H2 fun b H3 =>
        if b = true then te σ2 H3 fun y H4 => ∃ acc, H4 D = some (.lst acc) ∧ acc.length < sizeLine ∧ Nx (upd H4 D (.lst (acc ++ [y]))) else Nx H3) := by
  refine lc_it w (PvM H1 D ys) ⟨Same.new hD, upd_same⟩ (fun i H _ p => hG H p.1) (fun i x H H' hi p y => hs i x H H' hi p.1 p y) fun H p => hd H p.1 ?_
  have e := p.2
  rw [List.take_of_length_le (by omega)] at e
  exact e
/-- the same, some of the items left out: sel i is what turn i adds -/
def PvS (H1 : Hp) (D : Addr) (sel : Nat → Option V) (i : Nat) (H : Hp) : Prop := Same H1 H ∧ H D = some (.lst ((List.range i).filterMap sel))
theorem pvS_yes {H1 H H4 : Hp} {D : Addr} {sel : Nat → Option V} {i : Nat} {y : V} (hD : H1 D = none) (hn : i ≤ 100000) (p : PvS H1 D sel i H) (s : Same H H4) (e : sel i = some y) :
    ∃ acc, H4 D = some (.lst acc) ∧ acc.length < sizeLine ∧ PvS H1 D sel (i + 1) (upd H4 D (.lst (acc ++ [y]))) := by
  refine ⟨_, s _ _ p.2, Nat.lt_of_le_of_lt (m := 100000) ?_ (by decide), Same.put (p.1.trans s) hD, ?_⟩
  · refine Nat.le_trans (List.length_filterMap_le _ _) ?_
    rw [List.length_range]
    exact hn
  · rw [upd_same, List.range_succ, List.filterMap_append]
    simp [e]
theorem pvS_no {H1 H H4 : Hp} {D : Addr} {sel : Nat → Option V} {i : Nat} (p : PvS H1 D sel i H) (s : Same H H4) (e : sel i = none) : PvS H1 D sel (i + 1) H4 := by
  refine ⟨p.1.trans s, ?_⟩
  rw [List.range_succ, List.filterMap_append]
  simpa [e] using s _ _ p.2
theorem lc_sel {J : It} {n : Nat} {G : Hp → Prop} {Y : Nat → Hp → V → Hp → Prop} (w : Walk J n G Y) {g : TG} {tt : TT} {te : TE} {vs : List Nat} {σ : L2.St} {H1 : Hp} {D : Addr} {Qd : Hp → Prop}
    (sel : Nat → Option V) (hD : H1 D = none) (hG : ∀ H, Same H1 H → G H)
    (hs : ∀ i x H H', i < n → Same H1 H → PvS H1 D sel i H → Y i H x H' → g x (wipe σ vs) H' fun σ2 H2 => wipe σ2 vs = wipe σ vs ∧ tt σ2 H2 fun b H3 =>
      if b = true then te σ2 H3 fun y H4 => ∃ acc, H4 D = some (.lst acc) ∧ acc.length < sizeLine ∧ PvS H1 D sel (i + 1) (upd H4 D (.lst (acc ++ [y]))) else PvS H1 D sel (i + 1) H3)
    (hd : ∀ H, Same H1 H → H D = some (.lst ((List.range n).filterMap sel)) → Qd H) :
    ∃ W : Nat → Nat → Hp → Prop, (∃ m, W 0 m (upd H1 D (.lst []))) ∧ ∀ i m H, W i m H →
      (J.stop i H ∧ Qd H) ∨ (J.go i H ∧ ∃ Nx : Hp → Prop, (∀ H', Nx H' → ∃ m', m' < m ∧ W (i + 1) m' H') ∧ ∀ x H', J.yld i H x H' → g x (wipe σ vs) H' fun σ2 H2 => wipe σ2 vs = wipe σ vs ∧ tt σ2 H2 fun b H3 =>
        if b = true then te σ2 H3 fun y H4 => ∃ acc, H4 D = some (.lst acc) ∧ acc.length < sizeLine ∧ Nx (upd H4 D (.lst (acc ++ [y]))) else Nx H3) :=
  lc_it w (PvS H1 D sel) ⟨Same.new hD, upd_same⟩ (fun i H _ p => hG H p.1) (fun i x H H' hi p y => hs i x H H' hi p.1 p y) fun H p => hd H p.1 p.2
/-- the items that pass, of a list -/
theorem sel_list {α β : Type} {xs : List α} {q : α → Option β} : (List.range xs.length).filterMap (fun i => xs[i]?.bind q) = xs.filterMap q := by
  have : ∀ n, n ≤ xs.length → (List.range n).filterMap (fun i => xs[i]?.bind q) = (xs.take n).filterMap q := by
    intro n
    induction n with
    | zero => intro _; rfl
    | succ n ih =>
      intro h
      rw [List.range_succ, List.filterMap_append, ih (by omega), List.take_add_one, List.filterMap_append]
      congr 1
      have e := List.getElem?_eq_getElem (show n < xs.length by omega)
      cases c : q xs[n] <;> simp [e, c]
  have := this xs.length (Nat.le_refl _)
  rw [List.take_length] at this
  exact this
/-- xs[i] of a list or a tuple -/
theorem rix {b : Bool} {K : PySem.W.Frag} {H : Hp} {a : Addr} {xs : List V} {i : Int} {j : Nat} {v : V} {Q : VK} (h : SqB b K H a xs) (hi : i = (j : Int)) (e : xs[j]? = some v) (q : Q v H) : rIx K (.ref a) (.int i) H Q := by
  subst hi
  cases b with
  | true => exact .inl ⟨a, xs, _, _, rfl, rfl, h, atI_nat e, q⟩
  | false => exact .inr (.inl ⟨a, xs, _, _, rfl, rfl, h, atI_nat e, q⟩)

/-! ### rules that name the frame, told with it (inside comprehensions) -/
section
variable {X : Cx} {K : PySem.W.Frag} {tg : Expr}
theorem ix_seqK (h : X.K = K) : IxR X (rIx K) := h ▸ ix_seq
theorem ix_listK (h : X.K = K) : IxR X (rIxL K) := h ▸ ix_list
theorem ix_tupK (h : X.K = K) : IxR X (rIxT K) := h ▸ ix_tup
theorem op_in_seqK (h : X.K = K) : OpR X (compareOp .In) (rIn K false) := h ▸ op_in_seq
theorem op_notIn_seqK (h : X.K = K) : OpR X (compareOp .NotIn) (rIn K true) := h ▸ op_notIn_seq
theorem sl_listK (h : X.K = K) : SlR X (rSlL K) := h ▸ sl_list
theorem call_len_seqK (h : X.K = K) : CallR X (.builtin "len") (fun xs H Q => ∃ p ys, xs = [.ref p] ∧ (SqL K H p ys ∨ SqT K H p ys) ∧ Q (.int ys.length) H) := h ▸ call_len_seq
theorem call_list_ofK (h : X.K = K) : CallR X (.type "list") (fun xs H Q => ∃ p ys, xs = [.ref p] ∧ (SqL K H p ys ∨ SqT K H p ys) ∧ ∀ l, H l = none → Q (.ref l) (upd H l (.lst ys))) := h ▸ call_list_of
theorem call_tuple_ofK (h : X.K = K) : CallR X (.type "tuple") (fun xs H Q => ∃ p ys, xs = [.ref p] ∧ ((SqL K H p ys ∧ ∀ l, H l = none → Q (.ref l) (upd H l (.tup ys))) ∨ (SqT K H p ys ∧ Q (.ref p) H))) := h ▸ call_tuple_of
theorem pe_revLK {e : Expr} {te : TE} {k : Nat} {p1 p2 p3 pos : Pos} (h : X.K = K) (he : PE X e te) : PE X (.Subscript e (.Slice none none (some (.UnaryOp .USub (.Constant (.int 1) k p1) p2)) p3) pos) (tRevL K te) := h ▸ pe_revL he
theorem op_eqDK (hu : X.A.units + 64 < cLine) (h : X.K = K) : OpR X (compareOp .Eq) (rEqD K) := h ▸ op_eqD hu
theorem pi_listK {l : Expr} {tl : TE} (h : X.K = K) (hl : PE X l tl) : PI X tg l (iList K tl) := h ▸ pi_list hl
theorem pi_tupK {l : Expr} {tl : TE} (h : X.K = K) (hl : PE X l tl) : PI X tg l (iTup K tl) := h ▸ pi_tup hl
theorem pi_seqK {l : Expr} {tl : TE} (h : X.K = K) (hl : PE X l tl) : PI X tg l (iSeq K tl) := h ▸ pi_seq hl
end
end EV
namespace EV
open PySem PySem.Spec PyProof.Rows L2
/-! ### enumerate of a tuple -/
theorem meets_enumT (l : Addr) (items : Array Value) (n : Nat) (dct : Option Addr) (sl : Array (Option Value)) :
    Meets (Builtin.«enumerate.__new__» ⟨[.type "enumerate", .ref l], []⟩) (fun _ R s => s.heap.get? l = some { cls := .type "tuple", dict := dct, data := .seq items n, slots := sl } ∧
      R (.ok (.ret (.ref (s.heap.push { cls := .type "tuple_iterator", data := .fields #[.ref l, .int 0 0] }).objs.size)))
        { s with heap := (s.heap.push { cls := .type "tuple_iterator", data := .fields #[.ref l, .int 0 0] }).push { cls := .type "enumerate", data := .fields #[.none, .bool false, .ref s.heap.objs.size, rawInt 0, .none, .none] } }) :=
  .of_wp fun prog w A R s h => by
    obtain ⟨hp, g, d, tk, os⟩ := s
    obtain ⟨hl, h⟩ := h
    have hsub := sub_enumerate
    have hT : Heap.IsTuple (Shared.heap ⟨hp, g, d, tk, os⟩) l items := ⟨_, hl, rfl, n, rfl⟩
    wp_walk using AutoSeq1.wpAny_loadPart' hl
    refine wpAny_stack_any fun st => wpAny_pure ?_
    split
    · rename_i c _ _ _ _ _
      cases (c == Value.type "enumerate") <;> (wp_walk using AutoSeq1.wpAny_loadPart' hl, wpAny_pyIter_tuple hT; exact ⟨_, rfl, h⟩)
    · wp_walk using AutoSeq1.wpAny_loadPart' hl, wpAny_pyIter_tuple hT
      exact ⟨_, rfl, h⟩
section
variable {prog : Program} {w : World} {A : Around} {E : Value → Shared → Prop} {s : Shared}
theorem call_enumT {l : Addr} {items : Array Value} {Q : Value → Shared → Prop} (hL : s.heap.IsTuple l items)
    (h : ∀ h', IsEnum h' (s.heap.objs.size + 1) s.heap.objs.size 0 .none → h'.IsTupleIter s.heap.objs.size l 0 → (∀ b o, s.heap.get? b = some o → h'.get? b = some o) → Q (.ref (s.heap.objs.size + 1)) { s with heap := h' }) :
    wpAny (model prog w) A (call (.type "enumerate") [.ref l]) Q E s := by
  obtain ⟨⟨c, dct, dt, sl⟩, hl, hc, n, hd⟩ := hL
  obtain rfl : c = .type "tuple" := hc
  obtain rfl : dt = .seq items n := hd
  have hz : (s.heap.push { cls := .type "tuple_iterator", data := .fields #[.ref l, .int 0 0] }).objs.size = s.heap.objs.size + 1 := Heap.size_push ..
  have he := Heap.get?_push_size (s.heap.push { cls := .type "tuple_iterator", data := .fields #[.ref l, .int 0 0] })
    (o := { cls := .type "enumerate", data := .fields #[.none, .bool false, .ref s.heap.objs.size, rawInt 0, .none, .none] }) rfl
  refine callType_new F.called_enumerate (by decide) (F.typeCall_enumerate_1 _) (F.newCall_enumerate_1 _) (fun obj => F.args_object_init_2 obj _) F.entry_enumerate_new (meets_enumT l items n dct sl) ⟨hl, ?_⟩
  rw [hz] at he ⊢
  exact ⟨⟨_, he, rfl⟩, h _ he ⟨_, Heap.get?_push_of_some _ (Heap.get?_push_size _ rfl), rfl, rfl⟩ fun b o x => Heap.get?_push_of_some _ (Heap.get?_push_of_some _ x)⟩
end
/-- the tuple at a, each item in a new pair -/
def IteT (K : PySem.W.Frag) (a : Addr) : It where
  go := fun i H => ∃ (xs : List V) (x : V), SqT K H a xs ∧ xs[i]? = some x
  yld := fun i H v H' => ∃ T x, v = .ref T ∧ H T = none ∧ H' = upd H T (.tup [.int (i : Nat), x]) ∧ ∀ xs, SqT K H a xs → xs[i]? = some x
  stop := fun i H => ∃ xs : List V, SqT K H a xs ∧ xs.length ≤ i
theorem turn_enumT {P : Program} {w : World} {K : PySem.W.Frag} {elts : List Expr} {kk : Nat} {tpos : Pos} (a e it : Addr) :
    Turn P w K (.Tuple elts kk tpos) (IteT K a) [e, it] e (fun i h => (∃ old, IsEnum h e it ((i : Nat) : Int) old) ∧ h.IsTupleIter it a i ∧ e ≠ it) where
  mem := List.mem_cons_self
  obj := fun i h st b hb => by
    obtain ⟨⟨old, he⟩, ⟨o, ho, hc, hd⟩, _⟩ := st
    rcases List.mem_cons.mp hb with z | z
    · subst z
      exact ⟨_, he, fun v q => nomatch q⟩
    · obtain rfl := List.mem_singleton.mp z
      exact ⟨o, ho, fun v q => by rw [hd] at q; cases q⟩
  keep := fun i h h' st k => by
    obtain ⟨⟨old, he⟩, hi, hne⟩ := st
    exact ⟨⟨old, k e (by simp) _ he⟩, hi.at fun o q => k it (by simp) o q, hne⟩
  item := by
    intro X hP hw hK hc i pins s σ H E I hf st hg
    subst hP hw hK
    obtain ⟨⟨old, he⟩, hit, hne⟩ := st
    obtain ⟨xs, x, hq, hx⟩ := hg
    obtain ⟨its, rv, p, hz⟩ := I.tuple hq
    obtain ⟨u, hu, ru⟩ := rv.get hx
    have hil : i < its.toArray.size := by
      rw [List.size_toArray]
      exact (List.getElem?_eq_some_iff.mp hu).1
    have ael : a ≠ e := fun z => by
      obtain ⟨o, ho, hco, _⟩ := p
      rw [z, he] at ho
      cases ho
      simp at hco
    have ait : a ≠ it := fun z => by
      obtain ⟨o, ho, hco, _⟩ := p
      obtain ⟨o2, ho2, hc2, _⟩ := hit
      rw [z, ho2] at ho
      cases ho
      rw [hc2] at hco
      simp at hco
    have D := Draws.tuple (prog := X.prog) (w := X.w) (A := X.A.in1) (I.ok.hd hc) it a ait its.toArray
    have hel : e < s.heap.objs.size := Heap.lt_size he
    have hitl : it < s.heap.objs.size := by
      obtain ⟨_, q, _⟩ := hit
      exact Heap.lt_size q
    refine wpAny_pyNext_enum_itemD D he ⟨hit, p⟩ hil hne (fun z => ?_) fun x' h' tk hx' ho hst' hT hsz hk => ?_
    · rcases List.mem_cons.mp z with z | z
      · exact hne z
      · exact ael (List.mem_singleton.mp z).symm
    have ex : x' = u := by
      have q : its.toArray[i]? = some x' := hx'
      have q2 : its.toArray[i]? = some u := by simpa using hu
      exact Option.some.inj (q.symm.trans q2)
    subst ex
    refine ⟨_, rfl, wpAny_letOwnedTupleGo_enum (s := { s with heap := h', toks := tk + 1 }) ho fun h'' he' sb => ?_⟩
    have hT2 : h''.get? s.heap.objs.size = some { cls := .type "tuple", data := .seq #[.int i tk, x'] } := (sb.2 _ (Nat.ne_of_gt hel)).trans hT
    have new : ObjOk X.prog X.w (upd H s.heap.objs.size (.tup [.int (i : Nat), x])) h'' s.heap.objs.size (.tup [.int (i : Nat), x]) :=
      ⟨(by decide : 2 ≤ sizeLine), [.int i tk, x'], .cons ⟨_, rfl⟩ (.cons ru .nil), ⟨_, hT2, rfl, _, rfl⟩⟩
    have I1 : Inv X pins σ (upd H s.heap.objs.size (.tup [.int (i : Nat), x])) { s with heap := h'', toks := tk + 1 } := by
      refine I.turnedNew (ch := [e, it]) (fun b ob hb q => ?_) hf (Nat.le_refl _) new
      have n1 : b ≠ e := fun z => hb (by simp [z])
      have n2 : b ≠ it := fun z => hb (by simp [z])
      exact (sb.2 b n1).trans (hk b ob n1 n2 q)
    refine ⟨.ref s.heap.objs.size, _, I1, rfl, ⟨_, x, rfl, I.hok.fresh (Nat.le_refl _), rfl, fun ys hy => ?_⟩, ⟨⟨x', ?_⟩, hst'.1.at fun o q => (sb.2 it (Ne.symm hne)).trans q, hne⟩, fun b hb => ?_⟩
    · rw [I.tuple_inj hy hq]
      exact hx
    · have e1 : ((i + 1 : Nat) : Int) = (i : Int) + 1 := by omega
      rw [e1]
      exact he'
    · have hb' : b < s.heap.objs.size := by
        rcases List.mem_cons.mp hb with z | z
        · rw [z]
          exact hel
        · rw [List.mem_singleton.mp z]
          exact hitl
      rw [upd_ne (Nat.ne_of_lt hb')]
      exact (hf b hb).1
  done := by
    intro X hP hw hK hc i pins s σ H E I hf st hg
    subst hP hw hK
    obtain ⟨⟨old, he⟩, hit, hne⟩ := st
    obtain ⟨xs, hq, hx⟩ := hg
    obtain ⟨its, rv, p, hz⟩ := I.tuple hq
    obtain ⟨f0, f1, f2, f3, f4, f5⟩ := hf it (by simp)
    have hl := rv.length
    have ait : a ≠ it := fun z => by
      obtain ⟨o, ho, hco, _⟩ := p
      obtain ⟨o2, ho2, hc2, _⟩ := hit
      rw [z, ho2] at ho
      cases ho
      rw [hc2] at hco
      simp at hco
    have hT : s.TypeIs (.ref e) "enumerate" := ⟨_, he, rfl⟩
    unfold pyNext
    refine wpAny_bind (wpAny_attempt (wpAny_callSpecial?_slot (name := Str.ofString "__next__") hT F.slot_enumerate_next (wpAny_call_entry F.slot_enumerate_next hT F.entry_enumerate_next ?_ (F.args_enumerate_next_1 _))))
    show wpAny _ _ (field (.ref e) 2 >>= _) _ _ _
    refine wpAny_bind (wpAny_field he rfl (x := .ref it) rfl ?_)
    refine wpAny_bind (wpAny_nextOf_tuple_end (I.ok.hd hc) hit p (by simp; omega) fun h' x he' hx' => ?_)
    obtain ⟨o, ho, hc'⟩ := hx'
    refine wpAny_bind (wpAny_isInstance (T := "StopIteration") (b := true) ⟨o, ho, hc'⟩ isSubtype_stop ?_)
    exact wpAny_pure ⟨rfl, I.turned (t' := s.toks) (fun b o hb q => he' b o hb q) f0 f1 f3 f4 f5⟩
  self := fun A i s Q E st h => by
    obtain ⟨⟨_, he⟩, _⟩ := st
    exact wpAny_pyIter_enum he h
theorem walk_enumT {K : PySem.W.Frag} {a : Addr} {xs : List V} : Walk (IteT K a) xs.length (fun H => SqT K H a xs) (YPair (fun i => some (.int (i : Nat))) (fun i => xs[i]?)) := by
  refine ⟨fun i _ hi q => ⟨xs, xs[i], q, by simp [hi]⟩, fun _ q => ⟨xs, q, Nat.le_refl _⟩, fun i H v H' _ q y => ?_⟩
  obtain ⟨T, x, h1, h2, h3, h4⟩ := y
  exact ⟨T, .int (i : Nat), x, h1, h2, h3, rfl, h4 xs q⟩
def iEnumS (K : PySem.W.Frag) (ta : TA) : TI := fun σ H R => ta σ H fun vs H1 => ∃ (a : Addr) (b : Bool) (xs : List V), vs = [.ref a] ∧ SqB b K H1 a xs ∧
  ∀ J, Walk J xs.length (fun H => SqB b K H a xs) (YPair (fun i => some (.int (i : Nat))) (fun i => xs[i]?)) → R J H1
/-- enumerate of a list or a tuple -/
theorem pi_enumA {X : Cx} {e : Expr} {ta : TA} {p pos tpos : Pos} {elts : List Expr} {kk : Nat} (hg : Gl X "enumerate") (hm : X.mg "enumerate" = none) (ha : PA X [e] ta)
    (hs : starEach [e] X.env = [(false, eval e X.env)] := by rfl) : PI X (.Tuple elts kk tpos) (.Call (.Name "enumerate" p) [e] [] pos) (iEnumS X.K ta) := by
  constructor
  intro pins s σ H R I h
  refine Call_ (ld_blt I hg hm boot_enumerate (PyProof.Rows.callWith_type1 (thn (ha.run pos pins s σ H _ I h) fun us s1 q1 => ?_) hs rfl))
  obtain ⟨vs, H1, I1, r1, a, b, xs, ex, hq, q⟩ := q1
  subst ex
  cases r1 with
  | cons r rr =>
    cases rr
    cases r
    have fresh : ∀ b, b ∈ [s1.heap.objs.size + 1, s1.heap.objs.size] → FpOk X pins H1 b := fun b hb => by
      have hle : s1.heap.objs.size ≤ b := by
        rcases List.mem_cons.mp hb with z | z
        · rw [z]
          exact Nat.le_succ _
        · rw [List.mem_singleton.mp z]
          exact Nat.le_refl _
      exact I1.fpOk hle (I1.hok.fresh hle)
    cases b with
    | true =>
      obtain ⟨its, rv, p', hz⟩ := I1.list (show SqL X.K H1 a xs from hq)
      refine call_enumerate_list p'.isList fun h' he hit hsz hk => wpAny_pyIter_enum he ?_
      exact ⟨s1.heap.objs.size + 1, [s1.heap.objs.size + 1, s1.heap.objs.size], _, _, H1, rfl, I1.kept (t' := s1.toks) hk, turn_enum a (s1.heap.objs.size + 1) s1.heap.objs.size, ⟨⟨.none, he⟩, hit, Nat.succ_ne_self _⟩, fresh, q _ walk_enum⟩
    | false =>
      obtain ⟨its, rv, p', hz⟩ := I1.tuple (show SqT X.K H1 a xs from hq)
      refine call_enumT (show s1.heap.IsTuple a its.toArray from p') fun h' he hit hk => wpAny_pyIter_enum he ?_
      exact ⟨s1.heap.objs.size + 1, [s1.heap.objs.size + 1, s1.heap.objs.size], _, _, H1, rfl, I1.kept (t' := s1.toks) hk, turn_enumT a (s1.heap.objs.size + 1) s1.heap.objs.size, ⟨⟨.none, he⟩, hit, Nat.succ_ne_self _⟩, fresh, q _ walk_enumT⟩
end EV

/-! The law's pen: what stays of the heap when it draws; lists of whole numbers; equal data. -/
namespace EV
open PySem PySem.Spec PyProof.Rows L2
open He (ga)

/-! ### what stays but the pens -/
def isPen : HO → Bool
  | .dK ((.inr x, _) :: _) => decide (x = "cells")
  | _ => false
/-- all that was tracked is as it was, but the pens -/
def Keep (H H' : Hp) : Prop := ∀ b o, isPen o = false → H b = some o → H' b = some o
theorem Keep.refl (H : Hp) : Keep H H := fun _ _ _ h => h
theorem Keep.trans {H H1 H2 : Hp} (a : Keep H H1) (b : Keep H1 H2) : Keep H H2 := fun c o n h => b c o n (a c o n h)
theorem Keep.of {H H' : Hp} (s : Same H H') : Keep H H' := fun b o _ h => s b o h
theorem Keep.rd {H H' : Hp} {a : Addr} {u : HO} (s : Keep H H') (n : isPen u = false) (h : Rd H a u) : Rd H' a u := by
  rcases h with h | ⟨o, h⟩
  · exact .inl (s a _ n h)
  · exact .inr ⟨o, s a _ rfl h⟩
theorem Keep.sql {K : PySem.W.Frag} {H H' : Hp} {a : Addr} {xs : List V} (s : Keep H H') (h : SqL K H a xs) : SqL K H' a xs := by
  rcases h with h | h
  · exact .inl (Keep.rd s rfl h)
  · exact .inr h
theorem Keep.sqt {K : PySem.W.Frag} {H H' : Hp} {a : Addr} {xs : List V} (s : Keep H H') (h : SqT K H a xs) : SqT K H' a xs := by
  rcases h with h | h
  · exact .inl (Keep.rd s rfl h)
  · exact .inr h
theorem Keep.sqb {b : Bool} {K : PySem.W.Frag} {H H' : Hp} {a : Addr} {xs : List V} (s : Keep H H') (h : SqB b K H a xs) : SqB b K H' a xs := by
  cases b
  · exact Keep.sqt s h
  · exact Keep.sql s h
/-- the pen's dict -/
abbrev penO (c : V) (a l : V) : HO := .dK [(.inr "cells", c), (.inr "at", a), (.inr "left", l)]
theorem none_of {H : Hp} {a b : Addr} {o : HO} (h : upd H a o b = none) : H b = none := by
  by_cases e : b = a
  · rw [e, upd_same] at h
    cases h
  · rw [upd_ne e] at h
    exact h
/-- a pen at p, its cells at c: at most n draws have been made -/
structure Pen (H : Hp) (p c : Addr) (n : Nat) : Prop where
  ex : ∃ (cells : List Int) (at_ left : Int), H p = some (penO (.ref c) (.int at_) (.int left)) ∧
    H c = some (.lst (cells.map V.int)) ∧ 0 ≤ at_ ∧ at_ ≤ n ∧ cells.length ≤ 63
section
variable {H H' : Hp} {p c l : Addr} {n m : Nat}
theorem Pen.mono (h : Pen H p c n) (l : n ≤ m) : Pen H p c m := by
  obtain ⟨cells, a, left, h1, h2, h3, h4, h5⟩ := h.ex
  exact ⟨cells, a, left, h1, h2, h3, by omega, h5⟩
theorem Pen.same (h : Pen H p c n) (s : Same H H') : Pen H' p c n := by
  obtain ⟨cells, a, left, h1, h2, h3, h4, h5⟩ := h.ex
  exact ⟨cells, a, left, s _ _ h1, s _ _ h2, h3, h4, h5⟩
theorem Pen.ne (h : Pen H p c n) (hl : H l = none) : l ≠ p ∧ l ≠ c := by
  obtain ⟨cells, a, left, h1, h2, h3, h4, h5⟩ := h.ex
  exact ⟨(ne_of_none h1 hl).symm, (ne_of_none h2 hl).symm⟩
/-- an object that is not the pen's is laid or changed -/
theorem Pen.put {o : HO} (h : Pen H p c n) (hl : l ≠ p ∧ l ≠ c) : Pen (upd H l o) p c n := by
  obtain ⟨cells, a, left, h1, h2, h3, h4, h5⟩ := h.ex
  exact ⟨cells, a, left, by rw [upd_ne hl.1.symm]; exact h1, by rw [upd_ne hl.2.symm]; exact h2, h3, h4, h5⟩
/-- an object that is not tracked, or one by its new state -/
theorem Keep.new {o : HO} (h : H l = none) : Keep H (upd H l o) := .of (Same.new h)
theorem Keep.put {o : HO} (s : Keep H H') (h : H l = none) : Keep H (upd H' l o) := fun b u n e => by
  rw [upd_ne (ne_of_none e h)]
  exact s b u n e
end
section
variable {H : Hp} {p : Addr} {c a l v : V}
theorem pen_cells (h : H p = some (penO c a l)) : DGet H p (.str "cells") (some c) := DGet.k (k := .inr "cells") h
theorem pen_at (h : H p = some (penO c a l)) : DGet H p (.str "at") (some a) := DGet.k (k := .inr "at") h
theorem pen_left (h : H p = some (penO c a l)) : DGet H p (.str "left") (some l) := DGet.k (k := .inr "left") h
theorem put_at (h : H p = some (penO c a l)) : DPut H p (.str "at") v (upd H p (penO c v l)) := DPut.k (k := .inr "at") h (by show 3 < sizeLine; decide)
theorem put_left (h : H p = some (penO c a l)) : DPut H p (.str "left") v (upd H p (penO c a v)) := DPut.k (k := .inr "left") h (by show 3 < sizeLine; decide)
/-- the pen is written anew -/
theorem Keep.pen {u : HO} (h : H p = some (penO c a l)) (hu : isPen u = true) : Keep H (upd H p u) := fun b o n e => by
  have q : b ≠ p := fun z => by
    rw [z, h] at e
    cases e
    cases n
  rw [upd_ne q]
  exact e
end
/-! ### the objects that a text holds -/
/-- these objects, at addresses that are not alike -/
structure Facts (l : List (Addr × HO)) (H : Hp) : Prop where
  at_ : ∀ x ∈ l, H x.1 = some x.2
  nd : (l.map Prod.fst).Nodup
namespace Facts
variable {l : List (Addr × HO)} {H H' : Hp} {p a : Addr} {o o' : HO}
theorem nil : Facts [] H := ⟨by simp, by simp⟩
theorem get (F : Facts l H) (i : Nat) (e : l[i]? = some (a, o)) : H a = some o := F.at_ (a, o) (List.mem_of_getElem? e)
theorem same (F : Facts l H) (s : Same H H') : Facts l H' := ⟨fun x hx => s _ _ (F.at_ x hx), F.nd⟩
theorem keep (F : Facts l H) (s : Keep H H') (n : l.all (fun x => !isPen x.2) = true) : Facts l H' := ⟨fun x hx => by
  refine s _ _ ?_ (F.at_ x hx)
  have := List.all_eq_true.mp n x hx
  simpa using this, F.nd⟩
theorem free (F : Facts l H) (hp : H p = none) : p ∉ l.map Prod.fst := fun m => by
  obtain ⟨x, hx, e⟩ := List.mem_map.mp m
  have := F.at_ x hx
  rw [e, hp] at this
  cases this
/-- one more, that a promise has told -/
theorem more (F : Facts l H) (F' : Facts l H') (hp : H p = none) (e : H' p = some o) : Facts ((p, o) :: l) H' :=
  ⟨fun x hx => by
    rcases List.mem_cons.mp hx with z | z
    · rw [z]
      exact e
    · exact F'.at_ x z, List.nodup_cons.mpr ⟨F.free hp, F.nd⟩⟩
theorem cons (F : Facts l H) (s : Same H H') (hp : H p = none) (e : H' p = some o) : Facts ((p, o) :: l) H' := F.more (F.same s) hp e
/-- one more, laid now -/
theorem new (F : Facts l H) (hp : H p = none) : Facts ((p, o) :: l) (upd H p o) := F.cons (Same.new hp) hp upd_same
/-- one of them is changed -/
theorem set (F : Facts l H) (i : Nat) (e : l[i]? = some (a, o)) : Facts (l.set i (a, o')) (upd H a o') := by
  have hi := (List.getElem?_eq_some_iff.mp e).1
  have ei := (List.getElem?_eq_some_iff.mp e).2
  refine ⟨fun x hx => ?_, ?_⟩
  · obtain ⟨j, hj, ej⟩ := List.mem_iff_getElem.mp hx
    rw [List.length_set] at hj
    by_cases h : i = j
    · subst h
      rw [List.getElem_set_self] at ej
      rw [← ej]
      exact upd_same
    · rw [List.getElem_set_ne h] at ej
      have hne : x.1 ≠ a := fun z => h (nd_ix F.nd (i := i) (j := j) (x := a) (by rw [List.getElem?_map, e]; rfl) (by rw [List.getElem?_map, List.getElem?_eq_getElem hj, ej, ← z]; rfl))
      rw [upd_ne hne]
      exact F.at_ x (by rw [← ej]; exact List.getElem_mem hj)
  · have q : (l.set i (a, o')).map Prod.fst = l.map Prod.fst := by
      apply List.ext_getElem (by simp)
      intro j h1 h2
      by_cases h : i = j
      · subst h
        simp [ei]
      · simp [List.getElem_set_ne h]
    rw [q]
    exact F.nd
/-- only some of them are asked -/
theorem sub {l' : List (Addr × HO)} (F : Facts l H) (h : l'.Sublist l) : Facts l' H := ⟨fun x hx => F.at_ x (h.subset hx), (h.map _).nodup F.nd⟩
end Facts
/-! ### equal data -/
theorem dp_ints {K : PySem.W.Frag} {H : Hp} : ∀ ns : List Int, DpAll K H (ns.map V.int) (ns.map PyData.int)
  | [] => .nil
  | n :: r => .cons (.int n) (dp_ints r)
theorem dp_lst {K : PySem.W.Frag} {H : Hp} {a : Addr} {ns : List Int} (h : SqL K H a (ns.map V.int)) : Dp K H (.ref a) (.list (ns.map PyData.int)) := .lst h (dp_ints ns)
theorem dp_tup {K : PySem.W.Frag} {H : Hp} {a : Addr} {ns : List Int} (h : SqT K H a (ns.map V.int)) : Dp K H (.ref a) (.tuple (ns.map PyData.int)) := .tup h (dp_ints ns)
theorem lay_ints : ∀ ns : List Int, PyData.canLayAll0 (ns.map PyData.int) = true
  | [] => by simp [PyData.canLayAll0]
  | n :: r => by
    rw [List.map_cons, PyData.canLayAll0, PyData.canLay0, lay_ints r]
    rfl
theorem depth_ints : ∀ ns : List Int, PyData.depthAll (ns.map PyData.int) ≤ 1
  | [] => by simp [PyData.depthAll]
  | n :: r => by
    have := depth_ints r
    simp only [List.map_cons, PyData.depthAll, PyData.depth]
    omega
theorem shaped_ints (ns : List Int) : SeqAt.shaped (.list (ns.map PyData.int)) = true := by
  have := depth_ints ns
  unfold SeqAt.shaped
  rw [PyData.canLay0, lay_ints, PyData.depth, Bool.true_and]
  exact decide_eq_true (by omega)
theorem eqv_same {d : PyData} (h : SeqAt.shaped d = true) : PyData.eqv d d = true := SeqAt.eqv_refl d (SeqAt.canLay_of_shaped h)
theorem dp_rowL {K : PySem.W.Frag} {H : Hp} {a : Addr} {f : List Nat} (h : SqL K H a (f.map vI)) : Dp K H (.ref a) (.list ((f.map Int.ofNat).map PyData.int)) := by
  rw [vI_map] at h
  exact dp_lst h
/-- x != y of equal data -/
theorem ne_data {K : PySem.W.Frag} {x y : V} {H : Hp} {Q : VK} {d : PyData} (hx : Dp K H x d) (hy : Dp K H y d) (hs : SeqAt.shaped d = true) (q : Q (.bl false) H) : rNeD K x y H Q :=
  ⟨d, d, hx, hy, hs, hs, by rw [eqv_same hs]; exact q⟩
theorem eq_data {K : PySem.W.Frag} {x y : V} {H : Hp} {Q : VK} {d : PyData} (hx : Dp K H x d) (hy : Dp K H y d) (hs : SeqAt.shaped d = true) (q : Q (.bl true) H) : rEqD K x y H Q :=
  ⟨d, d, hx, hy, hs, hs, by rw [eqv_same hs]; exact q⟩
theorem ne_ints {K : PySem.W.Frag} {a b : Addr} {H : Hp} {Q : VK} {ns : List Int} (hx : SqL K H a (ns.map V.int)) (hy : SqL K H b (ns.map V.int)) (q : Q (.bl false) H) : rNeD K (.ref a) (.ref b) H Q :=
  ne_data (dp_lst hx) (dp_lst hy) (shaped_ints ns) q
end EV

/-! Rearrangements as lists of naturals: plain mathematics. -/
namespace EV
/-- the naturals below the length, each once -/
structure IsRow (f : List Nat) : Prop where
  nd : f.Nodup
  lt : ∀ x ∈ f, x < f.length
def joinL (f g : List Nat) : List Nat := g.map fun j => f.getD j 0
def doneL {α : Type} (d : α) (f : List Nat) (t : List α) : List α := f.map fun j => t.getD j d
def invL (f : List Nat) : List Nat := (List.range f.length).map fun j => f.idxOf j
theorem joinL_len (f g : List Nat) : (joinL f g).length = g.length := List.length_map _
theorem doneL_len {α : Type} (d : α) (f : List Nat) (t : List α) : (doneL d f t).length = f.length := List.length_map _
theorem invL_len (f : List Nat) : (invL f).length = f.length := by simp [invL]
theorem joinL_get (f g : List Nat) {j : Nat} (h : j < g.length) : (joinL f g).getD j 0 = f.getD (g.getD j 0) 0 := by
  simp [joinL, List.getD_eq_getElem?_getD, h]
theorem doneL_get {α : Type} (d : α) (f : List Nat) (t : List α) {j : Nat} (h : j < f.length) : (doneL d f t).getD j d = t.getD (f.getD j 0) d := by
  simp [doneL, List.getD_eq_getElem?_getD, h]
theorem getD_lt {f : List Nat} (r : IsRow f) {j : Nat} (h : j < f.length) : f.getD j 0 < f.length := by
  have e : f.getD j 0 = f[j] := by simp [List.getD_eq_getElem?_getD, h]
  rw [e]
  exact r.lt _ (List.getElem_mem h)
/-- a list of naturals below n without doubles that is as long as n holds each -/
theorem full_mem {f : List Nat} (r : IsRow f) {x : Nat} (h : x < f.length) : x ∈ f := by
  by_cases m : x ∈ f
  · exact m
  · have l := List.Nodup.length_le_of_subset (l₁ := x :: f) (l₂ := List.range f.length) (List.nodup_cons.mpr ⟨m, r.nd⟩) fun y hy => by
      rcases List.mem_cons.mp hy with e | e
      · rw [e]
        exact List.mem_range.mpr h
      · exact List.mem_range.mpr (r.lt y e)
    rw [List.length_cons, List.length_range] at l
    omega
theorem IsRow.perm {f : List Nat} (r : IsRow f) : f.Perm (List.range f.length) :=
  (List.perm_ext_iff_of_nodup r.nd List.nodup_range).mpr fun x => ⟨fun h => List.mem_range.mpr (r.lt x h), fun h => full_mem r (List.mem_range.mp h)⟩
theorem IsRow.of_perm {f : List Nat} {n : Nat} (h : f.Perm (List.range n)) : IsRow f := by
  have hl : f.length = n := by simpa using h.length_eq
  refine ⟨h.nodup_iff.mpr List.nodup_range, fun x hx => ?_⟩
  have := List.mem_range.mp (h.mem_iff.mp hx)
  omega
theorem isRow_range (n : Nat) : IsRow (List.range n) := .of_perm (.refl _)
theorem idx_lt {f : List Nat} (r : IsRow f) {x : Nat} (h : x < f.length) : f.idxOf x < f.length := List.idxOf_lt_length_iff.mpr (full_mem r h)
theorem getD_idx {f : List Nat} (r : IsRow f) {x : Nat} (h : x < f.length) : f.getD (f.idxOf x) 0 = x := by
  have hl := idx_lt r h
  simp [List.getD_eq_getElem?_getD, hl]
theorem idx_getD {f : List Nat} (r : IsRow f) {j : Nat} (h : j < f.length) : f.idxOf (f.getD j 0) = j := by
  have e : f.getD j 0 = f[j] := by simp [List.getD_eq_getElem?_getD, h]
  rw [e]
  exact List.Nodup.idxOf_getElem r.nd j h
theorem ext_getD {f g : List Nat} (h : f.length = g.length) (e : ∀ j, j < f.length → f.getD j 0 = g.getD j 0) : f = g := by
  apply List.ext_getElem h
  intro j h1 h2
  have := e j h1
  simpa [List.getD_eq_getElem?_getD, h1, h2] using this
theorem ext_getDA {α : Type} (d : α) {f g : List α} (h : f.length = g.length) (e : ∀ j, j < f.length → f.getD j d = g.getD j d) : f = g := by
  apply List.ext_getElem h
  intro j h1 h2
  have := e j h1
  simpa [List.getD_eq_getElem?_getD, h1, h2] using this
theorem getD_range {n j : Nat} (h : j < n) : (List.range n).getD j 0 = j := by simp [List.getD_eq_getElem?_getD, h]
theorem invL_get {f : List Nat} {j : Nat} (h : j < f.length) : (invL f).getD j 0 = f.idxOf j := by
  simp [invL, List.getD_eq_getElem?_getD, h]
theorem isRow_inj {f : List Nat} (h1 : ∀ x ∈ f, x < f.length) (h2 : ∀ i j, i < f.length → j < f.length → f.getD i 0 = f.getD j 0 → i = j) : IsRow f := by
  refine ⟨?_, h1⟩
  rw [List.nodup_iff_pairwise_ne] <;> try skip
  rw [List.pairwise_iff_getElem]
  intro i j hi hj hij e
  have := h2 i j hi hj (by simpa [List.getD_eq_getElem?_getD, hi, hj] using e)
  omega
theorem getD_inj {f : List Nat} (r : IsRow f) {i j : Nat} (hi : i < f.length) (hj : j < f.length) (e : f.getD i 0 = f.getD j 0) : i = j := by
  rw [← idx_getD r hi, e, idx_getD r hj]
theorem isRow_join {f g : List Nat} (rf : IsRow f) (rg : IsRow g) (h : f.length = g.length) : IsRow (joinL f g) := by
  refine isRow_inj (fun x hx => ?_) fun i j hi hj e => ?_
  · obtain ⟨y, hy, rfl⟩ := List.mem_map.mp hx
    rw [joinL_len, ← h]
    exact getD_lt rf (by rw [h]; exact rg.lt y hy)
  · rw [joinL_len] at hi hj
    rw [joinL_get f g hi, joinL_get f g hj] at e
    exact getD_inj rg hi hj (getD_inj rf (by rw [h]; exact getD_lt rg hi) (by rw [h]; exact getD_lt rg hj) e)
theorem isRow_inv {f : List Nat} (r : IsRow f) : IsRow (invL f) := by
  refine isRow_inj (fun x hx => ?_) fun i j hi hj e => ?_
  · obtain ⟨y, hy, rfl⟩ := List.mem_map.mp hx
    rw [invL_len]
    exact idx_lt r (List.mem_range.mp hy)
  · rw [invL_len] at hi hj
    rw [invL_get hi, invL_get hj] at e
    rw [← getD_idx r hi, e, getD_idx r hj]
theorem join_inv {f : List Nat} (r : IsRow f) : joinL f (invL f) = List.range f.length := by
  refine ext_getD (by rw [joinL_len, invL_len, List.length_range]) fun j hj => ?_
  rw [joinL_len, invL_len] at hj
  rw [joinL_get f _ (by rw [invL_len]; exact hj), invL_get hj, getD_idx r hj, getD_range hj]
theorem inv_join {f : List Nat} (r : IsRow f) : joinL (invL f) f = List.range f.length := by
  refine ext_getD (by rw [joinL_len, List.length_range]) fun j hj => ?_
  rw [joinL_len] at hj
  rw [joinL_get _ f hj, invL_get (getD_lt r hj), idx_getD r hj, getD_range hj]
theorem done_join {α : Type} (d : α) {f g : List Nat} (rg : IsRow g) (h : f.length = g.length) (t : List α) : doneL d (joinL f g) t = doneL d g (doneL d f t) := by
  refine ext_getDA d (by rw [doneL_len, doneL_len, joinL_len]) fun j hj => ?_
  rw [doneL_len, joinL_len] at hj
  rw [doneL_get d _ t (by rw [joinL_len]; exact hj), joinL_get f g hj, doneL_get d g _ hj, doneL_get d f t (by rw [h]; exact getD_lt rg hj)]
theorem done_range {α : Type} (d : α) (t : List α) : doneL d (List.range t.length) t = t := by
  refine ext_getDA d (by rw [doneL_len, List.length_range]) fun j hj => ?_
  rw [doneL_len, List.length_range] at hj
  rw [doneL_get d _ t (by rw [List.length_range]; exact hj), getD_range hj]
theorem done_back {α : Type} (d : α) {f : List Nat} (r : IsRow f) {t : List α} (h : t.length = f.length) : doneL d (invL f) (doneL d f t) = t := by
  rw [← done_join d (isRow_inv r) (invL_len f).symm, join_inv r, ← h, done_range]
theorem done_on {α : Type} (d : α) {f : List Nat} (r : IsRow f) {t : List α} (h : t.length = f.length) : doneL d f (doneL d (invL f) t) = t := by
  rw [← done_join d r (invL_len f), inv_join r, ← h, done_range]
theorem isRow_snoc {f : List Nat} (r : IsRow f) : IsRow (f ++ [f.length]) := by
  refine ⟨?_, fun x hx => ?_⟩
  · rw [List.nodup_append]
    refine ⟨r.nd, by simp, fun a ha b hb => ?_⟩
    have e : b = f.length := by simpa using hb
    have := r.lt a ha
    omega
  · rw [List.length_append]
    rcases List.mem_append.mp hx with h | h
    · have := r.lt x h
      simp
      omega
    · have e : x = f.length := by simpa using h
      simp [e]
theorem done_snoc {α : Type} (d y : α) {f : List Nat} (r : IsRow f) {t : List α} (h : t.length = f.length) : doneL d (f ++ [f.length]) (t ++ [y]) = doneL d f t ++ [y] := by
  unfold doneL
  rw [List.map_append]
  congr 1
  · apply List.map_congr_left
    intro x hx
    have := r.lt x hx
    have hx' : x < t.length := by omega
    simp [List.getD_eq_getElem?_getD, List.getElem?_append, hx']
  · simp [List.getD_eq_getElem?_getD, ← h]
theorem cons_erase {α : Type} {l : List α} {i : Nat} (h : i < l.length) : (([l[i]] : List α) ++ l.eraseIdx i).Perm l := by
  induction l generalizing i with
  | nil => simp at h
  | cons a r ih =>
    cases i with
    | zero => simp
    | succ i =>
      have h' : i < r.length := by simpa using h
      simp only [List.getElem_cons_succ, List.eraseIdx_cons_succ]
      exact (List.Perm.swap a r[i] _).trans ((ih h').cons a)
theorem getElem?_vI {f : List Nat} {j : Nat} (h : j < f.length) : (f.map vI)[j]? = some (vI (f.getD j 0)) := by
  rw [List.getElem?_map, List.getD_eq_getElem?_getD, List.getElem?_eq_getElem h]
  rfl
theorem getD_set_ne {g : List Nat} {n k x : Nat} (h : k ≠ n) : (g.set n x).getD k 0 = g.getD k 0 := by
  simp [List.getD_eq_getElem?_getD, List.getElem?_set, Ne.symm h]
theorem doneL_at {α : Type} {d : α} {f : List Nat} {t : List α} {i j : Nat} (h : f[i]? = some j) (hj : j < t.length) : (doneL d f t)[i]? = some t[j] := by
  simp [doneL, h, List.getD_eq_getElem?_getD, hj]
/-! ### rows in the heap -/
open PySem PySem.Spec PyProof.Rows L2
/-- [a[x] for x in row] -/
theorem lc_index {J : It} {G : Hp → Prop} {K : PySem.W.Frag} {f : List Nat} (wk : Walk J (f.map vI).length G (YAt (f.map vI))) {ia k : Nat} {vs : List Nat} {σ : L2.St} {H1 : Hp} {D : Addr} {Qd : Hp → Prop} {a : Addr} {b : Bool} {xs : List V}
    (hD : H1 D = none) (hG : ∀ H, Same H1 H → G H) (ha : SqB b K H1 a xs) (hlt : ∀ x ∈ f, x < xs.length) (hz : f.length ≤ 100000)
    (h1 : ∀ x, ((wipe σ vs).set k (some x))[ia]? = some (some (.ref a))) (h2 : ∀ x, ((wipe σ vs).set k (some x))[k]? = some (some x)) (h3 : ∀ x, wipe ((wipe σ vs).set k (some x)) vs = wipe σ vs)
    (hd : ∀ H, Same H1 H → H D = some (.lst (doneL .non f xs)) → Qd H) :
    ∃ W : Nat → Nat → Hp → Prop, (∃ m, W 0 m (upd H1 D (.lst []))) ∧ ∀ i m H, W i m H →
      (J.stop i H ∧ Qd H) ∨ (J.go i H ∧ ∃ Nx : Hp → Prop, (∀ H', Nx H' → ∃ m', m' < m ∧ W (i + 1) m' H') ∧ ∀ x H', J.yld i H x H' → gName k x (wipe σ vs) H' fun σ2 H2 => wipe σ2 vs = wipe σ vs ∧ tYes σ2 H2 fun b H3 =>
        if b = true then tOp (rIx K) (tVar ia) (tVar k) σ2 H3 fun y H4 => ∃ acc, H4 D = some (.lst acc) ∧ acc.length < sizeLine ∧ Nx (upd H4 D (.lst (acc ++ [y]))) else Nx H3) := by
  refine lc_map wk (doneL .non f xs) (by rw [doneL_len, List.length_map]) hD hG ?_ hd
  rintro i x H' _ hi s3 pv ⟨rfl, ex⟩
  rw [List.length_map] at hi
  rw [List.getElem?_map] at ex
  obtain ⟨j, hj, rfl⟩ := Option.map_eq_some_iff.mp ex
  have jlt : j < xs.length := hlt j (List.mem_of_getElem? hj)
  refine ⟨h3 _, yes_if ⟨_, h1 _, _, h2 _, rix (Same.sqb s3 ha) rfl (List.getElem?_eq_getElem jlt) (pvM_turn hD (by rw [doneL_len]; omega) pv (.refl _) ?_)⟩⟩
  exact doneL_at hj jlt
/-- whole numbers only -/
def IntL (xs : List V) : Prop := ∃ ns : List Int, xs = ns.map V.int
theorem intL_map (ns : List Int) : IntL (ns.map V.int) := ⟨ns, rfl⟩
theorem intL_vI (f : List Nat) : IntL (f.map vI) := ⟨f.map Int.ofNat, vI_map f⟩
theorem IntL.mem {xs : List V} (h : IntL xs) {x : V} (m : x ∈ xs) : ∃ i, x = .int i := by
  obtain ⟨ns, rfl⟩ := h
  obtain ⟨i, _, e⟩ := List.mem_map.mp m
  exact ⟨i, e.symm⟩
theorem IntL.of {xs : List V} (h : ∀ x ∈ xs, ∃ i, x = .int i) : IntL xs := by
  refine ⟨xs.map fun x => match x with | .int i => i | _ => 0, ?_⟩
  rw [List.map_map]
  refine ((List.map_congr_left fun x hx => ?_).trans (List.map_id xs)).symm
  obtain ⟨i, rfl⟩ := h x hx
  rfl
theorem IntL.app {xs ys : List V} (h : IntL xs) (h2 : IntL ys) : IntL (xs ++ ys) := by
  obtain ⟨a, rfl⟩ := h
  obtain ⟨b, rfl⟩ := h2
  exact ⟨a ++ b, by simp⟩
theorem IntL.done {xs : List V} {f : List Nat} (h : IntL xs) (hlt : ∀ x ∈ f, x < xs.length) : IntL (doneL .non f xs) := .of fun x hx => by
  obtain ⟨j, hj, rfl⟩ := List.mem_map.mp hx
  rw [List.getD_eq_getElem?_getD, List.getElem?_eq_getElem (hlt j hj)]
  exact h.mem (List.getElem_mem _)
/-- x != y, x == y of equal lists of whole numbers -/
theorem ne_same {K : PySem.W.Frag} {a b : Addr} {H : Hp} {Q : VK} {xs ys : List V} (hx : SqL K H a xs) (hy : SqL K H b ys) (e : xs = ys) (hi : IntL xs) (q : Q (.bl false) H) : rNeD K (.ref a) (.ref b) H Q := by
  subst e
  obtain ⟨ns, rfl⟩ := hi
  exact ne_ints hx hy q
theorem ne_sameR {K : PySem.W.Frag} {a b : Addr} {H : Hp} {Q : VK} {xs ys : List V} (hx : SqL K H a xs) (hy : SqL K H b ys) (e : xs = ys) (hi : IntL ys) (q : Q (.bl false) H) : rNeD K (.ref a) (.ref b) H Q :=
  ne_same hx hy e (e ▸ hi) q
theorem eq_same {K : PySem.W.Frag} {a b : Addr} {H : Hp} {Q : VK} {xs ys : List V} (hx : SqL K H a xs) (hy : SqL K H b ys) (e : xs = ys) (hi : IntL xs) (q : Q (.bl true) H) : rEqD K (.ref a) (.ref b) H Q := by
  subst e
  obtain ⟨ns, rfl⟩ := hi
  exact eq_data (dp_lst hx) (dp_lst hy) (shaped_ints ns) q
theorem doneL_join {f g : List Nat} (h : ∀ x ∈ g, x < f.length) : doneL V.non g (f.map vI) = (joinL f g).map vI := by
  unfold doneL joinL
  rw [List.map_map]
  apply List.map_congr_left
  intro x hx
  show (f.map vI).getD x .non = vI (f.getD x 0)
  rw [List.getD_eq_getElem?_getD, getElem?_vI (h x hx)]
  rfl
theorem cut_take (xs : List V) (k : Nat) : cutV xs none (some (k : Int)) = xs.take k := by
  have e1 : HT.sIx xs.length xs.length (some (k : Int)) = min k xs.length := HT.sIx_nat _ _ k
  unfold cutV
  rw [HT.sIx_none, e1, List.drop_zero, Nat.sub_zero, List.take_eq_take_iff]
  omega
theorem filterMap_count {α β : Type} (q : α → Bool) (g : α → β) (l : List α) : (l.filterMap fun n => if q n = true then some (g n) else none).length = l.countP q := by
  induction l with
  | nil => rfl
  | cons a r ih =>
    cases h : q a <;> simp [h, ih, List.countP_cons]
theorem cut_drop (xs : List V) (k : Nat) : cutV xs (some (k : Int)) none = xs.drop k := by
  have e1 : HT.sIx xs.length 0 (some (k : Int)) = min k xs.length := HT.sIx_nat _ _ k
  unfold cutV
  rw [HT.sIx_none, e1]
  rcases Nat.le_total k xs.length with h | h
  · rw [Nat.min_eq_left h, List.take_of_length_le (by rw [List.length_drop]; exact Nat.le_refl _)]
  · rw [Nat.min_eq_right h, List.drop_of_length_le h, List.drop_length]
    simp
def RetT (xs : List V) (H : Hp) (Q : VK) : Prop := ∀ p H', Same H H' → H p = none → H' p = some (.tup xs) → Q (.ref p) H'
theorem ints_vI (f : List Nat) : f.map vI = (f.map Int.ofNat).map V.int := vI_map f
end EV

/-! The rings of a rearrangement, done again and again, and its parity: plain mathematics. -/
namespace EV
/-- k times on from p -/
def it (f : List Nat) : Nat → Nat → Nat
  | 0, p => p
  | k + 1, p => f.getD (it f k p) 0
theorem it_zero (f : List Nat) (p : Nat) : it f 0 p = p := rfl
theorem it_succ (f : List Nat) (k p : Nat) : it f (k + 1) p = f.getD (it f k p) 0 := rfl
theorem it_lt {f : List Nat} (r : IsRow f) {p : Nat} (h : p < f.length) : ∀ k, it f k p < f.length
  | 0 => h
  | k + 1 => getD_lt r (it_lt r h k)
theorem it_add (f : List Nat) (b p : Nat) : ∀ a, it f (a + b) p = it f a (it f b p)
  | 0 => by rw [Nat.zero_add]; rfl
  | a + 1 => by
    rw [Nat.add_right_comm, it_succ, it_succ, it_add f b p a]
theorem it_inj {f : List Nat} (r : IsRow f) {p q : Nat} (hp : p < f.length) (hq : q < f.length) : ∀ k, it f k p = it f k q → p = q
  | 0, e => e
  | k + 1, e => it_inj r hp hq k (getD_inj r (it_lt r hp k) (it_lt r hq k) e)
theorem it_back {f : List Nat} (r : IsRow f) {p : Nat} (hp : p < f.length) {i j : Nat} (h : i ≤ j) (e : it f i p = it f j p) : it f (j - i) p = p := by
  have q : j = i + (j - i) := by omega
  rw [q, it_add] at e
  exact (it_inj r hp (it_lt r hp _) i e).symm
theorem it_ret {f : List Nat} (r : IsRow f) {p : Nat} (hp : p < f.length) : ∃ k, k < f.length ∧ it f (k + 1) p = p := by
  have hn : ¬ ((List.range (f.length + 1)).map fun k => it f k p).Nodup := fun nd => by
    have := List.Nodup.length_le_of_subset (l₂ := List.range f.length) nd fun x hx => by
      obtain ⟨k, _, rfl⟩ := List.mem_map.mp hx
      exact List.mem_range.mpr (it_lt r hp k)
    rw [List.length_map, List.length_range, List.length_range] at this
    omega
  have : ∃ i j, i < j ∧ j ≤ f.length ∧ it f i p = it f j p := by
    refine Classical.byContradiction fun hc => hn ?_
    rw [List.nodup_iff_pairwise_ne, List.pairwise_map, List.pairwise_iff_getElem]
    intro i j hi hj hij e
    rw [List.length_range] at hi hj
    rw [List.getElem_range, List.getElem_range] at e
    exact hc ⟨i, j, hij, by omega, e⟩
  obtain ⟨i, j, h1, h2, e⟩ := this
  refine ⟨j - i - 1, by omega, ?_⟩
  rw [show j - i - 1 + 1 = j - i by omega]
  exact it_back r hp (by omega) e
/-- the length of the ring of p -/
def per (f : List Nat) (p : Nat) : Nat := ((List.range f.length).find? fun k => it f (k + 1) p == p).getD 0 + 1
theorem per_pos (f : List Nat) (p : Nat) : 0 < per f p := Nat.succ_pos _
theorem per_ex {f : List Nat} (r : IsRow f) {p : Nat} (hp : p < f.length) : per f p ≤ f.length ∧ it f (per f p) p = p ∧ ∀ k, 0 < k → k < per f p → it f k p ≠ p := by
  obtain ⟨k0, hk0, e0⟩ := it_ret r hp
  cases q : (List.range f.length).find? fun k => it f (k + 1) p == p with
  | none =>
    have := List.find?_eq_none.mp q k0 (List.mem_range.mpr hk0)
    simp [e0] at this
  | some k =>
    have e : per f p = k + 1 := by
      unfold per
      rw [q]
      rfl
    rw [e]
    have h1 := List.find?_some q
    have h2 := List.mem_range.mp (List.mem_of_find?_eq_some q)
    refine ⟨h2, by simpa using h1, fun j j0 jk ej => ?_⟩
    rw [List.find?_eq_some_iff_append] at q
    obtain ⟨_, as, bs, eq, ha⟩ := q
    have hl : as.length = k := by
      have h3 : (List.range f.length)[as.length]? = some k := by rw [eq]; simp
      rw [List.getElem?_range (by
        have := congrArg List.length eq
        simp at this
        omega)] at h3
      exact Option.some.inj h3
    have hm : j - 1 ∈ as := by
      have h3 : (List.range f.length)[j - 1]? = some (j - 1) := List.getElem?_range (by omega)
      rw [eq, List.getElem?_append_left (by omega)] at h3
      exact List.mem_of_getElem? h3
    have := ha _ hm
    rw [show j - 1 + 1 = j by omega, ej] at this
    simp at this
theorem per_le {f : List Nat} (r : IsRow f) {p : Nat} (hp : p < f.length) : per f p ≤ f.length := (per_ex r hp).1
theorem it_per {f : List Nat} (r : IsRow f) {p : Nat} (hp : p < f.length) : it f (per f p) p = p := (per_ex r hp).2.1
theorem per_min {f : List Nat} (r : IsRow f) {p k : Nat} (hp : p < f.length) (h0 : 0 < k) (h : k < per f p) : it f k p ≠ p := (per_ex r hp).2.2 k h0 h
theorem it_mul {f : List Nat} (r : IsRow f) {p : Nat} (hp : p < f.length) : ∀ k, it f (per f p * k) p = p
  | 0 => rfl
  | k + 1 => by rw [Nat.mul_succ, it_add, it_per r hp, it_mul r hp k]
theorem it_mod {f : List Nat} (r : IsRow f) {p : Nat} (hp : p < f.length) (k : Nat) : it f (k % per f p) p = it f k p := by
  have e := Nat.mod_add_div k (per f p)
  have q : it f (k % per f p + per f p * (k / per f p)) p = it f k p := by rw [e]
  rw [it_add, it_mul r hp] at q
  exact q
theorem it_inj2 {f : List Nat} (r : IsRow f) {p i j : Nat} (hp : p < f.length) (hi : i < per f p) (hj : j < per f p) (e : it f i p = it f j p) : i = j := by
  rcases Nat.lt_trichotomy i j with h | h | h
  · exact absurd (it_back r hp (Nat.le_of_lt h) e) (per_min r hp (by omega) (by omega))
  · exact h
  · exact absurd (it_back r hp (Nat.le_of_lt h) e.symm) (per_min r hp (by omega) (by omega))
theorem it_dvd {f : List Nat} (r : IsRow f) {p k : Nat} (hp : p < f.length) (e : it f k p = p) : k % per f p = 0 := by
  rw [← it_mod r hp] at e
  have h := Nat.mod_lt k (per_pos f p)
  exact it_inj2 r hp h (per_pos f p) e
theorem per_it {f : List Nat} (r : IsRow f) {p : Nat} (hp : p < f.length) (k : Nat) : per f (it f k p) = per f p := by
  have hq := it_lt r hp k
  have a1 : it f (per f p) (it f k p) = it f k p := by rw [← it_add, Nat.add_comm, it_add, it_per r hp]
  have a2 : it f (per f (it f k p)) p = p := by
    have e := it_per r hq
    rw [← it_add, Nat.add_comm, it_add] at e
    exact it_inj r (it_lt r hp _) hp k e
  have b1 := it_dvd r hq a1
  have b2 := it_dvd r hp a2
  have c1 := per_pos f p
  have c2 := per_pos f (it f k p)
  have d1 := Nat.dvd_of_mod_eq_zero b1
  have d2 := Nat.dvd_of_mod_eq_zero b2
  exact Nat.dvd_antisymm d1 d2
/-- the ring of p -/
def ringL (f : List Nat) (p : Nat) : List Nat := (List.range (per f p)).map fun k => it f k p
theorem ringL_len (f : List Nat) (p : Nat) : (ringL f p).length = per f p := by simp [ringL]
theorem ringL_get {f : List Nat} {p k : Nat} (h : k < per f p) : (ringL f p)[k]? = some (it f k p) := by
  simp [ringL, h]
theorem mem_ringL {f : List Nat} (r : IsRow f) {p x : Nat} (hp : p < f.length) : x ∈ ringL f p ↔ ∃ k, x = it f k p := by
  constructor
  · intro h
    obtain ⟨k, _, e⟩ := List.mem_map.mp h
    exact ⟨k, e.symm⟩
  · rintro ⟨k, rfl⟩
    exact List.mem_map.mpr ⟨k % per f p, List.mem_range.mpr (Nat.mod_lt _ (per_pos f p)), it_mod r hp k⟩
theorem self_ringL (f : List Nat) (p : Nat) : p ∈ ringL f p := List.mem_map.mpr ⟨0, List.mem_range.mpr (per_pos f p), rfl⟩
theorem ringL_lt {f : List Nat} (r : IsRow f) {p x : Nat} (hp : p < f.length) (h : x ∈ ringL f p) : x < f.length := by
  obtain ⟨k, rfl⟩ := (mem_ringL r hp).mp h
  exact it_lt r hp k
theorem ringL_symm {f : List Nat} (r : IsRow f) {p x : Nat} (hp : p < f.length) (h : x ∈ ringL f p) : p ∈ ringL f x := by
  have hx := ringL_lt r hp h
  obtain ⟨k, hk, rfl⟩ := List.mem_map.mp h
  have hk := List.mem_range.mp hk
  refine (mem_ringL r hx).mpr ⟨per f p - k, ?_⟩
  rw [← it_add, show per f p - k + k = per f p by omega, it_per r hp]
theorem ringL_trans {f : List Nat} (r : IsRow f) {p x y : Nat} (hp : p < f.length) (h : x ∈ ringL f p) (h2 : y ∈ ringL f x) : y ∈ ringL f p := by
  have hx := ringL_lt r hp h
  obtain ⟨k, rfl⟩ := (mem_ringL r hp).mp h
  obtain ⟨j, rfl⟩ := (mem_ringL r hx).mp h2
  exact (mem_ringL r hp).mpr ⟨j + k, (it_add f k p j).symm⟩
/-- p is the least place of its ring -/
def lead (f : List Nat) (p : Nat) : Bool := (ringL f p).all fun x => decide (p ≤ x)
theorem lead_iff {f : List Nat} {p : Nat} : lead f p = true ↔ ∀ x ∈ ringL f p, p ≤ x := by simp [lead]
/-- x's ring has a place below y -/
def seenB (f : List Nat) (y x : Nat) : Prop := ∃ z, z < y ∧ x ∈ ringL f z
theorem lead_seen {f : List Nat} (r : IsRow f) {p : Nat} (hp : p < f.length) : lead f p = true ↔ ¬ seenB f p p := by
  rw [lead_iff]
  constructor
  · rintro h ⟨z, hz, m⟩
    have := h z (ringL_symm r (by omega) m)
    omega
  · intro h x hx
    refine Classical.byContradiction fun c => h ⟨x, by omega, ringL_symm r hp hx⟩
theorem seenB_succ {f : List Nat} {y x : Nat} : seenB f (y + 1) x ↔ seenB f y x ∨ x ∈ ringL f y := by
  constructor
  · rintro ⟨z, hz, m⟩
    rcases Nat.lt_or_ge z y with h | h
    · exact .inl ⟨z, h, m⟩
    · have e : z = y := by omega
      exact .inr (e ▸ m)
  · rintro (⟨z, hz, m⟩ | m)
    · exact ⟨z, by omega, m⟩
    · exact ⟨y, by omega, m⟩
theorem seenB_ring {f : List Nat} (r : IsRow f) {y x p : Nat} (hy : y ≤ f.length) (h : seenB f y p) (m : x ∈ ringL f p) : seenB f y x := by
  obtain ⟨z, hz, q⟩ := h
  exact ⟨z, hz, ringL_trans r (by omega) q m⟩
/-- the rings, each from its least place on, those whose least place is below i -/
def ringsTo (f : List Nat) (i : Nat) : List (List Nat) := ((List.range i).filter (lead f)).map (ringL f)
abbrev ringsL (f : List Nat) : List (List Nat) := ringsTo f f.length
theorem ringsTo_lead {f : List Nat} {i : Nat} (h : lead f i = true) : ringsTo f (i + 1) = ringsTo f i ++ [ringL f i] := by
  simp [ringsTo, List.range_succ, h]
theorem ringsTo_not {f : List Nat} {i : Nat} (h : lead f i = false) : ringsTo f (i + 1) = ringsTo f i := by
  simp [ringsTo, List.range_succ, h]
/-- each place is in the ring of a least place -/
theorem lead_ex {f : List Nat} (r : IsRow f) {x : Nat} (hx : x < f.length) : ∃ p, p < f.length ∧ lead f p = true ∧ x ∈ ringL f p := by
  have : ∀ n p, p < n → p < f.length → x ∈ ringL f p → ∃ p, p < f.length ∧ lead f p = true ∧ x ∈ ringL f p := by
    intro n
    induction n with
    | zero => intro p h; omega
    | succ n ih =>
      intro p h hp m
      cases q : lead f p with
      | true => exact ⟨p, hp, q, m⟩
      | false =>
        have : seenB f p p := Classical.byContradiction fun c => by
          rw [(lead_seen r hp).mpr c] at q
          cases q
        obtain ⟨z, hz, mz⟩ := this
        exact ih z (by omega) (by omega) (ringL_trans r (by omega) mz m)
  exact this (x + 1) x (by omega) hx (self_ringL f x)
/-! ### done many times -/
/-- what x's place becomes by z times -/
def pw (f : List Nat) (z : Int) (x : Nat) : Nat := it f (z.emod (per f x)).toNat x
def powL (f : List Nat) (z : Int) : List Nat := (List.range f.length).map (pw f z)
theorem pw_lt {f : List Nat} (r : IsRow f) {x : Nat} (h : x < f.length) (z : Int) : pw f z x < f.length := it_lt r h _
theorem powL_len (f : List Nat) (z : Int) : (powL f z).length = f.length := by simp [powL]
theorem powL_get {f : List Nat} {z : Int} {x : Nat} (h : x < f.length) : (powL f z).getD x 0 = pw f z x := by
  simp [powL, List.getD_eq_getElem?_getD, h]
theorem emod_per {f : List Nat} {x : Nat} (z : Int) : 0 ≤ z.emod (per f x) ∧ z.emod (per f x) < per f x :=
  ⟨Int.emod_nonneg _ (by have := per_pos f x; omega), Int.emod_lt_of_pos _ (by have := per_pos f x; omega)⟩
theorem pw_nat {f : List Nat} (r : IsRow f) {x : Nat} (h : x < f.length) (k : Nat) : pw f k x = it f k x := by
  unfold pw
  have e : ((k : Int).emod (per f x)).toNat = k % per f x := by
    show (((k : Int) % ((per f x : Nat) : Int))).toNat = _
    rw [← Int.natCast_emod]
    rfl
  rw [e, it_mod r h]
/-- a times the places of z more -/
theorem it_pw {f : List Nat} (r : IsRow f) {x : Nat} (h : x < f.length) (k : Nat) (z : Int) : it f k (pw f z x) = pw f (z + k) x := by
  unfold pw
  have b := emod_per (f := f) (x := x) z
  rw [← it_add, ← it_mod r h]
  congr 1
  have hp := per_pos f x
  have e : ((z + k).emod (per f x)).toNat = ((z.emod (per f x)).toNat + k) % per f x := by
    have q : (z + k).emod (per f x) = ((((z.emod (per f x)).toNat + k) % per f x : Nat) : Int) := by
      rw [Int.natCast_emod]
      show (z + k) % (per f x : Int) = _
      rw [Int.natCast_add, Int.toNat_of_nonneg b.1]
      show _ = (z % (per f x : Int) + k) % (per f x : Int)
      rw [Int.emod_add_emod]
    rw [q]
    rfl
  rw [e, Nat.add_comm]
theorem pw_zero {f : List Nat} (x : Nat) : pw f 0 x = x := by
  unfold pw
  have e : ((0 : Int).emod (per f x)).toNat = 0 := by
    show ((0 : Int) % (per f x : Int)).toNat = 0
    rw [Int.zero_emod]
    rfl
  rw [e]
  rfl
theorem inv_it {f : List Nat} (r : IsRow f) : ∀ (k : Nat) {x : Nat}, x < f.length → it f k (it (invL f) k x) = x
  | 0, x, _ => rfl
  | k + 1, x, h => by
    have hq : it (invL f) k x < f.length := by
      have := it_lt (isRow_inv r) (p := x) (by rw [invL_len]; exact h) k
      rw [invL_len] at this
      exact this
    have hk : it (invL f) (k + 1) x = f.idxOf (it (invL f) k x) := by rw [it_succ, invL_get hq]
    have e : it f (k + 1) (it (invL f) (k + 1) x) = it f k (f.getD (it (invL f) (k + 1) x) 0) := by
      rw [it_add f 1]
      rfl
    rw [e, hk, getD_idx r hq, inv_it r k h]
theorem pw_neg {f : List Nat} (r : IsRow f) {x : Nat} (h : x < f.length) (k : Nat) : pw f (-(k : Int)) x = it (invL f) k x := by
  have hq : it (invL f) k x < f.length := by
    have := it_lt (isRow_inv r) (p := x) (by rw [invL_len]; exact h) k
    rw [invL_len] at this
    exact this
  refine it_inj r (pw_lt r h _) hq k ?_
  rw [it_pw r h, inv_it r k h, show -(k : Int) + k = 0 by omega, pw_zero]
/-- z times: on the ring of p -/
theorem pw_ring {f : List Nat} (r : IsRow f) {p : Nat} (hp : p < f.length) (a : Nat) (z : Int) : it f (((a : Int) + z).emod (per f p)).toNat p = pw f z (it f a p) := by
  have e := it_pw r hp a z
  rw [show z + (a : Int) = a + z by omega] at e
  show pw f ((a : Int) + z) p = _
  rw [← e]
  unfold pw
  rw [per_it r hp a, ← it_add, ← it_add, Nat.add_comm]
/-! ### even or odd -/
def invA : List Nat → List Nat → Nat
  | _, [] => 0
  | acc, v :: r => acc.countP (fun x => decide (v < x)) + invA (acc ++ [v]) r
theorem invA_app (acc r s : List Nat) : invA acc (r ++ s) = invA acc r + invA (acc ++ r) s := by
  induction r generalizing acc with
  | nil => simp [invA]
  | cons v r ih => simp [invA, ih, Nat.add_assoc]
theorem invA_mid (m : Nat) (A C B : List Nat) : invA (A ++ m :: C) B = invA (A ++ C) B + B.countP (fun x => decide (x < m)) := by
  induction B generalizing C with
  | nil => simp [invA]
  | cons v r ih =>
    have e := ih (C ++ [v])
    simp only [invA, List.append_assoc, List.cons_append, List.countP_append, List.countP_cons] at e ⊢
    rw [e]
    by_cases h : v < m <;> simp [h] <;> omega
theorem invA_acc (m : Nat) (A B : List Nat) : invA (A ++ [m]) B = invA A B + B.countP (fun x => decide (x < m)) := by
  have := invA_mid m A [] B
  simpa using this
theorem countP_split {v : Nat} {B : List Nat} (h : v ∉ B) : B.countP (fun x => decide (v < x)) + B.countP (fun x => decide (x < v)) = B.length := by
  induction B with
  | nil => rfl
  | cons a r ih =>
    have h1 : v ≠ a := fun e => h (by simp [e])
    have h2 : v ∉ r := fun e => h (by simp [e])
    have := ih h2
    simp only [List.countP_cons, List.length_cons]
    by_cases c : v < a
    · have c2 : ¬ a < v := by omega
      simp [c, c2]
      omega
    · have c2 : a < v := by omega
      simp [c, c2]
      omega
theorem countP_zero {m : Nat} {A : List Nat} (h : ∀ x ∈ A, x < m) : A.countP (fun x => decide (m < x)) = 0 := by
  rw [List.countP_eq_zero]
  intro x hx
  have := h x hx
  simp
  omega
theorem countP_all {m : Nat} {A : List Nat} (h : ∀ x ∈ A, x < m) : A.countP (fun x => decide (x < m)) = A.length := by
  rw [List.countP_eq_length]
  intro x hx
  simpa using h x hx
/-- the greatest is exchanged with the last and dropped -/
theorem invA_drop {m v : Nat} {A B : List Nat} (hA : ∀ x ∈ A, x < m) (hB : ∀ x ∈ B, x < m) (hv : v < m) (nv : v ∉ B) : ∃ k, invA [] (A ++ m :: B ++ [v]) + 2 * k = invA [] (A ++ v :: B) + 1 + 2 * B.length := by
  refine ⟨B.countP (fun x => decide (x < v)), ?_⟩
  have s := countP_split nv
  have e1 : invA [] (A ++ m :: B ++ [v]) = invA [] A + (0 + (invA A B + B.length)) + (A.countP (fun x => decide (v < x)) + (B.countP (fun x => decide (v < x)) + 1)) := by
    rw [invA_app, invA_app]
    congr 1
    · congr 1
      show A.countP _ + invA (A ++ [m]) B = _
      rw [invA_acc, countP_zero hA, countP_all hB]
    · show ([] ++ (A ++ m :: B)).countP _ + 0 = _
      simp [List.countP_cons, hv]
  have e2 : invA [] (A ++ v :: B) = invA [] A + (A.countP (fun x => decide (v < x)) + (invA A B + B.countP (fun x => decide (x < v)))) := by
    rw [invA_app]
    congr 1
    show A.countP _ + invA (A ++ [v]) B = _
    rw [invA_acc]
  rw [e1, e2]
  omega
/-- the last place is left out -/
def delL (g : List Nat) (v : Nat) : List Nat := g.map fun y => if y = g.length then v else y
theorem delL_len (g : List Nat) (v : Nat) : (delL g v).length = g.length := by simp [delL]
theorem delL_get {g : List Nat} {v x : Nat} (h : x < g.length) : (delL g v).getD x 0 = if g.getD x 0 = g.length then v else g.getD x 0 := by
  simp [delL, List.getD_eq_getElem?_getD, h]
theorem snoc_get {g : List Nat} {v x : Nat} (h : x < g.length) : (g ++ [v]).getD x 0 = g.getD x 0 := by
  simp [List.getD_eq_getElem?_getD, List.getElem?_append, h]
theorem snoc_last {g : List Nat} {v : Nat} : (g ++ [v]).getD g.length 0 = v := by
  simp [List.getD_eq_getElem?_getD]
theorem isRow_del {g : List Nat} {v : Nat} (r : IsRow (g ++ [v])) : IsRow (delL g v) := by
  have hl : (g ++ [v]).length = g.length + 1 := by simp
  have lt : ∀ x, x < g.length → g.getD x 0 < g.length + 1 := fun x hx => by
    have := getD_lt r (j := x) (by omega)
    rw [snoc_get hx, hl] at this
    exact this
  have inj : ∀ i j, i < g.length + 1 → j < g.length + 1 → (g ++ [v]).getD i 0 = (g ++ [v]).getD j 0 → i = j := fun i j hi hj e => getD_inj r (by omega) (by omega) e
  have hv : v < g.length + 1 := by
    have := getD_lt r (j := g.length) (by omega)
    rw [snoc_last, hl] at this
    exact this
  refine isRow_inj (fun x hx => ?_) fun i j hi hj e => ?_
  · rw [delL_len]
    obtain ⟨k, hk, ek⟩ := List.mem_iff_getElem.mp hx
    rw [delL_len] at hk
    have ek2 : (delL g v).getD k 0 = x := by simp [List.getD_eq_getElem?_getD, delL_len, hk, ek]
    rw [delL_get hk] at ek2
    have := lt k hk
    by_cases c : g.getD k 0 = g.length
    · rw [if_pos c] at ek2
      have : v ≠ g.length := fun z => by
        have := inj k g.length (by omega) (by omega) (by rw [snoc_get hk, snoc_last, c, z])
        omega
      omega
    · rw [if_neg c] at ek2
      omega
  · rw [delL_len] at hi hj
    rw [delL_get hi, delL_get hj] at e
    by_cases c : g.getD i 0 = g.length <;> by_cases d : g.getD j 0 = g.length
    · exact inj i j (by omega) (by omega) (by rw [snoc_get hi, snoc_get hj, c, d])
    · rw [if_pos c, if_neg d] at e
      have := inj g.length j (by omega) (by omega) (by rw [snoc_last, snoc_get hj, e])
      omega
    · rw [if_neg c, if_pos d] at e
      have := inj g.length i (by omega) (by omega) (by rw [snoc_last, snoc_get hi, e])
      omega
    · rw [if_neg c, if_neg d] at e
      exact inj i j (by omega) (by omega) (by rw [snoc_get hi, snoc_get hj, e])
theorem del_fwd {g : List Nat} {v p : Nat} (r : IsRow (g ++ [v])) (hp : p < g.length) : ∀ k, ∃ j, it (delL g v) k p = it (g ++ [v]) j p
  | 0 => ⟨0, rfl⟩
  | k + 1 => by
    obtain ⟨j, e⟩ := del_fwd r hp k
    have hl : it (delL g v) k p < g.length := by
      have := it_lt (isRow_del r) (p := p) (by rw [delL_len]; exact hp) k
      rw [delL_len] at this
      exact this
    by_cases c : g.getD (it (delL g v) k p) 0 = g.length
    · refine ⟨j + 2, ?_⟩
      rw [it_succ, delL_get hl, if_pos c]
      show v = (g ++ [v]).getD ((g ++ [v]).getD (it (g ++ [v]) j p) 0) 0
      rw [← e, snoc_get hl, c, snoc_last]
    · refine ⟨j + 1, ?_⟩
      rw [it_succ, delL_get hl, if_neg c, it_succ, ← e, snoc_get hl]
theorem del_back {g : List Nat} {v p : Nat} (r : IsRow (g ++ [v])) (hp : p < g.length) : ∀ k, (it (g ++ [v]) k p < g.length → ∃ j, it (delL g v) j p = it (g ++ [v]) k p) ∧
    (it (g ++ [v]) k p = g.length → ∃ j, it (delL g v) (j + 1) p = v)
  | 0 => ⟨fun _ => ⟨0, rfl⟩, fun e => by
    have : p = g.length := e
    omega⟩
  | k + 1 => by
    obtain ⟨h1, h2⟩ := del_back r hp k
    have hl : it (g ++ [v]) k p < g.length + 1 := by
      have := it_lt r (p := p) (by simp; omega) k
      simpa using this
    rw [it_succ]
    by_cases c : it (g ++ [v]) k p = g.length
    · obtain ⟨j, e⟩ := h2 c
      rw [c, snoc_last]
      exact ⟨fun _ => ⟨j + 1, e⟩, fun _ => ⟨j, e⟩⟩
    · have hlt : it (g ++ [v]) k p < g.length := by omega
      obtain ⟨j, e⟩ := h1 hlt
      rw [snoc_get hlt]
      refine ⟨fun d => ⟨j + 1, ?_⟩, fun d => ⟨j, ?_⟩⟩
      · rw [it_succ, e, delL_get hlt, if_neg (by omega)]
      · rw [it_succ, e, delL_get hlt, if_pos d]
theorem del_lead {g : List Nat} {v p : Nat} (r : IsRow (g ++ [v])) (hp : p < g.length) : lead (g ++ [v]) p = lead (delL g v) p := by
  have hp1 : p < (g ++ [v]).length := by simp; omega
  have hp2 : p < (delL g v).length := by rw [delL_len]; exact hp
  rw [Bool.eq_iff_iff, lead_iff, lead_iff]
  constructor
  · intro h x hx
    obtain ⟨k, rfl⟩ := (mem_ringL (isRow_del r) hp2).mp hx
    obtain ⟨j, e⟩ := del_fwd r hp k
    rw [e]
    exact h _ ((mem_ringL r hp1).mpr ⟨j, rfl⟩)
  · intro h x hx
    obtain ⟨k, rfl⟩ := (mem_ringL r hp1).mp hx
    rcases Nat.lt_or_ge (it (g ++ [v]) k p) g.length with c | c
    · obtain ⟨j, e⟩ := (del_back r hp k).1 c
      rw [← e]
      exact h _ ((mem_ringL (isRow_del r) hp2).mpr ⟨j, rfl⟩)
    · omega
def cyc (f : List Nat) : Nat := (List.range f.length).countP (lead f)
theorem cyc_len (f : List Nat) : (ringsL f).length = cyc f := by
  simp [ringsTo, cyc, List.countP_eq_length_filter]
theorem cyc_snoc {g : List Nat} {v : Nat} (r : IsRow (g ++ [v])) : cyc (g ++ [v]) = cyc (delL g v) + if v = g.length then 1 else 0 := by
  have hl : (g ++ [v]).length = g.length + 1 := by simp
  unfold cyc
  rw [hl, delL_len, List.range_succ, List.countP_append]
  congr 1
  · apply List.countP_congr
    intro x hx
    rw [del_lead r (List.mem_range.mp hx)]
  · have hn : g.length < (g ++ [v]).length := by omega
    by_cases c : v = g.length
    · rw [if_pos c]
      have : lead (g ++ [v]) g.length = true := by
        rw [lead_iff]
        intro x hx
        obtain ⟨k, rfl⟩ := (mem_ringL r hn).mp hx
        have : ∀ k, it (g ++ [v]) k g.length = g.length := by
          intro k
          induction k with
          | zero => rfl
          | succ k ih => rw [it_succ, ih, snoc_last, c]
        rw [this]
        omega
      simp [this]
    · rw [if_neg c]
      have hv : v < g.length + 1 := by
        have := getD_lt r hn
        rw [snoc_last, hl] at this
        exact this
      have : lead (g ++ [v]) g.length = false := by
        rw [Bool.eq_false_iff]
        intro q
        have := lead_iff.mp q v ((mem_ringL r hn).mpr ⟨1, by rw [it_succ, it_zero, snoc_last]⟩)
        omega
      simp [this]
theorem map_keep {A : List Nat} {m v : Nat} (h : m ∉ A) : (A.map fun y => if y = m then v else y) = A := by
  refine (List.map_congr_left fun x hx => ?_).trans (List.map_id A)
  have : x ≠ m := fun e => h (e ▸ hx)
  simp [this]
/-- an even number of exchanges, by its rings and by the pairs that are turned round -/
theorem parity : ∀ (n : Nat) (f : List Nat), f.length = n → IsRow f → cyc f ≤ f.length ∧ (f.length - cyc f) % 2 = invA [] f % 2
  | 0, f, hn, _ => by
    have e : f = [] := List.length_eq_zero_iff.mp hn
    subst e
    exact ⟨Nat.le_refl _, rfl⟩
  | n + 1, f, hn, r => by
    have hf : f ≠ [] := fun e => by rw [e] at hn; cases hn
    obtain ⟨g, v, rfl⟩ : ∃ g v, f = g ++ [v] := ⟨f.dropLast, f.getLast hf, (List.dropLast_concat_getLast hf).symm⟩
    have hg : g.length = n := by simpa using hn
    obtain ⟨i1, i2⟩ := parity n (delL g v) (by rw [delL_len, hg]) (isRow_del r)
    rw [delL_len] at i1 i2
    have hc := cyc_snoc r
    have nd := r.nd
    rw [List.nodup_append] at nd
    have nv : v ∉ g := fun m => nd.2.2 v m v (by simp) rfl
    have ltg : ∀ x ∈ g, x < g.length + 1 := fun x hx => by
      have := r.lt x (by simp [hx])
      simpa using this
    have hv : v < g.length + 1 := by
      have := r.lt v (by simp)
      simpa using this
    by_cases c : v = g.length
    · rw [if_pos c] at hc
      have eg : delL g v = g := map_keep (c ▸ nv)
      rw [eg] at i2 hc
      have e0 : invA [] (g ++ [v]) = invA [] g := by
        rw [invA_app]
        show invA [] g + (g.countP _ + 0) = _
        rw [countP_zero (m := v) (A := g) fun x hx => by
          have := ltg x hx
          have : x ≠ v := fun e => nv (e ▸ hx)
          omega]
        rfl
      rw [e0, hc, List.length_append]
      have := i1
      rw [eg] at this
      refine ⟨by simp; omega, ?_⟩
      rw [← i2]
      congr 1
      simp
    · rw [if_neg c] at hc
      have hm : g.length ∈ g := by
        have := full_mem r (x := g.length) (by simp)
        rcases List.mem_append.mp this with h | h
        · exact h
        · have h2 : g.length = v := by simpa using h
          exact absurd h2.symm c
      obtain ⟨A, B, eAB⟩ := List.append_of_mem hm
      have ndg := nd.1
      have hk : (A ++ g.length :: B).Nodup := eAB ▸ ndg
      rw [List.nodup_append, List.nodup_cons] at hk
      have nA : g.length ∉ A := fun m => hk.2.2 _ m _ (by simp) rfl
      have nB : g.length ∉ B := hk.2.1.1
      have ltA : ∀ x ∈ A, x < g.length := fun x hx => by
        have := ltg x (by rw [eAB]; simp [hx])
        have : x ≠ g.length := fun e => nA (e ▸ hx)
        omega
      have ltB : ∀ x ∈ B, x < g.length := fun x hx => by
        have := ltg x (by rw [eAB]; simp [hx])
        have : x ≠ g.length := fun e => nB (e ▸ hx)
        omega
      have nvB : v ∉ B := fun m => nv (by rw [eAB]; simp [m])
      obtain ⟨k, ek⟩ := invA_drop ltA ltB (show v < g.length by omega) nvB
      have ed : delL g v = A ++ v :: B := by
        have q : delL g v = (A ++ g.length :: B).map fun y => if y = g.length then v else y := by rw [← eAB]; rfl
        rw [q, List.map_append, List.map_cons, map_keep nA, map_keep nB, if_pos rfl]
      have ef : invA [] (g ++ [v]) = invA [] (A ++ g.length :: B ++ [v]) := by rw [← eAB]
      rw [ed] at i2 i1 hc
      rw [hc, ef, List.length_append]
      refine ⟨by simp; omega, ?_⟩
      simp only [List.length_cons, List.length_nil]
      omega
theorem parity_rings {f : List Nat} (r : IsRow f) : (ringsL f).length ≤ f.length ∧ (f.length - (ringsL f).length) % 2 = invA [] f % 2 := by
  rw [cyc_len]
  exact parity f.length f rfl r
/-! ### lists of tuples in the heap -/
open PySem PySem.Spec PyProof.Rows L2
def Rows (H : Hp) : List Addr → List (List Nat) → Prop
  | [], [] => True
  | a :: as, r :: rs => H a = some (.tup (r.map vI)) ∧ Rows H as rs
  | _, _ => False
theorem Rows.mono {H H' : Hp} (s : ∀ a xs, H a = some (.tup xs) → H' a = some (.tup xs)) : ∀ {as : List Addr} {rs : List (List Nat)}, Rows H as rs → Rows H' as rs
  | [], [], _ => trivial
  | _ :: _, _ :: _, h => ⟨s _ _ h.1, Rows.mono s h.2⟩
  | [], _ :: _, h => h
  | _ :: _, [], h => h
theorem Rows.same {H H' : Hp} {as : List Addr} {rs : List (List Nat)} (h : Rows H as rs) (s : Same H H') : Rows H' as rs := h.mono fun a _ e => s a _ e
theorem Rows.keep {H H' : Hp} {as : List Addr} {rs : List (List Nat)} (h : Rows H as rs) (s : Keep H H') : Rows H' as rs := h.mono fun a _ e => s a _ rfl e
/-- an object that is no tuple is changed -/
theorem Rows.put {H : Hp} {l : Addr} {o o' : HO} {as : List Addr} {rs : List (List Nat)} (h : Rows H as rs) (hl : H l = some o) (ho : ∀ xs, o ≠ .tup xs) : Rows (upd H l o') as rs := h.mono fun a xs e => by
  have : a ≠ l := fun z => by
    rw [z, hl] at e
    exact ho _ (Option.some.inj e)
  rw [upd_ne this]
  exact e
theorem Rows.snoc {H : Hp} {a : Addr} {r : List Nat} (e : H a = some (.tup (r.map vI))) : ∀ {as : List Addr} {rs : List (List Nat)}, Rows H as rs → Rows H (as ++ [a]) (rs ++ [r])
  | [], [], _ => ⟨e, trivial⟩
  | _ :: _, _ :: _, h => ⟨h.1, Rows.snoc e h.2⟩
  | [], _ :: _, h => h.elim
  | _ :: _, [], h => h.elim
theorem Rows.len {H : Hp} : ∀ {as : List Addr} {rs : List (List Nat)}, Rows H as rs → as.length = rs.length
  | [], [], _ => rfl
  | _ :: _, _ :: _, h => congrArg (· + 1) (Rows.len h.2)
  | [], _ :: _, h => h.elim
  | _ :: _, [], h => h.elim
theorem Rows.get {H : Hp} {x : V} : ∀ {as : List Addr} {rs : List (List Nat)} {i : Nat}, Rows H as rs → (as.map V.ref)[i]? = some x → ∃ a r, x = .ref a ∧ rs[i]? = some r ∧ H a = some (.tup (r.map vI))
  | a :: _, r :: _, 0, h, e => ⟨a, r, (Option.some.inj e).symm, rfl, h.1⟩
  | _ :: _, _ :: _, i + 1, h, e => Rows.get h.2 (i := i) e
  | [], [], _, _, e => by simp at e
  | [], _ :: _, _, h, _ => h.elim
  | _ :: _, [], _, h, _ => h.elim
def rowD (r : List Nat) : PyData := .tuple ((r.map Int.ofNat).map PyData.int)
theorem Rows.dp {K : PySem.W.Frag} {H : Hp} : ∀ {as : List Addr} {rs : List (List Nat)}, Rows H as rs → DpAll K H (as.map V.ref) (rs.map rowD)
  | [], [], _ => .nil
  | _ :: _, r :: _, h => .cons (dp_tup (ns := r.map Int.ofNat) (SqT.of (by rw [← vI_map]; exact h.1))) (Rows.dp h.2)
  | [], _ :: _, h => h.elim
  | _ :: _, [], h => h.elim
theorem shaped_rows (rs : List (List Nat)) : SeqAt.shaped (.list (rs.map rowD)) = true := by
  have h1 : PyData.canLayAll0 (rs.map rowD) = true := by
    induction rs with
    | nil => simp [PyData.canLayAll0]
    | cons r rs ih =>
      rw [List.map_cons, PyData.canLayAll0, ih, rowD, PyData.canLay0, lay_ints]
      rfl
  have h2 : PyData.depthAll (rs.map rowD) ≤ 2 := by
    induction rs with
    | nil => simp [PyData.depthAll]
    | cons r rs ih =>
      have := depth_ints (r.map Int.ofNat)
      have hr : PyData.depth (rowD r) ≤ 2 := by
        unfold rowD
        simp only [PyData.depth]
        omega
      simp only [List.map_cons, PyData.depthAll]
      have h1' : PyData.canLayAll0 (rs.map rowD) = true := by
        rw [List.map_cons, PyData.canLayAll0, Bool.and_eq_true] at h1
        exact h1.2
      have := ih h1'
      omega
  unfold SeqAt.shaped
  rw [PyData.canLay0, h1, PyData.depth, Bool.true_and]
  exact decide_eq_true (by omega)
theorem ne_rows {K : PySem.W.Frag} {a b : Addr} {as bs : List Addr} {rs : List (List Nat)} {H : Hp} {Q : VK} (ha : SqL K H a (as.map V.ref)) (hb : SqL K H b (bs.map V.ref)) (ra : Rows H as rs) (rb : Rows H bs rs) (q : Q (.bl false) H) :
    rNeD K (.ref a) (.ref b) H Q := ne_data (d := .list (rs.map rowD)) (.lst ha ra.dp) (.lst hb rb.dp) (shaped_rows rs) q
theorem rep1 {α : Type} (n : Nat) (x : α) : (List.replicate n [x]).flatten = List.replicate n x := by
  induction n with
  | zero => rfl
  | succ n ih => rw [List.replicate_succ, List.replicate_succ, List.flatten_cons, ih]; rfl
/-! ### while, by the number of its turns -/
theorem while_ix {c : TT} {tb : TS} {D : Ends} {σ : L2.St} {H : Hp} (n : Nat) (Pv : Nat → L2.St → Hp → Prop) (h0 : Pv 0 σ H)
    (hs : ∀ j σ H, j ≤ n → Pv j σ H → c σ H fun b H1 => if b = true then ∃ N : L2.St → Hp → Prop, (∀ σ' H', N σ' H' → ∃ m', m' < n - j ∧ ∃ j', m' = n - j' ∧ j' ≤ n ∧ Pv j' σ' H') ∧ tb { D with nx := N, ct := N, bk := D.nx } σ H1 else D.nx σ H1) : tWhile c tb D σ H := by
  refine ⟨fun m σ H => ∃ j, m = n - j ∧ j ≤ n ∧ Pv j σ H, ⟨n, 0, by omega, Nat.zero_le _, h0⟩, ?_⟩
  rintro m σ' H' ⟨j, rfl, hj, p⟩
  exact hs j σ' H' hj p
theorem whN {n j : Nat} {Pv : Nat → L2.St → Hp → Prop} (h : j < n) : ∀ σ' H', Pv (j + 1) σ' H' → ∃ m', m' < n - j ∧ ∃ j', m' = n - j' ∧ j' ≤ n ∧ Pv j' σ' H' :=
  fun _ _ p => ⟨n - (j + 1), by omega, j + 1, rfl, by omega, p⟩
/-! ### the places that are marked -/
def SeenW (f : List Nat) (i j : Nat) (bs : List Bool) : Prop := bs.length = f.length ∧ ∀ x, x < f.length → (bs.getD x false = true ↔ seenB f i x ∨ ∃ k, k < j ∧ x = it f k i)
theorem seen_start (f : List Nat) : SeenW f 0 0 (List.replicate f.length false) := ⟨by simp, fun x hx => by
  constructor
  · intro h
    simp [List.getD_eq_getElem?_getD, hx] at h
  · rintro (⟨z, hz, _⟩ | ⟨k, hk, _⟩) <;> omega⟩
theorem seen_step {f : List Nat} {i j : Nat} {bs : List Bool} (r : IsRow f) (hi : i < f.length) (h : SeenW f i j bs) : SeenW f i (j + 1) (bs.set (it f j i) true) := by
  obtain ⟨hl, h⟩ := h
  have hp := it_lt r hi j
  refine ⟨by simpa using hl, fun x hx => ?_⟩
  by_cases e : it f j i = x
  · subst e
    constructor
    · intro _
      exact .inr ⟨j, by omega, rfl⟩
    · intro _
      simp [List.getD_eq_getElem?_getD, hl, hp]
  · have q : (bs.set (it f j i) true).getD x false = bs.getD x false := by simp [List.getD_eq_getElem?_getD, List.getElem?_set, e]
    rw [q, h x hx]
    constructor
    · rintro (a | ⟨k, hk, ek⟩)
      · exact .inl a
      · exact .inr ⟨k, by omega, ek⟩
    · rintro (a | ⟨k, hk, ek⟩)
      · exact .inl a
      · by_cases c : k = j
        · subst c
          exact absurd ek.symm e
        · exact .inr ⟨k, by omega, ek⟩
theorem seen_stop {f : List Nat} {i j : Nat} {bs : List Bool} (r : IsRow f) (hi : i < f.length) (h : SeenW f i j bs) (hj : j ≤ per f i) (hl : 0 < j → lead f i = true) (e : bs.getD (it f j i) false = true) :
    (j = 0 ∧ lead f i = false) ∨ (j = per f i ∧ lead f i = true) := by
  rcases (h.2 _ (it_lt r hi j)).mp e with a | ⟨k, hk, ek⟩
  · have m : it f j i ∈ ringL f i := (mem_ringL r hi).mpr ⟨j, rfl⟩
    have s := seenB_ring r (Nat.le_of_lt hi) a (ringL_symm r hi m)
    have q : lead f i = false := by
      rw [Bool.eq_false_iff]
      exact fun z => (lead_seen r hi).mp z s
    refine .inl ⟨?_, q⟩
    rcases Nat.eq_zero_or_pos j with z | z
    · exact z
    · rw [hl z] at q
      cases q
  · refine .inr ⟨?_, hl (by omega)⟩
    rcases Nat.lt_or_ge j (per f i) with c | c
    · have := it_inj2 r hi c (by omega) ek
      omega
    · omega
theorem seen_go {f : List Nat} {i j : Nat} {bs : List Bool} (r : IsRow f) (hi : i < f.length) (h : SeenW f i j bs) (hj : j ≤ per f i) (hl : 0 < j → lead f i = true) (e : bs.getD (it f j i) false = false) :
    j < per f i ∧ lead f i = true := by
  have n : ¬ (seenB f i (it f j i) ∨ ∃ k, k < j ∧ it f j i = it f k i) := fun c => by
    rw [(h.2 _ (it_lt r hi j)).mpr c] at e
    cases e
  rcases Nat.eq_zero_or_pos j with z | z
  · subst z
    exact ⟨per_pos f i, (lead_seen r hi).mpr fun s => n (.inl s)⟩
  · refine ⟨?_, hl z⟩
    rcases Nat.lt_or_ge j (per f i) with c | c
    · exact c
    · have ej : j = per f i := by omega
      exact absurd (.inr ⟨0, z, by rw [ej, it_per r hi]; rfl⟩) n
theorem seen_lead {f : List Nat} {i : Nat} {bs : List Bool} (r : IsRow f) (hi : i < f.length) (h : SeenW f i (per f i) bs) : SeenW f (i + 1) 0 bs := ⟨h.1, fun x hx => by
  rw [h.2 x hx, seenB_succ]
  constructor
  · rintro (a | ⟨k, hk, ek⟩)
    · exact .inl (.inl a)
    · exact .inl (.inr (List.mem_map.mpr ⟨k, List.mem_range.mpr hk, ek.symm⟩))
  · rintro ((a | a) | ⟨k, hk, _⟩)
    · exact .inl a
    · obtain ⟨k, hk, ek⟩ := List.mem_map.mp a
      exact .inr ⟨k, List.mem_range.mp hk, ek.symm⟩
    · omega⟩
theorem seen_not {f : List Nat} {i : Nat} {bs : List Bool} (r : IsRow f) (hi : i < f.length) (h : SeenW f i 0 bs) (q : lead f i = false) : SeenW f (i + 1) 0 bs := ⟨h.1, fun x hx => by
  rw [h.2 x hx, seenB_succ]
  constructor
  · rintro (a | ⟨k, hk, _⟩)
    · exact .inl (.inl a)
    · omega
  · rintro ((a | a) | ⟨k, hk, _⟩)
    · exact .inl a
    · have s : seenB f i i := Classical.byContradiction fun c => by
        rw [(lead_seen r hi).mpr c] at q
        cases q
      exact .inl (seenB_ring r (Nat.le_of_lt hi) s a)
    · omega⟩
theorem getElem?_bl {bs : List Bool} {x : Nat} (h : x < bs.length) : (bs.map V.bl)[x]? = some (V.bl (bs.getD x false)) := by
  rw [List.getElem?_map, List.getD_eq_getElem?_getD, List.getElem?_eq_getElem h]
  rfl
/-! ### what is filled by the rings -/
def Fill (f : List Nat) (z : Int) (l : List Nat) (g : List Nat) : Prop := g.length = f.length ∧ ∀ y ∈ l, g.getD y 0 = pw f z y
theorem fill_set {f : List Nat} {z : Int} {l g : List Nat} {x : Nat} (h : Fill f z l g) (hx : x < f.length) : Fill f z (l ++ [x]) (g.set x (pw f z x)) := by
  refine ⟨by simpa using h.1, fun y hy => ?_⟩
  by_cases e : y = x
  · subst e
    simp [List.getD_eq_getElem?_getD, h.1, hx]
  · rw [getD_set_ne e]
    rcases List.mem_append.mp hy with m | m
    · exact h.2 y m
    · exact absurd (by simpa using m) e
theorem fill_all {f : List Nat} {z : Int} {g : List Nat} (r : IsRow f) (h : Fill f z (ringsL f).flatten g) : g = powL f z := by
  refine ext_getD (by rw [h.1, powL_len]) fun x hx => ?_
  rw [h.1] at hx
  rw [powL_get hx]
  obtain ⟨p, hp, hl, m⟩ := lead_ex r hx
  refine h.2 x (List.mem_flatten.mpr ⟨ringL f p, ?_, m⟩)
  exact List.mem_map.mpr ⟨p, List.mem_filter.mpr ⟨List.mem_range.mpr hp, hl⟩, rfl⟩
theorem rings_mem {f r : List Nat} {i : Nat} (h : (ringsL f)[i]? = some r) : ∃ p, p < f.length ∧ r = ringL f p := by
  obtain ⟨p, hp, e⟩ := List.mem_map.mp (List.mem_of_getElem? h)
  exact ⟨p, List.mem_range.mp (List.mem_filter.mp hp).1, e.symm⟩
theorem flatten_take_succ {rs : List (List Nat)} {i : Nat} {r : List Nat} (h : rs[i]? = some r) : (rs.take (i + 1)).flatten = (rs.take i).flatten ++ r := by
  rw [List.take_add_one, h]
  simp
/-- the index of the ring's item -/
theorem ring_ix {f : List Nat} {p : Nat} (r : IsRow f) (hp : p < f.length) (k : Nat) (z : Int) : ∃ j : Nat, j < per f p ∧ ((k : Int) + z).fmod ((ringL f p).map vI).length = (j : Int) ∧ ((ringL f p).map vI)[j]? = some (vI (pw f z (it f k p))) := by
  have e : ((k : Int) + z).fmod ((ringL f p).map vI).length = ((k : Int) + z).emod (per f p) := by
    rw [List.length_map, ringL_len]
    exact Int.fmod_eq_emod_of_nonneg _ (by omega)
  have b := emod_per (f := f) (x := p) ((k : Int) + z)
  refine ⟨(((k : Int) + z).emod (per f p)).toNat, by omega, by rw [e]; omega, ?_⟩
  rw [List.getElem?_map, ringL_get (by omega), pw_ring r hp]
  rfl
/-! ### as the law counts and walks -/
theorem inV_vI {x : Nat} {l : List Nat} : inV (vI x) (l.map vI) = decide (x ∈ l) := by
  induction l with
  | nil => simp [inV]
  | cons a r ih =>
    have q : eqV (vI a) (vI x) = decide (a = x) := by
      show ((a : Int) == (x : Int)) = decide (a = x)
      rw [Bool.eq_iff_iff]
      simp
      omega
    show (eqV (vI a) (vI x) || inV (vI x) (r.map vI)) = decide (x ∈ a :: r)
    rw [ih, q, Bool.eq_iff_iff]
    simp
    constructor
    · rintro (e | e)
      · exact .inl e.symm
      · exact .inr e
    · rintro (e | e)
      · exact .inl e.symm
      · exact .inr e
theorem flat_vI (l : List Nat) : (l.map vI).all flatV = true := by
  rw [List.all_eq_true]
  intro x hx
  obtain ⟨n, _, rfl⟩ := List.mem_map.mp hx
  rfl
theorem mem_ringsTo {f : List Nat} (r : IsRow f) {i : Nat} (hi : i < f.length) : i ∈ (ringsTo f i).flatten ↔ lead f i = false := by
  rw [Bool.eq_false_iff]
  constructor
  · intro h c
    obtain ⟨l, hl, m⟩ := List.mem_flatten.mp h
    obtain ⟨p, hp, rfl⟩ := List.mem_map.mp hl
    have := List.mem_range.mp (List.mem_filter.mp hp).1
    exact (lead_seen r hi).mp c ⟨p, this, m⟩
  · intro h
    have s : seenB f i i := Classical.byContradiction fun c => h ((lead_seen r hi).mpr c)
    obtain ⟨z, hz, m⟩ := s
    obtain ⟨p, hp, hl, mp⟩ := lead_ex r (x := z) (by omega)
    have hpz : p ≤ z := lead_iff.mp hl z mp
    exact List.mem_flatten.mpr ⟨ringL f p, List.mem_map.mpr ⟨p, List.mem_filter.mpr ⟨List.mem_range.mpr (by omega), hl⟩, rfl⟩, ringL_trans r hp mp m⟩
theorem invA_take {f : List Nat} {k : Nat} (h : k < f.length) : invA [] (f.take (k + 1)) = invA [] (f.take k) + (f.take k).countP (fun x => decide (f.getD k 0 < x)) := by
  have e : f[k]? = some (f.getD k 0) := by
    rw [List.getD_eq_getElem?_getD, List.getElem?_eq_getElem h]
    rfl
  rw [List.take_add_one, e, invA_app]
  simp [invA]
/-- where a walk of the ring stands behind t turns -/
def wk (f : List Nat) (p t : Nat) : Nat := min (t + 1) (per f p)
theorem wk_end {f : List Nat} (r : IsRow f) {p : Nat} (hp : p < f.length) : wk f p f.length = per f p := by
  have := per_le r hp
  unfold wk
  omega
theorem wk_stay {f : List Nat} (r : IsRow f) {p t : Nat} (hp : p < f.length) (e : it f (wk f p t) p = p) : wk f p (t + 1) = wk f p t := by
  unfold wk at *
  rcases Nat.lt_or_ge (t + 1) (per f p) with c | c
  · rw [Nat.min_eq_left (by omega)] at e
    exact absurd e (per_min r hp (by omega) c)
  · omega
theorem wk_go {f : List Nat} (r : IsRow f) {p t : Nat} (hp : p < f.length) (e : it f (wk f p t) p ≠ p) : wk f p (t + 1) = wk f p t + 1 := by
  unfold wk at *
  rcases Nat.lt_or_ge (t + 1) (per f p) with c | c
  · omega
  · rw [Nat.min_eq_right c, it_per r hp] at e
    exact absurd rfl e
/-! ### rows made of rows -/
theorem nodup_add {l : List Nat} (k : Nat) (h : l.Nodup) : (l.map fun x => k + x).Nodup := by
  rw [List.nodup_iff_pairwise_ne] at h ⊢
  rw [List.pairwise_map]
  exact h.imp fun ne e => ne (by omega)
theorem isRow_more {f : List Nat} (r : IsRow f) (k : Nat) : IsRow (f ++ (List.range k).map fun x => f.length + x) := by
  refine ⟨?_, fun x hx => ?_⟩
  · rw [List.nodup_append]
    refine ⟨r.nd, ?_, fun a ha b hb => ?_⟩
    · exact nodup_add _ List.nodup_range
    · obtain ⟨y, _, rfl⟩ := List.mem_map.mp hb
      have := r.lt a ha
      omega
  · rw [List.length_append, List.length_map, List.length_range]
    rcases List.mem_append.mp hx with h | h
    · have := r.lt x h
      omega
    · obtain ⟨y, hy, rfl⟩ := List.mem_map.mp h
      have := List.mem_range.mp hy
      omega
theorem isRow_ahead {f : List Nat} (r : IsRow f) (k : Nat) : IsRow (List.range k ++ f.map fun x => k + x) := by
  refine ⟨?_, fun x hx => ?_⟩
  · rw [List.nodup_append]
    refine ⟨List.nodup_range, ?_, fun a ha b hb => ?_⟩
    · exact nodup_add _ r.nd
    · obtain ⟨y, _, rfl⟩ := List.mem_map.mp hb
      have := List.mem_range.mp ha
      omega
  · rw [List.length_append, List.length_map, List.length_range]
    rcases List.mem_append.mp hx with h | h
    · have := List.mem_range.mp h
      omega
    · obtain ⟨y, hy, rfl⟩ := List.mem_map.mp h
      have := r.lt y hy
      omega
theorem inv_fill {f g : List Nat} (r : IsRow f) (l : g.length = f.length) (h : ∀ j, j < f.length → g.getD (f.getD j 0) 0 = j) : g = invL f := by
  refine ext_getD (by rw [l, invL_len]) fun x hx => ?_
  rw [l] at hx
  rw [invL_get hx]
  have := h (f.idxOf x) (idx_lt r hx)
  rw [getD_idx r hx] at this
  exact this
theorem inv_step {f g : List Nat} {i : Nat} (r : IsRow f) (hi : i < f.length) (l : g.length = f.length) (h : ∀ j, j < i → g.getD (f.getD j 0) 0 = j) : ∀ j, j < i + 1 → (g.set (f.getD i 0) i).getD (f.getD j 0) 0 = j := by
  intro j hj
  have hn := getD_lt r hi
  by_cases e : j = i
  · subst e
    generalize f.getD j 0 = n at *
    simp [List.getD_eq_getElem?_getD, l, hn]
  · rw [getD_set_ne fun z => e (getD_inj r (by omega) hi z)]
    exact h j (by omega)
theorem rgV_from (a n : Nat) : rgV (a : Int) (n : Int) = ((List.range (n - a)).map fun x => a + x).map vI := by
  unfold rgV
  rw [List.map_map, show ((n : Int) - (a : Int)).toNat = n - a by omega]
  apply List.map_congr_left
  intro x _
  show V.int ((a : Int) + (x : Int)) = V.int (((a + x : Nat)) : Int)
  rw [Int.natCast_add]
theorem it_comm (f : List Nat) (k p : Nat) : it f k (f.getD p 0) = it f (k + 1) p := by
  rw [it_add f 1]
  rfl
/-- once more -/
theorem done_it {f : List Nat} (r : IsRow f) (t : Nat) : doneL V.non f (((List.range f.length).map (it f t)).map vI) = ((List.range f.length).map (it f (t + 1))).map vI := by
  rw [doneL_join (fun x hx => by rw [List.length_map, List.length_range]; exact r.lt x hx)]
  congr 1
  refine ext_getD (by rw [joinL_len, List.length_map, List.length_range]) fun j hj => ?_
  rw [joinL_len] at hj
  have hg := getD_lt r hj
  rw [joinL_get _ _ hj]
  have e : ∀ t' x, x < f.length → ((List.range f.length).map (it f t')).getD x 0 = it f t' x := fun t' x hx => by simp [List.getD_eq_getElem?_getD, hx]
  rw [e t _ hg, e (t + 1) _ hj, it_comm]
theorem pow_pos {f : List Nat} (r : IsRow f) (k : Nat) : powL f (k : Int) = (List.range f.length).map (it f k) := by
  unfold powL
  apply List.map_congr_left
  intro x hx
  exact pw_nat r (List.mem_range.mp hx) k
theorem pow_neg {f : List Nat} (r : IsRow f) (k : Nat) : powL f (-(k : Int)) = (List.range f.length).map (it (invL f) k) := by
  unfold powL
  apply List.map_congr_left
  intro x hx
  exact pw_neg r (List.mem_range.mp hx) k
theorem pow_zero (f : List Nat) : powL f 0 = List.range f.length := by
  unfold powL
  exact (List.map_congr_left fun x _ => pw_zero x).trans (List.map_id _)
theorem pow_one {f : List Nat} (r : IsRow f) : powL f 1 = f := by
  have e := pow_pos r 1
  rw [show ((1 : Nat) : Int) = 1 from rfl] at e
  rw [e]
  refine ext_getD (by simp) fun x hx => ?_
  rw [List.length_map, List.length_range] at hx
  simp [List.getD_eq_getElem?_getD, hx, it]
theorem even_dec (n : Nat) : decide (V.int ((n : Int).fmod 2) = V.int 0) = decide (n % 2 = 0) := by
  rw [decide_eq_decide, Int.fmod_eq_emod_of_nonneg _ (by decide)]
  constructor
  · intro h
    have := V.int.inj h
    omega
  · intro h
    congr 1
    omega
end EV

/-! Rules of rearrangements: the group's laws, the sign, the rings of a taken back and of a carried over one. -/
namespace EV
theorem join_assoc {a b c : List Nat} (hc : ∀ x ∈ c, x < b.length) : joinL (joinL a b) c = joinL a (joinL b c) := by
  unfold joinL
  rw [List.map_map]
  apply List.map_congr_left
  intro x hx
  have h := hc x hx
  simp [List.getD_eq_getElem?_getD, h]
theorem join_range (f : List Nat) : joinL f (List.range f.length) = f := by
  refine ext_getD (by rw [joinL_len, List.length_range]) fun j hj => ?_
  rw [joinL_len, List.length_range] at hj
  rw [joinL_get _ _ (by rw [List.length_range]; exact hj), getD_range hj]
theorem range_join {f : List Nat} (r : IsRow f) : joinL (List.range f.length) f = f := by
  refine ext_getD (joinL_len _ _) fun j hj => ?_
  rw [joinL_len] at hj
  rw [joinL_get _ _ hj, getD_range (getD_lt r hj)]
theorem inv_unique {f g : List Nat} (rf : IsRow f) (rg : IsRow g) (h : f.length = g.length) (e : joinL f g = List.range f.length) : g = invL f := by
  refine ext_getD (by rw [invL_len, h]) fun j hj => ?_
  have hj' : j < f.length := by omega
  have e1 : f.getD (g.getD j 0) 0 = j := by rw [← joinL_get f g hj, e, getD_range hj']
  have e2 : f.getD ((invL f).getD j 0) 0 = j := by rw [← joinL_get f _ (by rw [invL_len]; exact hj'), join_inv rf, getD_range hj']
  have l1 := getD_lt rg hj
  have l2 := getD_lt (isRow_inv rf) (j := j) (by rw [invL_len]; exact hj')
  rw [invL_len] at l2
  exact getD_inj rf (by omega) l2 (e1.trans e2.symm)
theorem inv_joinL {a b : List Nat} (ra : IsRow a) (rb : IsRow b) (h : a.length = b.length) : invL (joinL a b) = joinL (invL b) (invL a) := by
  have ia := isRow_inv ra
  have ib := isRow_inv rb
  have la := invL_len a
  have lb := invL_len b
  have rj := isRow_join ra rb h
  have lj := joinL_len a b
  have rk := isRow_join ib ia (by omega)
  have lk := joinL_len (invL b) (invL a)
  refine (inv_unique rj rk (by omega) ?_).symm
  rw [join_assoc (fun x hx => by have := rk.lt x hx; omega), ← join_assoc (a := b) (fun x hx => by have := ia.lt x hx; omega), join_inv rb]
  have e := range_join ia
  rw [la, h] at e
  rw [e, join_inv ra, lj, h]
theorem inv_inv {f : List Nat} (r : IsRow f) : invL (invL f) = f :=
  (inv_unique (isRow_inv r) r (invL_len f) (by rw [inv_join r, invL_len])).symm
/-! ### powers -/
theorem isRow_it {f : List Nat} (r : IsRow f) (k : Nat) : IsRow ((List.range f.length).map (it f k)) := by
  have e : ∀ x, x < f.length → ((List.range f.length).map (it f k)).getD x 0 = it f k x := fun x hx => by simp [List.getD_eq_getElem?_getD, hx]
  refine isRow_inj (fun x hx => ?_) fun i j hi hj q => ?_
  · obtain ⟨y, hy, rfl⟩ := List.mem_map.mp hx
    rw [List.length_map, List.length_range]
    exact it_lt r (List.mem_range.mp hy) k
  · rw [List.length_map, List.length_range] at hi hj
    rw [e i hi, e j hj] at q
    exact it_inj r hi hj k q
theorem isRow_pow {f : List Nat} (r : IsRow f) (z : Int) : IsRow (powL f z) := by
  rcases Int.le_total 0 z with h | h
  · have e := pow_pos r z.toNat
    rw [Int.toNat_of_nonneg h] at e
    rw [e]
    exact isRow_it r _
  · have e := pow_neg r (-z).toNat
    rw [Int.toNat_of_nonneg (by omega), Int.neg_neg] at e
    rw [e, ← invL_len f]
    exact isRow_it (isRow_inv r) _
theorem pw_add {f : List Nat} (r : IsRow f) {x : Nat} (h : x < f.length) (m n : Int) : pw f m (pw f n x) = pw f (m + n) x := by
  have b := emod_per (f := f) (x := x) n
  have e : pw f n x = it f (n.emod (per f x)).toNat x := rfl
  rw [e, ← pw_ring r h]
  unfold pw
  congr 2
  rw [Int.toNat_of_nonneg b.1]
  show (n % (per f x : Int) + m) % (per f x : Int) = (m + n) % (per f x : Int)
  rw [Int.emod_add_emod, Int.add_comm]
theorem pow_join {f : List Nat} (r : IsRow f) (m n : Int) : joinL (powL f m) (powL f n) = powL f (m + n) := by
  refine ext_getD (by rw [joinL_len, powL_len, powL_len]) fun j hj => ?_
  rw [joinL_len, powL_len] at hj
  rw [joinL_get _ _ (by rw [powL_len]; exact hj), powL_get hj, powL_get hj, powL_get (pw_lt r hj n), pw_add r hj]
theorem it_powL {f : List Nat} (r : IsRow f) {x : Nat} (h : x < f.length) (m : Int) : ∀ k : Nat, it (powL f m) k x = pw f (m * k) x
  | 0 => by
    rw [show m * ((0 : Nat) : Int) = 0 by simp, pw_zero]
    rfl
  | k + 1 => by
    rw [it_succ, it_powL r h m k, powL_get (pw_lt r h _), pw_add r h]
    congr 1
    rw [Int.natCast_add, Int.mul_add]
    simp
    omega
theorem pow_pow {f : List Nat} (r : IsRow f) (m n : Int) : powL (powL f m) n = powL f (m * n) := by
  have rg := isRow_pow r m
  have lg := powL_len f m
  refine ext_getD (by rw [powL_len, powL_len, powL_len]) fun x hx => ?_
  rw [powL_len, lg] at hx
  have hx' : x < (powL f m).length := by omega
  rw [powL_get hx', powL_get hx]
  rcases Int.le_total 0 n with h | h
  · have e : n = (n.toNat : Int) := by omega
    rw [e, pw_nat rg hx', it_powL r hx]
  · obtain ⟨k, ek⟩ : ∃ k : Nat, n = -(k : Int) := ⟨(-n).toNat, by omega⟩
    have h1 : it (powL f m) k (pw (powL f m) n x) = x := by
      rw [it_pw rg hx', ek, show -(k : Int) + (k : Int) = 0 by omega, pw_zero]
    have h2 : it (powL f m) k (pw f (m * n) x) = x := by
      rw [it_powL r (pw_lt r hx _), pw_add r hx, ek, show m * (k : Int) + m * -(k : Int) = 0 by rw [Int.mul_neg]; omega, pw_zero]
    have l1 := pw_lt rg hx' n
    exact it_inj rg l1 (by rw [lg]; exact pw_lt r hx _) k (h1.trans h2.symm)
theorem pow_m1 {f : List Nat} (r : IsRow f) : powL f (-1) = invL f := by
  have e := pow_neg r 1
  rw [show -((1 : Nat) : Int) = -1 from rfl] at e
  rw [e]
  refine ext_getD (by rw [List.length_map, List.length_range, invL_len]) fun x hx => ?_
  rw [List.length_map, List.length_range] at hx
  simp [List.getD_eq_getElem?_getD, hx, it]
theorem pow_inv {f : List Nat} (r : IsRow f) (m : Int) : powL (invL f) m = powL f (-m) := by
  rw [← pow_m1 r, pow_pow r]
  congr 1
  omega
/-! ### the sign -/
theorem invA_swap2 (u v : List Nat) (a b : Nat) : invA (u ++ [a, b]) v = invA (u ++ [b, a]) v := by
  have h1 := invA_mid a u [b] v
  have h2 := invA_mid b u [a] v
  have h3 := invA_acc a u v
  have h4 := invA_acc b u v
  have e1 : u ++ a :: [b] = u ++ [a, b] := rfl
  have e2 : u ++ b :: [a] = u ++ [b, a] := rfl
  rw [e1] at h1
  rw [e2] at h2
  omega
/-- neighbours that stand wrong are exchanged -/
theorem invA_nb (u v : List Nat) {a b : Nat} (h : b < a) : invA [] (u ++ a :: b :: v) = invA [] (u ++ b :: a :: v) + 1 := by
  rw [invA_app, invA_app]
  have e1 : invA ([] ++ u) (a :: b :: v) = u.countP (fun x => decide (a < x)) + ((u ++ [a]).countP (fun x => decide (b < x)) + invA (u ++ [a, b]) v) := by
    simp [invA]
  have e2 : invA ([] ++ u) (b :: a :: v) = u.countP (fun x => decide (b < x)) + ((u ++ [b]).countP (fun x => decide (a < x)) + invA (u ++ [b, a]) v) := by
    simp [invA]
  rw [e1, e2, invA_swap2 u v a b, List.countP_append, List.countP_append]
  have c1 : [a].countP (fun x => decide (b < x)) = 1 := by simp [h]
  have c2 : [b].countP (fun x => decide (a < x)) = 0 := by
    simp
    omega
  rw [c1, c2]
  omega
theorem no_descent : ∀ {f : List Nat}, (∀ u a b v, f = u ++ a :: b :: v → a ≤ b) → f.Pairwise (· ≤ ·)
  | [], _ => .nil
  | [a], _ => by simp
  | a :: b :: v, h => by
    have ih := no_descent (f := b :: v) fun u x y w e => h (a :: u) x y w (by rw [e]; rfl)
    refine List.pairwise_cons.mpr ⟨fun x hx => ?_, ih⟩
    have hab := h [] a b v rfl
    rcases List.mem_cons.mp hx with e | m
    · rw [e]
      exact hab
    · exact Nat.le_trans hab ((List.pairwise_cons.mp ih).1 x m)
theorem sorted_eq : ∀ {f g : List Nat}, f.Perm g → f.Pairwise (· ≤ ·) → g.Pairwise (· ≤ ·) → f = g
  | [], g, p, _, _ => by
    have := p.length_eq
    exact (List.length_eq_zero_iff.mp (by simpa using this.symm)).symm
  | a :: f, [], p, _, _ => by
    have := p.length_eq
    simp at this
  | a :: f, b :: g, p, hf, hg => by
    have h1 : a ∈ b :: g := p.mem_iff.mp (by simp)
    have h2 : b ∈ a :: f := p.mem_iff.mpr (by simp)
    have hf' := List.pairwise_cons.mp hf
    have hg' := List.pairwise_cons.mp hg
    have e : a = b := by
      have l1 : b ≤ a := by
        rcases List.mem_cons.mp h1 with e | m
        · omega
        · exact hg'.1 a m
      have l2 : a ≤ b := by
        rcases List.mem_cons.mp h2 with e | m
        · omega
        · exact hf'.1 b m
      omega
    subst e
    rw [sorted_eq p.cons_inv hf'.2 hg'.2]
theorem range_sorted (n : Nat) : (List.range n).Pairwise (· ≤ ·) := by
  have := List.pairwise_lt_range (n := n)
  exact this.imp fun h => Nat.le_of_lt h
theorem isRow_perm {f g : List Nat} (r : IsRow f) (p : g.Perm f) : IsRow g := .of_perm (n := f.length) (p.trans r.perm)
theorem inv_sign {f : List Nat} (rf : IsRow f) : ∀ (k : Nat) {g : List Nat}, invA [] g = k → IsRow g → g.length = f.length → (invA [] (joinL f g)) % 2 = (invA [] f + invA [] g) % 2 := by
  intro k
  induction k with
  | zero =>
    intro g hk rg hl
    have nd : ∀ u a b v, g = u ++ a :: b :: v → a ≤ b := fun u a b v e => by
      rcases Nat.lt_or_ge b a with h | h
      · have := invA_nb u v h
        rw [← e, hk] at this
        omega
      · exact h
    have eg : g = List.range g.length := sorted_eq rg.perm (no_descent nd) (range_sorted _)
    rw [eg, hl, join_range]
    have : invA [] (List.range f.length) = 0 := by rw [← hl, ← eg, hk]
    rw [this]
    rfl
  | succ k ih =>
    intro g hk rg hl
    have : ∃ u a b v, g = u ++ a :: b :: v ∧ b < a := by
      refine Classical.byContradiction fun hc => ?_
      have nd : ∀ u a b v, g = u ++ a :: b :: v → a ≤ b := fun u a b v e => by
        rcases Nat.lt_or_ge b a with h | h
        · exact absurd ⟨u, a, b, v, e, h⟩ hc
        · exact h
      have eg : g = List.range g.length := sorted_eq rg.perm (no_descent nd) (range_sorted _)
      have z : ∀ n, invA [] (List.range n) = 0 := by
        intro n
        induction n with
        | zero => rfl
        | succ n ih =>
          rw [List.range_succ, invA_app, ih]
          show 0 + ((List.range n).countP _ + 0) = 0
          rw [countP_zero fun x hx => List.mem_range.mp hx]
      rw [eg, z] at hk
      omega
    obtain ⟨u, a, b, v, e, hba⟩ := this
    have h1 := invA_nb u v hba
    have rg' : IsRow (u ++ b :: a :: v) := isRow_perm rg (by
      rw [e]
      exact List.Perm.append_left u (List.Perm.swap a b v))
    have hl' : (u ++ b :: a :: v).length = f.length := by
      rw [← hl, e]
      simp
    have i := ih (g := u ++ b :: a :: v) (by rw [e] at hk; omega) rg' hl'
    have nab : f.getD a 0 ≠ f.getD b 0 := fun z => by
      have ha : a < f.length := by rw [← hl]; exact rg.lt a (by rw [e]; simp)
      have hb : b < f.length := by rw [← hl]; exact rg.lt b (by rw [e]; simp)
      have := getD_inj rf ha hb z
      omega
    have j1 : joinL f g = joinL f u ++ f.getD a 0 :: f.getD b 0 :: joinL f v := by
      rw [e]
      simp [joinL]
    have j2 : joinL f (u ++ b :: a :: v) = joinL f u ++ f.getD b 0 :: f.getD a 0 :: joinL f v := by simp [joinL]
    rw [j2] at i
    rw [j1, e, h1]
    rcases Nat.lt_or_ge (f.getD b 0) (f.getD a 0) with h | h
    · rw [invA_nb _ _ h]
      omega
    · have := invA_nb (joinL f u) (joinL f v) (a := f.getD b 0) (b := f.getD a 0) (by omega)
      omega
theorem inv_range (n : Nat) : invA [] (List.range n) = 0 := by
  induction n with
  | zero => rfl
  | succ n ih =>
    rw [List.range_succ, invA_app, ih]
    show 0 + ((List.range n).countP _ + 0) = 0
    rw [countP_zero fun x hx => List.mem_range.mp hx]
theorem sign_join {f g : List Nat} (rf : IsRow f) (rg : IsRow g) (h : g.length = f.length) : decide (invA [] (joinL f g) % 2 = 0) = (decide (invA [] f % 2 = 0) == decide (invA [] g % 2 = 0)) := by
  have e := inv_sign rf _ rfl rg h
  rw [Bool.eq_iff_iff]
  simp only [decide_eq_true_eq, beq_iff_eq, decide_eq_decide]
  omega
theorem sign_inv {f : List Nat} (r : IsRow f) : decide (invA [] (invL f) % 2 = 0) = decide (invA [] f % 2 = 0) := by
  have e := inv_sign r _ rfl (isRow_inv r) (invL_len f)
  rw [join_inv r, inv_range] at e
  rw [decide_eq_decide]
  omega
/-! ### the rings of others -/
/-- the least place of x's ring -/
def leadOf (f : List Nat) (x : Nat) : Nat := ((List.range f.length).find? fun p => decide (p ∈ ringL f x)).getD 0
theorem leadOf_spec {f : List Nat} (r : IsRow f) {x : Nat} (hx : x < f.length) : leadOf f x ∈ ringL f x ∧ ∀ y ∈ ringL f x, leadOf f x ≤ y := by
  cases q : (List.range f.length).find? fun p => decide (p ∈ ringL f x) with
  | none =>
    have := List.find?_eq_none.mp q x (List.mem_range.mpr hx)
    simp [self_ringL] at this
  | some p =>
    have e : leadOf f x = p := by
      unfold leadOf
      rw [q]
      rfl
    rw [e]
    have h1 := List.find?_some q
    refine ⟨by simpa using h1, fun y hy => ?_⟩
    have hyl := ringL_lt r hx hy
    rw [List.find?_eq_some_iff_append] at q
    obtain ⟨_, as, bs, eq, ha⟩ := q
    have hl : as.length = p := by
      have h3 : (List.range f.length)[as.length]? = some p := by rw [eq]; simp
      rw [List.getElem?_range (by
        have := congrArg List.length eq
        simp at this
        omega)] at h3
      exact Option.some.inj h3
    rcases Nat.lt_or_ge y p with c | c
    · have hm : y ∈ as := by
        have h3 : (List.range f.length)[y]? = some y := List.getElem?_range hyl
        rw [eq, List.getElem?_append_left (by omega)] at h3
        exact List.mem_of_getElem? h3
      have := ha _ hm
      simp [hy] at this
    · exact c
theorem leadOf_lt {f : List Nat} (r : IsRow f) {x : Nat} (hx : x < f.length) : leadOf f x < f.length := ringL_lt r hx (leadOf_spec r hx).1
theorem leadOf_lead {f : List Nat} (r : IsRow f) {x : Nat} (hx : x < f.length) : lead f (leadOf f x) = true := by
  obtain ⟨h1, h2⟩ := leadOf_spec r hx
  exact lead_iff.mpr fun y hy => h2 y (ringL_trans r hx h1 hy)
/-- who leads a ring -/
theorem leadOf_eq {f : List Nat} (r : IsRow f) {x p : Nat} (hx : x < f.length) (h1 : p ∈ ringL f x) (h2 : lead f p = true) : leadOf f x = p := by
  obtain ⟨a1, a2⟩ := leadOf_spec r hx
  have l1 := a2 p h1
  have hp := ringL_lt r hx h1
  have l2 := lead_iff.mp h2 (leadOf f x) (ringL_trans r hp (ringL_symm r hx h1) a1)
  omega
theorem leadOf_self {f : List Nat} (r : IsRow f) {p : Nat} (hp : p < f.length) (h : lead f p = true) : leadOf f p = p := leadOf_eq r hp (self_ringL f p) h
def leads (f : List Nat) : List Nat := (List.range f.length).filter (lead f)
theorem leads_nodup (f : List Nat) : (leads f).Nodup := List.nodup_range.filter _
theorem mem_leads {f : List Nat} {p : Nat} : p ∈ leads f ↔ p < f.length ∧ lead f p = true := by simp [leads]
theorem ringsL_leads (f : List Nat) : ringsL f = (leads f).map (ringL f) := rfl
theorem leads_sorted (f : List Nat) : (leads f).Pairwise (· ≤ ·) := (range_sorted _).filter _
/-- the ring of s, turned so that its least place comes first -/
theorem ring_turn {f : List Nat} (r : IsRow f) {s : Nat} (hs : s < f.length) : ∃ k, k < per f s ∧ it f k s = leadOf f s ∧ (ringL f s).drop k ++ (ringL f s).take k = ringL f (leadOf f s) := by
  obtain ⟨h1, _⟩ := leadOf_spec r hs
  obtain ⟨k, hk, ek⟩ := List.mem_map.mp h1
  have hk := List.mem_range.mp hk
  refine ⟨k, hk, ek, ?_⟩
  have hp : per f (leadOf f s) = per f s := by rw [← ek, per_it r hs]
  apply List.ext_getElem?
  intro j
  rcases Nat.lt_or_ge j (per f s) with hj | hj
  · rw [ringL_get (p := leadOf f s) (by rw [hp]; exact hj), ← ek, ← it_add]
    rcases Nat.lt_or_ge (j + k) (per f s) with c | c
    · rw [List.getElem?_append_left (by rw [List.length_drop, ringL_len]; omega), List.getElem?_drop, Nat.add_comm k j, ringL_get c]
    · rw [List.getElem?_append_right (by rw [List.length_drop, ringL_len]; omega), List.getElem?_take_of_lt (by rw [List.length_drop, ringL_len]; omega), List.length_drop, ringL_len, ringL_get (by omega)]
      congr 1
      rw [show j + k = (j - (per f s - k)) + per f s by omega, it_add, it_per r hs]
  · rw [List.getElem?_eq_none (by rw [List.length_append, List.length_drop, List.length_take, ringL_len]; omega), List.getElem?_eq_none (by rw [ringL_len, hp]; exact hj)]
/-- the rings of what takes back -/
theorem inv_ring {f : List Nat} (r : IsRow f) {x y : Nat} (hx : x < f.length) : y ∈ ringL (invL f) x ↔ y ∈ ringL f x := by
  have ri := isRow_inv r
  have hxi : x < (invL f).length := by rw [invL_len]; exact hx
  constructor
  · intro h
    obtain ⟨k, rfl⟩ := (mem_ringL ri hxi).mp h
    have hk := it_lt ri hxi k
    rw [invL_len] at hk
    exact ringL_symm r hk ((mem_ringL r hk).mpr ⟨k, (inv_it r k hx).symm⟩)
  · intro h
    obtain ⟨k, rfl⟩ := (mem_ringL r hx).mp h
    have hk := it_lt r hx k
    have hki : it f k x < (invL f).length := by rw [invL_len]; exact hk
    refine ringL_symm ri hki ((mem_ringL ri hki).mpr ⟨k, ?_⟩)
    have := inv_it ri k (x := x) hxi
    rw [inv_inv r] at this
    exact this.symm
theorem inv_lead {f : List Nat} (r : IsRow f) {x : Nat} (hx : x < f.length) : lead (invL f) x = lead f x := by
  rw [Bool.eq_iff_iff, lead_iff, lead_iff]
  exact ⟨fun h y hy => h y ((inv_ring r hx).mpr hy), fun h y hy => h y ((inv_ring r hx).mp hy)⟩
theorem inv_leads {f : List Nat} (r : IsRow f) : leads (invL f) = leads f := by
  unfold leads
  rw [invL_len]
  exact List.filter_congr fun x hx => inv_lead r (List.mem_range.mp hx)
/-- a ring read from behind -/
theorem ring_rev {f : List Nat} (r : IsRow f) {p : Nat} (hp : p < f.length) : (ringL f p).reverse = ringL (invL f) (it f (per f p - 1) p) := by
  have ri := isRow_inv r
  have hq := it_lt r hp (per f p - 1)
  have hqi : it f (per f p - 1) p < (invL f).length := by rw [invL_len]; exact hq
  have p0 := per_pos f p
  have back : ∀ k, k ≤ per f p - 1 → it (invL f) k (it f (per f p - 1) p) = it f (per f p - 1 - k) p := fun k hk => by
    refine it_inj r (by
      have := it_lt ri hqi k
      rw [invL_len] at this
      exact this) (it_lt r hp _) k ?_
    rw [inv_it r k hq, ← it_add]
    congr 1
    omega
  have hper : per (invL f) (it f (per f p - 1) p) = per f p := by
    have a1 : it (invL f) (per f p) (it f (per f p - 1) p) = it f (per f p - 1) p := by
      have e := back (per f p - 1) (Nat.le_refl _)
      have q : it (invL f) (per f p) (it f (per f p - 1) p) = it (invL f) 1 (it (invL f) (per f p - 1) (it f (per f p - 1) p)) := by
        rw [← it_add]
        congr 1
        omega
      rw [q, e, Nat.sub_self]
      refine it_inj r (by
        have := it_lt ri (p := p) (by rw [invL_len]; exact hp) 1
        rw [invL_len] at this
        exact this) hq 1 ?_
      rw [it_zero, inv_it r 1 hp, ← it_add, show 1 + (per f p - 1) = per f p by omega, it_per r hp]
    have d1 := it_dvd ri hqi a1
    have m := per_le ri hqi
    have c := per_pos (invL f) (it f (per f p - 1) p)
    rcases Nat.lt_or_ge (per (invL f) (it f (per f p - 1) p)) (per f p) with h | h
    · have e1 := it_per ri hqi
      rw [back _ (by omega)] at e1
      have := it_inj2 r hp (by omega) (by omega) e1
      omega
    · rcases Nat.lt_or_ge (per f p) (per (invL f) (it f (per f p - 1) p)) with h2 | h2
      · rw [Nat.mod_eq_of_lt h2] at d1
        omega
      · omega
  apply List.ext_getElem (by rw [List.length_reverse, ringL_len, ringL_len, hper])
  intro k h1 h2
  rw [List.getElem_reverse]
  rw [List.length_reverse, ringL_len] at h1
  simp only [ringL, List.getElem_map, List.getElem_range, List.length_map, List.length_range]
  rw [back k (by omega)]
theorem per_eq {f : List Nat} (r : IsRow f) {x m : Nat} (hx : x < f.length) (m0 : 0 < m) (h1 : it f m x = x) (h2 : ∀ k, 0 < k → k < m → it f k x ≠ x) : per f x = m := by
  rcases Nat.lt_trichotomy (per f x) m with h | h | h
  · exact absurd (it_per r hx) (h2 _ (per_pos f x) h)
  · exact h
  · exact absurd h1 (per_min r hx m0 h)
/-- carried over: first what takes b back, then a, then b -/
def conjL (a b : List Nat) : List Nat := joinL (joinL (invL b) a) b
section
variable {a b : List Nat} (ra : IsRow a) (rb : IsRow b) (h : a.length = b.length)
theorem conj_len : (conjL a b).length = b.length := by rw [conjL, joinL_len]
include ra rb h
theorem conj_row : IsRow (conjL a b) := by
  have h1 : (invL b).length = a.length := by rw [invL_len, h]
  exact isRow_join (isRow_join (isRow_inv rb) ra h1) rb (by rw [joinL_len, h])
theorem conj_get {x : Nat} (hx : x < b.length) : (conjL a b).getD x 0 = (invL b).getD (a.getD (b.getD x 0) 0) 0 := by
  rw [conjL, joinL_get _ _ hx, joinL_get _ _ (by rw [h]; exact getD_lt rb hx)]
theorem conj_it {p : Nat} (hp : p < a.length) : ∀ k, it (conjL a b) k ((invL b).getD p 0) = (invL b).getD (it a k p) 0
  | 0 => rfl
  | k + 1 => by
    have hk := it_lt ra hp k
    have hi : (invL b).getD (it a k p) 0 < b.length := by
      have := getD_lt (isRow_inv rb) (j := it a k p) (by rw [invL_len]; omega)
      rw [invL_len] at this
      exact this
    rw [it_succ, conj_it hp k, conj_get ra rb h hi, it_succ]
    congr 2
    rw [invL_get (by omega), getD_idx rb (by omega)]
theorem conj_back {p : Nat} (hp : p < a.length) : (invL b).getD p 0 < (conjL a b).length := by
  have := getD_lt (isRow_inv rb) (j := p) (by rw [invL_len]; omega)
  rw [invL_len] at this
  rw [conj_len]
  exact this
theorem conj_per {p : Nat} (hp : p < a.length) : per (conjL a b) ((invL b).getD p 0) = per a p := by
  have inj : ∀ x y, x < a.length → y < a.length → (invL b).getD x 0 = (invL b).getD y 0 → x = y := fun x y hx hy e =>
    getD_inj (isRow_inv rb) (by rw [invL_len]; omega) (by rw [invL_len]; omega) e
  refine per_eq (conj_row ra rb h) (conj_back ra rb h hp) (per_pos a p) ?_ fun k k0 k1 e => ?_
  · rw [conj_it ra rb h hp, it_per ra hp]
  · rw [conj_it ra rb h hp] at e
    exact per_min ra hp k0 k1 (inj _ _ (it_lt ra hp k) hp e)
/-- a ring carried over -/
theorem conj_ring {p : Nat} (hp : p < a.length) : joinL (invL b) (ringL a p) = ringL (conjL a b) ((invL b).getD p 0) := by
  unfold joinL ringL
  rw [List.map_map, conj_per ra rb h hp]
  apply List.map_congr_left
  intro k _
  exact (conj_it ra rb h hp k).symm
theorem conj_mem {p x : Nat} (hp : p < a.length) : x ∈ ringL (conjL a b) ((invL b).getD p 0) ↔ ∃ y, y ∈ ringL a p ∧ x = (invL b).getD y 0 := by
  rw [← conj_ring ra rb h hp]
  unfold joinL
  rw [List.mem_map]
  exact ⟨fun ⟨y, hy, e⟩ => ⟨y, hy, e.symm⟩, fun ⟨y, hy, e⟩ => ⟨y, hy, e.symm⟩⟩
theorem conj_leads : (((leads a).map fun p => (invL b).getD p 0).map (leadOf (conjL a b))).Perm (leads (conjL a b)) := by
  have rc := conj_row ra rb h
  have inj : ∀ x y, x < a.length → y < a.length → (invL b).getD x 0 = (invL b).getD y 0 → x = y := fun x y hx hy e =>
    getD_inj (isRow_inv rb) (by rw [invL_len]; omega) (by rw [invL_len]; omega) e
  refine (List.perm_ext_iff_of_nodup ?_ (leads_nodup _)).mpr fun q => ?_
  · rw [List.map_map, List.nodup_iff_pairwise_ne, List.pairwise_map]
    refine List.Pairwise.imp_of_mem ?_ (leads_nodup a)
    intro p p' hp hp' ne e
    obtain ⟨lp, ldp⟩ := mem_leads.mp hp
    obtain ⟨lp', ldp'⟩ := mem_leads.mp hp'
    refine ne ?_
    have e' : leadOf (conjL a b) ((invL b).getD p 0) = leadOf (conjL a b) ((invL b).getD p' 0) := e
    have m1 := (leadOf_spec rc (conj_back ra rb h lp)).1
    have m2 := (leadOf_spec rc (conj_back ra rb h lp')).1
    rw [e'] at m1
    obtain ⟨y, hy, ey⟩ := (conj_mem ra rb h lp).mp m1
    obtain ⟨y', hy', ey'⟩ := (conj_mem ra rb h lp').mp m2
    have eyy := inj y y' (ringL_lt ra lp hy) (ringL_lt ra lp' hy') (ey.symm.trans ey')
    subst eyy
    have x1 := lead_iff.mp ldp p' (ringL_trans ra lp hy (ringL_symm ra lp' hy'))
    have x2 := lead_iff.mp ldp' p (ringL_trans ra lp' hy' (ringL_symm ra lp hy))
    omega
  · constructor
    · intro m
      rw [List.map_map] at m
      obtain ⟨p, hp, rfl⟩ := List.mem_map.mp m
      obtain ⟨lp, _⟩ := mem_leads.mp hp
      exact mem_leads.mpr ⟨leadOf_lt rc (conj_back ra rb h lp), leadOf_lead rc (conj_back ra rb h lp)⟩
    · intro m
      obtain ⟨lq, ldq⟩ := mem_leads.mp m
      have lq' : q < b.length := by rw [conj_len] at lq; exact lq
      have hbq := getD_lt rb lq'
      obtain ⟨p, lp, ldp, mp⟩ := lead_ex ra (x := b.getD q 0) (by omega)
      rw [List.map_map]
      refine List.mem_map.mpr ⟨p, mem_leads.mpr ⟨lp, ldp⟩, ?_⟩
      refine leadOf_eq rc (conj_back ra rb h lp) ?_ ldq
      refine (conj_mem ra rb h lp).mpr ⟨b.getD q 0, mp, ?_⟩
      rw [invL_get hbq, idx_getD rb lq']
end
theorem rev_leads {f : List Nat} (r : IsRow f) : (((leads f).map fun p => it f (per f p - 1) p).map (leadOf (invL f))) = leads (invL f) := by
  rw [inv_leads r, List.map_map]
  refine (List.map_congr_left fun p hp => ?_).trans (List.map_id _)
  obtain ⟨lp, ldp⟩ := mem_leads.mp hp
  have hq := it_lt r lp (per f p - 1)
  refine leadOf_eq (isRow_inv r) (by rw [invL_len]; exact hq) ?_ (by show lead (invL f) p = true; rw [inv_lead r lp]; exact ldp)
  exact (inv_ring r hq).mpr (ringL_symm r lp ((mem_ringL r lp).mpr ⟨_, rfl⟩))
theorem filterMap_one {α : Type} {sel : Nat → Option α} {n i0 : Nat} {y : α} (h0 : i0 < n) (h1 : sel i0 = some y) (h2 : ∀ i, i < n → i ≠ i0 → sel i = none) : (List.range n).filterMap sel = [y] := by
  have z : ∀ m, m ≤ i0 → (List.range m).filterMap sel = [] := by
    intro m
    induction m with
    | zero => intro _; rfl
    | succ m ih =>
      intro hm
      rw [List.range_succ, List.filterMap_append, ih (by omega)]
      simp [h2 m (by omega) (by omega)]
  have : ∀ m, m ≤ n → i0 < m → (List.range m).filterMap sel = [y] := by
    intro m
    induction m with
    | zero => intro _ h; omega
    | succ m ih =>
      intro hm h
      rw [List.range_succ, List.filterMap_append]
      by_cases e : i0 = m
      · subst e
        rw [z _ (Nat.le_refl _)]
        simp [h1]
      · rw [ih (by omega) (by omega)]
        simp [h2 m (by omega) (fun q => e q.symm)]
  exact this n (Nat.le_refl _) h0
/-! ### what the law sorts -/
open PySem PySem.Spec PyProof.Rows L2
/-- rings of g, from the places S on, as lists or tuples -/
def RingsAt (K : PySem.W.Frag) (H : Hp) (g : List Nat) (xs : List V) (S : List Nat) : Prop :=
  xs.length = S.length ∧ ∀ (i : Nat) (x : V) (s : Nat), xs[i]? = some x → S[i]? = some s → ∃ (q : Addr) (b : Bool), x = V.ref q ∧ SqB b K H q ((ringL g s).map vI)
theorem RingsAt.same {K : PySem.W.Frag} {H H' : Hp} {g S : List Nat} {xs : List V} (h : RingsAt K H g xs S) (s : Same H H') : RingsAt K H' g xs S :=
  ⟨h.1, fun i x y a b => by
    obtain ⟨q, c, e, r⟩ := h.2 i x y a b
    exact ⟨q, c, e, Same.sqb s r⟩⟩
/-- the places that lead, sorted -/
theorem sorted_leads {g S : List Nat} {ns : List Int} (p1 : ns.Perm (S.map Int.ofNat)) (p2 : ns.Pairwise (· ≤ ·)) (p3 : S.Perm (leads g)) : ns = (leads g).map Int.ofNat := by
  refine List.Perm.eq_of_pairwise (fun a b _ _ h1 h2 => Int.le_antisymm h1 h2) p2 ?_ (p1.trans (p3.map _))
  rw [List.pairwise_map]
  exact (leads_sorted g).imp fun h => Int.ofNat_le.mpr h
def pickR (S : List Nat) (rs : List Addr) (u : Nat) (j : Nat) : Option V := (S[j]?.bind fun v => if v = u then some () else none).bind fun _ => rs[j]?.map V.ref
theorem pickR_one {S : List Nat} {rs : List Addr} {u i0 : Nat} {r : Addr} (nd : S.Nodup) (h0 : S[i0]? = some u) (h1 : rs[i0]? = some r) : (List.range S.length).filterMap (pickR S rs u) = [V.ref r] := by
  refine filterMap_one (i0 := i0) (List.getElem?_eq_some_iff.mp h0).1 ?_ fun i hi ne => ?_
  · simp [pickR, h0, h1]
  · have e := List.getElem?_eq_getElem hi
    have hne : S[i] ≠ u := fun z => ne (nd_ix nd (i := i) (j := i0) (x := u) (by rw [e, z]) h0)
    simp [pickR, e, hne]
/-- lists of rows in the heap, none of them at D -/
def Lsts (H : Hp) (D : Addr) : List Addr → List (List Nat) → Prop
  | [], [] => True
  | a :: as, r :: rs => (a ≠ D ∧ H a = some (.lst (r.map vI))) ∧ Lsts H D as rs
  | _, _ => False
theorem Lsts.mono {H H' : Hp} {D : Addr} (s : ∀ a o, a ≠ D → H a = some o → H' a = some o) : ∀ {as : List Addr} {rs : List (List Nat)}, Lsts H D as rs → Lsts H' D as rs
  | [], [], _ => trivial
  | _ :: _, _ :: _, h => ⟨⟨h.1.1, s _ _ h.1.1 h.1.2⟩, Lsts.mono s h.2⟩
  | [], _ :: _, h => h
  | _ :: _, [], h => h
theorem Lsts.same {H H' : Hp} {D : Addr} {as : List Addr} {rs : List (List Nat)} (h : Lsts H D as rs) (s : Same H H') : Lsts H' D as rs := h.mono fun a o _ e => s a o e
theorem Lsts.put {H : Hp} {D : Addr} {o : HO} {as : List Addr} {rs : List (List Nat)} (h : Lsts H D as rs) : Lsts (upd H D o) D as rs := h.mono fun a o n e => by
  rw [upd_ne n]
  exact e
theorem Lsts.snoc {H : Hp} {D a : Addr} {r : List Nat} (n : a ≠ D) (e : H a = some (.lst (r.map vI))) : ∀ {as : List Addr} {rs : List (List Nat)}, Lsts H D as rs → Lsts H D (as ++ [a]) (rs ++ [r])
  | [], [], _ => ⟨⟨n, e⟩, trivial⟩
  | _ :: _, _ :: _, h => ⟨h.1, Lsts.snoc n e h.2⟩
  | [], _ :: _, h => h.elim
  | _ :: _, [], h => h.elim
theorem Lsts.len {H : Hp} {D : Addr} : ∀ {as : List Addr} {rs : List (List Nat)}, Lsts H D as rs → as.length = rs.length
  | [], [], _ => rfl
  | _ :: _, _ :: _, h => congrArg (· + 1) (Lsts.len h.2)
  | [], _ :: _, h => h.elim
  | _ :: _, [], h => h.elim
theorem Lsts.get {H : Hp} {D : Addr} {x : V} : ∀ {as : List Addr} {rs : List (List Nat)} {i : Nat}, Lsts H D as rs → (as.map V.ref)[i]? = some x → ∃ a r, x = .ref a ∧ rs[i]? = some r ∧ H a = some (.lst (r.map vI))
  | a :: _, r :: _, 0, h, e => ⟨a, r, (Option.some.inj e).symm, rfl, h.1.2⟩
  | _ :: _, _ :: _, i + 1, h, e => Lsts.get h.2 (i := i) e
  | [], [], _, _, e => by simp at e
  | [], _ :: _, _, h, _ => h.elim
  | _ :: _, [], _, h, _ => h.elim
theorem Lsts.rings {K : PySem.W.Frag} {H : Hp} {D : Addr} {as : List Addr} {g S : List Nat} (h : Lsts H D as (S.map (ringL g))) : RingsAt K H g (as.map V.ref) S := by
  refine ⟨by rw [List.length_map, h.len, List.length_map], fun i x s ex es => ?_⟩
  obtain ⟨a, r, rfl, er, e⟩ := h.get ex
  rw [List.getElem?_map, es] at er
  have := Option.some.inj er
  exact ⟨a, true, rfl, SqL.of (by rw [this]; exact e)⟩
theorem leads_lt {f : List Nat} : ∀ p ∈ leads f, p < f.length := fun p hp => (mem_leads.mp hp).1
theorem leads_len (f : List Nat) : (leads f).length ≤ f.length := Nat.le_trans (List.length_filter_le _ _) (by simp)
end EV

namespace EV
open PySem PySem.Spec PyProof.Rows L2
open He (ga)
local macro_rules | `(tactic| walk_at "r1") => `(tactic| first | refine ⟨_, rfl, ?_⟩ | refine ⟨_, _, rfl, rfl, ?_⟩ | refine Or.inl ⟨_, rfl, ?_⟩ | refine ⟨_, _, rfl, Or.inl (by assumption), ?_⟩ | refine ⟨_, _, rfl, Or.inr (by assumption), ?_⟩ | refine ⟨_, _, rfl, Or.inl (SqL.of (by assumption)), ?_⟩ | refine ⟨_, _, rfl, SqB.or (by assumption), ?_⟩ | refine ⟨_, _, rfl, ?_⟩ | refine And.intro (Or.inl ⟨rfl, _, SqL.of (by assumption)⟩) ?_ | refine And.intro (rfl : scal _ _ = true) ?_ | refine And.intro (by assumption) ?_ | refine And.intro (mul_l (by omega) (by omega)) ?_ | refine And.intro (mul_r (by omega) (by omega)) ?_ | refine And.intro (by omega) ?_ | refine And.intro (by simp only [List.length_map]; omega) ?_)
local macro_rules | `(tactic| walk_at "rp") => `(tactic| first | walk_at "r1" | refine ⟨_, _, rfl, pen_left (by assumption), ?_⟩ | refine ⟨_, _, rfl, pen_at (by assumption), ?_⟩ | refine ⟨_, _, rfl, pen_cells (by assumption), ?_⟩ | refine ⟨_, _, rfl, put_at (by assumption), ?_⟩ | refine ⟨_, _, rfl, put_left (by assumption), ?_⟩)
local macro_rules | `(tactic| walk_at "rd") => `(tactic| repeat walk_at "r1")
local macro_rules | `(tactic| walk_at "rdp") => `(tactic| repeat walk_at "rp")
def topS (i : Nat) : Stmt := PySem.Challenge.pw_everyorder_k03_whole_rules_of_rearrangem.main.body.getD i (.Pass ⟨0, 0, 0, 0⟩)
abbrev s_BadSize___init__ : Stmt := inClass (topS 2) 0
abbrev s_BadNumber___init__ : Stmt := inClass (topS 3) 0
abbrev s_BadRow___init__ : Stmt := inClass (topS 4) 0
abbrev s_is_integer : Stmt := topS 6
theorem sc_is_integer : FnScope ["value"] ["value"] (defScope s_is_integer) := ⟨rfl, rfl, rfl, by decide +kernel, rfl, by decide +kernel, by decide +kernel⟩
abbrev s_need_row : Stmt := topS 9
theorem sc_need_row : FnScope ["row", "seen", "index", "part"] ["row"] (defScope s_need_row) := ⟨rfl, rfl, rfl, by decide +kernel, rfl, by decide +kernel, by decide +kernel⟩
abbrev s_nothing : Stmt := topS 10
theorem sc_nothing : FnScope ["size"] ["size"] (defScope s_nothing) := ⟨rfl, rfl, rfl, by decide +kernel, rfl, by decide +kernel, by decide +kernel⟩
abbrev s_joined : Stmt := topS 11
theorem sc_joined : FnScope ["first", "second", "part"] ["first", "second"] (defScope s_joined) := ⟨rfl, rfl, rfl, by decide +kernel, rfl, by decide +kernel, by decide +kernel⟩
abbrev s_undone : Stmt := topS 12
theorem sc_undone : FnScope ["row", "found", "at", "part"] ["row"] (defScope s_undone) := ⟨rfl, rfl, rfl, by decide +kernel, rfl, by decide +kernel, by decide +kernel⟩
abbrev s_done : Stmt := topS 13
theorem sc_done : FnScope ["row", "things", "part"] ["row", "things"] (defScope s_done) := ⟨rfl, rfl, rfl, by decide +kernel, rfl, by decide +kernel, by decide +kernel⟩
abbrev s_rings : Stmt := topS 14
theorem sc_rings : FnScope ["row", "found", "seen", "first", "ring", "place"] ["row"] (defScope s_rings) := ⟨rfl, rfl, rfl, by decide +kernel, rfl, by decide +kernel, by decide +kernel⟩
abbrev s_repeated : Stmt := topS 15
theorem sc_repeated : FnScope ["row", "many", "found", "ring", "at", "place"] ["row", "many"] (defScope s_repeated) := ⟨rfl, rfl, rfl, by decide +kernel, rfl, by decide +kernel, by decide +kernel⟩
abbrev s_is_even : Stmt := topS 16
theorem sc_is_even : FnScope ["row"] ["row"] (defScope s_is_even) := ⟨rfl, rfl, rfl, by decide +kernel, rfl, by decide +kernel, by decide +kernel⟩
abbrev s__law_pen : Stmt := topS 18
theorem sc__law_pen : FnScope ["script"] ["script"] (defScope s__law_pen) := ⟨rfl, rfl, rfl, by decide +kernel, rfl, by decide +kernel, by decide +kernel⟩
abbrev s__law_draw : Stmt := topS 19
theorem sc__law_draw : FnScope ["pen", "many", "digit", "at", "cell", "mixed"] ["pen", "many"] (defScope s__law_draw) := ⟨rfl, rfl, rfl, by decide +kernel, rfl, by decide +kernel, by decide +kernel⟩
abbrev s__law_pick : Stmt := topS 20
theorem sc__law_pick : FnScope ["pen", "some"] ["pen", "some"] (defScope s__law_pick) := ⟨rfl, rfl, rfl, by decide +kernel, rfl, by decide +kernel, by decide +kernel⟩
abbrev s__law_shuffled : Stmt := topS 21
theorem sc__law_shuffled : FnScope ["pen", "some", "left", "found", "k"] ["pen", "some"] (defScope s__law_shuffled) := ⟨rfl, rfl, rfl, by decide +kernel, rfl, by decide +kernel, by decide +kernel⟩
abbrev s__law_row : Stmt := topS 22
theorem sc__law_row : FnScope ["pen", "size"] ["pen", "size"] (defScope s__law_row) := ⟨rfl, rfl, rfl, by decide +kernel, rfl, by decide +kernel, by decide +kernel⟩
abbrev s__law_least_first : Stmt := topS 23
theorem sc__law_least_first : FnScope ["ring", "at", "place"] ["ring"] (defScope s__law_least_first) := ⟨rfl, rfl, rfl, by decide +kernel, rfl, by decide +kernel, by decide +kernel⟩
abbrev s__law_sorted_rings : Stmt := topS 24
theorem sc__law_sorted_rings : FnScope ["some", "rows", "found", "place", "ring", "row"] ["some"] (defScope s__law_sorted_rings) := ⟨rfl, rfl, rfl, by decide +kernel, rfl, by decide +kernel, by decide +kernel⟩
abbrev s_law : Stmt := topS 25
theorem sc_law : FnScope ["script", "pen", "lap", "size", "a", "b", "c", "still", "many", "more", "carried", "back", "moved", "ring", "place"] ["script"] (defScope s_law) := ⟨rfl, rfl, rfl, by decide +kernel, rfl, by decide +kernel, by decide +kernel⟩
def dfn : List He.DefD := [⟨("is_integer", none), "is_integer", "is_integer", defArgs s_is_integer, defBody s_is_integer, defScope s_is_integer, [], []⟩,
  ⟨("need_row", none), "need_row", "need_row", defArgs s_need_row, defBody s_need_row, defScope s_need_row, [], []⟩,
  ⟨("nothing", none), "nothing", "nothing", defArgs s_nothing, defBody s_nothing, defScope s_nothing, [], []⟩,
  ⟨("joined", none), "joined", "joined", defArgs s_joined, defBody s_joined, defScope s_joined, [], []⟩,
  ⟨("undone", none), "undone", "undone", defArgs s_undone, defBody s_undone, defScope s_undone, [], []⟩,
  ⟨("done", none), "done", "done", defArgs s_done, defBody s_done, defScope s_done, [], []⟩,
  ⟨("rings", none), "rings", "rings", defArgs s_rings, defBody s_rings, defScope s_rings, [], []⟩,
  ⟨("repeated", none), "repeated", "repeated", defArgs s_repeated, defBody s_repeated, defScope s_repeated, [], []⟩,
  ⟨("is_even", none), "is_even", "is_even", defArgs s_is_even, defBody s_is_even, defScope s_is_even, [], []⟩,
  ⟨("_law_pen", none), "_law_pen", "_law_pen", defArgs s__law_pen, defBody s__law_pen, defScope s__law_pen, [], []⟩,
  ⟨("_law_draw", none), "_law_draw", "_law_draw", defArgs s__law_draw, defBody s__law_draw, defScope s__law_draw, [], []⟩,
  ⟨("_law_pick", none), "_law_pick", "_law_pick", defArgs s__law_pick, defBody s__law_pick, defScope s__law_pick, [], []⟩,
  ⟨("_law_shuffled", none), "_law_shuffled", "_law_shuffled", defArgs s__law_shuffled, defBody s__law_shuffled, defScope s__law_shuffled, [], []⟩,
  ⟨("_law_row", none), "_law_row", "_law_row", defArgs s__law_row, defBody s__law_row, defScope s__law_row, [], []⟩,
  ⟨("_law_least_first", none), "_law_least_first", "_law_least_first", defArgs s__law_least_first, defBody s__law_least_first, defScope s__law_least_first, [], []⟩,
  ⟨("_law_sorted_rings", none), "_law_sorted_rings", "_law_sorted_rings", defArgs s__law_sorted_rings, defBody s__law_sorted_rings, defScope s__law_sorted_rings, [], []⟩,
  ⟨("law", none), "law", "law", defArgs s_law, defBody s_law, defScope s_law, [], []⟩]
def dfa : List He.Fa := [.glo "is_integer",
  .glo "need_row",
  .glo "nothing",
  .glo "joined",
  .glo "undone",
  .glo "done",
  .glo "rings",
  .glo "repeated",
  .glo "is_even",
  .glo "_law_pen",
  .glo "_law_draw",
  .glo "_law_pick",
  .glo "_law_shuffled",
  .glo "_law_row",
  .glo "_law_least_first",
  .glo "_law_sorted_rings",
  .glo "law",
  .free "len",
  .free "list",
  .free "tuple",
  .free "int",
  .free "bool",
  .free "range",
  .free "enumerate",
  .free "isinstance",
  .free "min",
  .free "sorted",
  .free "ValueError",
  .int "MOST_SIZE" 1000]
/-- what the top has written -/
structure Tx (K : PySem.W.Frag) (mg : Str → Option Value) : Prop where
  d_is_integer : Stands K "is_integer" s_is_integer
  d_need_row : Stands K "need_row" s_need_row
  d_nothing : Stands K "nothing" s_nothing
  d_joined : Stands K "joined" s_joined
  d_undone : Stands K "undone" s_undone
  d_done : Stands K "done" s_done
  d_rings : Stands K "rings" s_rings
  d_repeated : Stands K "repeated" s_repeated
  d_is_even : Stands K "is_even" s_is_even
  d__law_pen : Stands K "_law_pen" s__law_pen
  d__law_draw : Stands K "_law_draw" s__law_draw
  d__law_pick : Stands K "_law_pick" s__law_pick
  d__law_shuffled : Stands K "_law_shuffled" s__law_shuffled
  d__law_row : Stands K "_law_row" s__law_row
  d__law_least_first : Stands K "_law_least_first" s__law_least_first
  d__law_sorted_rings : Stands K "_law_sorted_rings" s__law_sorted_rings
  d_law : Stands K "law" s_law
  g_is_integer : mg "is_integer" = some (.ref (ga K "is_integer"))
  g_need_row : mg "need_row" = some (.ref (ga K "need_row"))
  g_nothing : mg "nothing" = some (.ref (ga K "nothing"))
  g_joined : mg "joined" = some (.ref (ga K "joined"))
  g_undone : mg "undone" = some (.ref (ga K "undone"))
  g_done : mg "done" = some (.ref (ga K "done"))
  g_rings : mg "rings" = some (.ref (ga K "rings"))
  g_repeated : mg "repeated" = some (.ref (ga K "repeated"))
  g_is_even : mg "is_even" = some (.ref (ga K "is_even"))
  g__law_pen : mg "_law_pen" = some (.ref (ga K "_law_pen"))
  g__law_draw : mg "_law_draw" = some (.ref (ga K "_law_draw"))
  g__law_pick : mg "_law_pick" = some (.ref (ga K "_law_pick"))
  g__law_shuffled : mg "_law_shuffled" = some (.ref (ga K "_law_shuffled"))
  g__law_row : mg "_law_row" = some (.ref (ga K "_law_row"))
  g__law_least_first : mg "_law_least_first" = some (.ref (ga K "_law_least_first"))
  g__law_sorted_rings : mg "_law_sorted_rings" = some (.ref (ga K "_law_sorted_rings"))
  g_law : mg "law" = some (.ref (ga K "law"))
  z_len : mg "len" = none
  z_list : mg "list" = none
  z_tuple : mg "tuple" = none
  z_int : mg "int" = none
  z_bool : mg "bool" = none
  z_range : mg "range" = none
  z_enumerate : mg "enumerate" = none
  z_isinstance : mg "isinstance" = none
  z_min : mg "min" = none
  z_sorted : mg "sorted" = none
  z_ValueError : mg "ValueError" = none
  i_MOST_SIZE : ∃ t, mg "MOST_SIZE" = some (.int 1000 t)
theorem tx_of {K : PySem.W.Frag} {h : Heap} {mg : Str → Option Value} (X : K.In h) (G : h.Ns mainGlobals mg) (c : He.SaysD dfa dfn K) : Tx K mg where
  d_is_integer := c.def_ 0 rfl
  d_need_row := c.def_ 1 rfl
  d_nothing := c.def_ 2 rfl
  d_joined := c.def_ 3 rfl
  d_undone := c.def_ 4 rfl
  d_done := c.def_ 5 rfl
  d_rings := c.def_ 6 rfl
  d_repeated := c.def_ 7 rfl
  d_is_even := c.def_ 8 rfl
  d__law_pen := c.def_ 9 rfl
  d__law_draw := c.def_ 10 rfl
  d__law_pick := c.def_ 11 rfl
  d__law_shuffled := c.def_ 12 rfl
  d__law_row := c.def_ 13 rfl
  d__law_least_first := c.def_ 14 rfl
  d__law_sorted_rings := c.def_ 15 rfl
  d_law := c.def_ 16 rfl
  g_is_integer := He.glo_ok X G (c.fact 0 (f := .glo "is_integer") rfl)
  g_need_row := He.glo_ok X G (c.fact 1 (f := .glo "need_row") rfl)
  g_nothing := He.glo_ok X G (c.fact 2 (f := .glo "nothing") rfl)
  g_joined := He.glo_ok X G (c.fact 3 (f := .glo "joined") rfl)
  g_undone := He.glo_ok X G (c.fact 4 (f := .glo "undone") rfl)
  g_done := He.glo_ok X G (c.fact 5 (f := .glo "done") rfl)
  g_rings := He.glo_ok X G (c.fact 6 (f := .glo "rings") rfl)
  g_repeated := He.glo_ok X G (c.fact 7 (f := .glo "repeated") rfl)
  g_is_even := He.glo_ok X G (c.fact 8 (f := .glo "is_even") rfl)
  g__law_pen := He.glo_ok X G (c.fact 9 (f := .glo "_law_pen") rfl)
  g__law_draw := He.glo_ok X G (c.fact 10 (f := .glo "_law_draw") rfl)
  g__law_pick := He.glo_ok X G (c.fact 11 (f := .glo "_law_pick") rfl)
  g__law_shuffled := He.glo_ok X G (c.fact 12 (f := .glo "_law_shuffled") rfl)
  g__law_row := He.glo_ok X G (c.fact 13 (f := .glo "_law_row") rfl)
  g__law_least_first := He.glo_ok X G (c.fact 14 (f := .glo "_law_least_first") rfl)
  g__law_sorted_rings := He.glo_ok X G (c.fact 15 (f := .glo "_law_sorted_rings") rfl)
  g_law := He.glo_ok X G (c.fact 16 (f := .glo "law") rfl)
  z_len := He.free_ok X G (c.fact 17 (f := .free "len") rfl)
  z_list := He.free_ok X G (c.fact 18 (f := .free "list") rfl)
  z_tuple := He.free_ok X G (c.fact 19 (f := .free "tuple") rfl)
  z_int := He.free_ok X G (c.fact 20 (f := .free "int") rfl)
  z_bool := He.free_ok X G (c.fact 21 (f := .free "bool") rfl)
  z_range := He.free_ok X G (c.fact 22 (f := .free "range") rfl)
  z_enumerate := He.free_ok X G (c.fact 23 (f := .free "enumerate") rfl)
  z_isinstance := He.free_ok X G (c.fact 24 (f := .free "isinstance") rfl)
  z_min := He.free_ok X G (c.fact 25 (f := .free "min") rfl)
  z_sorted := He.free_ok X G (c.fact 26 (f := .free "sorted") rfl)
  z_ValueError := He.free_ok X G (c.fact 27 (f := .free "ValueError") rfl)
  i_MOST_SIZE := He.int_ok X G (c.fact 28 (f := .int "MOST_SIZE" 1000) rfl)
end EV

namespace EV
open PySem PySem.Spec PyProof.Rows L2
open He (ga)
local macro_rules | `(tactic| walk_at "r1") => `(tactic| first | refine ⟨_, rfl, ?_⟩ | refine ⟨_, _, rfl, rfl, ?_⟩ | refine Or.inl ⟨_, rfl, ?_⟩ | refine ⟨_, _, rfl, Or.inl (by assumption), ?_⟩ | refine ⟨_, _, rfl, Or.inr (by assumption), ?_⟩ | refine ⟨_, _, rfl, Or.inl (SqL.of (by assumption)), ?_⟩ | refine ⟨_, _, rfl, SqB.or (by assumption), ?_⟩ | refine ⟨_, _, rfl, ?_⟩ | refine And.intro (Or.inl ⟨rfl, _, SqL.of (by assumption)⟩) ?_ | refine And.intro (rfl : scal _ _ = true) ?_ | refine And.intro (by assumption) ?_ | refine And.intro (mul_l (by omega) (by omega)) ?_ | refine And.intro (mul_r (by omega) (by omega)) ?_ | refine And.intro (by omega) ?_ | refine And.intro (by simp only [List.length_map]; omega) ?_)
local macro_rules | `(tactic| walk_at "rp") => `(tactic| first | walk_at "r1" | refine ⟨_, _, rfl, pen_left (by assumption), ?_⟩ | refine ⟨_, _, rfl, pen_at (by assumption), ?_⟩ | refine ⟨_, _, rfl, pen_cells (by assumption), ?_⟩ | refine ⟨_, _, rfl, put_at (by assumption), ?_⟩ | refine ⟨_, _, rfl, put_left (by assumption), ?_⟩)
local macro_rules | `(tactic| walk_at "rd") => `(tactic| repeat walk_at "r1")
local macro_rules | `(tactic| walk_at "rdp") => `(tactic| repeat walk_at "rp")
section
variable {P : Program} {w : World} {K : PySem.W.Frag} {mg : Str → Option Value} {base : Heap}
/-! ### the law's pen and what it draws -/
def sp__law_pen (K : PySem.W.Frag) : Sp := fun vs H Q _ => ∃ (a : Addr) (ns : List Int), vs = [.ref a] ∧ SqL K H a (ns.map V.int) ∧ ∀ p H', Same H H' → H p = none → (∃ c, H c = none ∧ Pen H' p c 0) → Q (.ref p) H'
theorem ok__law_pen  (T : Tx K mg) : Gd P w K mg base 1 "_law_pen" (sp__law_pen K) := by
  refine gd_of (ps := ["script"]) T.g__law_pen T.d__law_pen (fun _ _ _ _ _ _ us hl => match us, hl with | [_], _ => rfl) fun fd F => ?_
  refine ok_of F sc__law_pen (fun vs H Q E h => ?_) fun X H vs Q E hX hr tk po h => ?_
  · obtain ⟨a, ns, rfl, hs, q⟩ := h
    rfl
  · obtain ⟨cdv, A, outer, s, rfl⟩ := hX
    obtain ⟨a, ns, rfl, hs, q⟩ := h
    refine ⟨_, (pss_one (ps_ret (pe_disp (pps_cons pe_str (pe_callTy call_list_of (by rfl) T.z_list (by decide +kernel) (pa_cons (pe_slice sl_list (pv 0) po_none (po_some pe_int)) pa_nil)) (pps_cons pe_str pe_int (pps_cons pe_str pe_int pps_nil))) (by rfl) (by rfl) (fun z => by cases z) (by decide)))), ?_⟩
    clear F hr tk po
    intro p hp
    have hs1 : SqL K (upd H p (.dK [])) a (ns.map V.int) := (Same.new hp).seq hs
    refine ⟨.ref a, rfl, 63, rfl, a, _, rfl, hs1, fun c hc => ?_⟩
    refine ⟨c, _, rfl, .inl (.inl (.inl upd_same)), fun l hl => ?_⟩
    have npc : p ≠ c := ne_of_none (o := .dK []) upd_same hc
    have ncl : c ≠ l := ne_of_none (o := _) upd_same hl
    have npl : p ≠ l := ne_of_none (o := .dK []) (by rw [upd_ne npc]; exact upd_same) hl
    refine ⟨by rw [upd_ne npl, upd_ne npc]; exact upd_same, [(.inr "cells", .ref l), (.inr "at", .int 0), (.inr "left", .int 0)], rfl, by show 3 ≤ 15; decide, ?_⟩
    refine q p _ ?_ hp ?_
    · refine fun b o e => ?_
      have e1 := Same.new (o := .dK []) hp b o e
      have e2 := Same.new (o := .lst (cutV (ns.map V.int) none (some 63))) hc b o e1
      have e3 := Same.new (o := .lst (cutV (ns.map V.int) none (some 63))) hl b o e2
      rw [upd_ne (ne_of_none e hp)]
      exact e3
    · refine ⟨l, none_of (none_of hl), ns.take 63, 0, 0, upd_same, ?_, by omega, by omega, by rw [List.length_take]; omega⟩
      have ec : cutV (ns.map V.int) none (some 63) = (ns.take 63).map V.int := by
        have e1 : HT.sIx (ns.map V.int).length (ns.map V.int).length (some ((63 : Nat) : Int)) = min 63 (ns.map V.int).length := HT.sIx_nat _ _ 63
        unfold cutV
        rw [HT.sIx_none, show (some (63 : Int)) = some ((63 : Nat) : Int) from rfl, e1, List.drop_zero, Nat.sub_zero, List.map_take]
        rw [List.take_eq_take_iff]
        omega
      rw [upd_ne npl.symm, upd_same, ec]
def sp__law_draw (K : PySem.W.Frag) : Sp := fun vs H Q _ => ∃ (p c : Addr) (m : Int) (n : Nat), vs = [.ref p, .int m] ∧ 1 ≤ m ∧ m < 2 ^ 60 ∧ Pen H p c n ∧ n < 2 ^ 30 ∧
  ∀ (d : Int) H', 0 ≤ d → d < m → Keep H H' → Pen H' p c (n + 1) → Q (.int d) H'
theorem ok__law_draw  (T : Tx K mg) : Gd P w K mg base 1 "_law_draw" (sp__law_draw K) := by
  refine gd_of (ps := ["pen", "many"]) T.g__law_draw T.d__law_draw (fun _ _ _ _ _ _ us hl => match us, hl with | [_, _], _ => rfl) fun fd F => ?_
  refine ok_of F sc__law_draw (fun vs H Q E h => ?_) fun X H vs Q E hX hr tk po h => ?_
  · obtain ⟨p, c, m, n, rfl, m1, m2, hp, hn, q⟩ := h
    rfl
  · obtain ⟨cdv, A, outer, s, rfl⟩ := hX
    obtain ⟨p, c, m, n, rfl, m1, m2, hp, hn, q⟩ := h
    refine ⟨_, (pss_cons (ps_if (pt_cmpR op_ge (pe_dget (hu_of hr) (pv 0) pe_str (fun _ _ => rfl)) (pv 1) (nomark _)) (pss_cons (ps_set (i := 2) sc__law_draw.nd rfl (Or.inl rfl) (pe_op op_modN (pe_callTy call_int1 (by rfl) T.z_int (by decide +kernel) (pa_cons (pe_dget (hu_of hr) (pv 0) pe_str (fun _ _ => rfl)) pa_nil)) (pv 1)))
      (pss_cons (ps_dput (hu_of hr) (pv 0) pe_str (pe_op op_fdivW (pe_dget (hu_of hr) (pv 0) pe_str (fun _ _ => rfl)) (pv 1)) rfl)
      (pss_one (ps_ret (pv 2))))) pss_nil)
      (pss_cons (ps_set (i := 3) sc__law_draw.nd rfl (Or.inl rfl) (pe_dget (hu_of hr) (pv 0) pe_str (fun _ _ => rfl)))
      (pss_cons (ps_dput (hu_of hr) (pv 0) pe_str (pe_op op_add (pv 3) pe_int) rfl)
      (pss_cons (ps_set (i := 4) sc__law_draw.nd rfl (Or.inl rfl) (pe_op op_add (pe_op op_mul pe_int (pv 3)) pe_int))
      (Evl.pss_cut (ps_if (pt_cmpR (op_neD hr.units) (pe_dget (hu_of hr) (pv 0) pe_str (fun _ _ => rfl)) (pe_lst pa_nil) (nomark _)) (pss_one (ps_set (i := 4) sc__law_draw.nd rfl (Or.inl rfl) (pe_ix ix_seq (pe_dget (hu_of hr) (pv 0) pe_str (fun _ _ => rfl)) (pe_op op_modN (pe_callTy call_int1 (by rfl) T.z_int (by decide +kernel) (pa_cons (pv 3) pa_nil)) (pe_callB call_len_seq (by rfl) T.z_len (by decide +kernel) (pa_cons (pe_dget (hu_of hr) (pv 0) pe_str (fun _ _ => rfl)) pa_nil))) (fun _ _ => rfl)))) pss_nil)
      (Evl.pss_cut (ps_if (PW.pt (pw_and (pt_cmpR op_lt (pv 3) (pe_callB call_len_seq (by rfl) T.z_len (by decide +kernel) (pa_cons (pe_dget (hu_of hr) (pv 0) pe_str (fun _ _ => rfl)) pa_nil)) (nomark _)) (pw_and1 (pt_cmpR op_ge (pv 4) (pe_op op_pow pe_int pe_int) (nomark _))))) (pss_cons (ps_dput (hu_of hr) (pv 0) pe_str (pe_op op_fdivW (pe_op op_sub (pv 4) (pe_op op_pow pe_int pe_int)) (pv 1)) rfl)
      (pss_one (ps_ret (pe_op op_modN (pe_callTy call_int1 (by rfl) T.z_int (by decide +kernel) (pa_cons (pe_op op_sub (pv 4) (pe_op op_pow pe_int pe_int)) pa_nil)) (pv 1))))) pss_nil)
      (pss_cons (ps_set (i := 5) sc__law_draw.nd rfl (Or.inl rfl) (pe_op op_add (pe_op op_add (pe_op op_add (pe_op op_mul (pe_op op_modN (pe_callTy call_int1 (by rfl) T.z_int (by decide +kernel) (pa_cons (pv 4) pa_nil)) pe_int) pe_int) (pe_op op_mul (pe_op op_mul pe_int (pv 3)) (pv 3))) (pe_op op_mul pe_int (pv 3))) pe_int))
      (pss_cons (ps_set (i := 5) sc__law_draw.nd rfl (Or.inl rfl) (pe_op op_modN (pe_callTy call_int1 (by rfl) T.z_int (by decide +kernel) (pa_cons (pv 5) pa_nil)) pe_int))
      (pss_cons (ps_set (i := 5) sc__law_draw.nd rfl (Or.inl rfl) (pe_op op_modN (pe_callTy call_int1 (by rfl) T.z_int (by decide +kernel) (pa_cons (pe_op op_mul (pv 5) (pe_op op_add (pv 5) pe_int)) pa_nil)) pe_int))
      (pss_one (ps_ret (pe_op op_modN (pe_callTy call_int1 (by rfl) T.z_int (by decide +kernel) (pa_cons (pe_op op_fdivW (pe_op op_modN (pe_callTy call_int1 (by rfl) T.z_int (by decide +kernel) (pa_cons (pe_op op_mul (pv 5) (pv 5)) pa_nil)) pe_int) pe_int) pa_nil)) (pv 1))))))))))))), ?_⟩
    clear F hr tk po
    obtain ⟨cells, a, l, h0, hc, a0, an, c63⟩ := hp.ex
    have f0 : ∀ x : Int, 0 ≤ x.fmod m := fun x => Int.fmod_nonneg_of_pos x (by omega)
    have f1 : ∀ x : Int, x.fmod m < m := fun x => Int.fmod_lt_of_pos x (by omega)
    have cm : ∀ x : Int, CDivW x m := fun x => wide_div (b := 60) (by omega) (by omega) (by decide) (by decide)
    walk_at "rdp"
    refine ite2 (fun e => ?_) (fun e => ?_)
    · walk_at "rdp"
      refine ⟨cm l, ?_⟩
      walk_at "rdp"
      exact q _ _ (f0 l) (f1 l) (Keep.pen h0 rfl) ⟨cells, a, _, upd_same, Keep.pen h0 rfl _ _ rfl hc, a0, by omega, c63⟩
    · walk_at "rdp"
      have k1 : Keep H (upd H p (penO (.ref c) (.int (a + 1)) (.int l))) := Keep.pen h0 rfl
      have h1 : upd H p (penO (.ref c) (.int (a + 1)) (.int l)) p = some (penO (.ref c) (.int (a + 1)) (.int l)) := upd_same
      have hc1 := k1 _ _ rfl hc
      walk_at "rdp"
      refine ⟨fun σ' H' => ∃ z : Int, σ' = [some (.ref p), some (.int m), none, some (.int a), some (.int z), none] ∧ Same (upd H p (penO (.ref c) (.int (a + 1)) (.int l))) H', ?_, ?_⟩
      · walk_at "rdp"
        refine ⟨Nat.zero_le _, fun o ho => ?_⟩
        have s2 := Same.new (o := .lst []) ho
        have h2 := s2 _ _ h1
        have hc2 := s2 _ _ hc1
        refine ⟨_, _, dp_lst (.of hc2), .lst (.inl (.inl upd_same)) .nil, shaped_ints cells, rfl, _, rfl, ?_⟩
        cases cells with
        | nil => exact iteF ⟨_, rfl, s2⟩
        | cons z0 zs =>
          refine iteT ?_
          walk_at "rdp"
          refine ⟨by simp; omega, ?_⟩
          have hlen : ((List.map V.int (z0 :: zs)).length : Int) = ((z0 :: zs).length : Int) := by simp
          obtain ⟨j, hj, ej⟩ : ∃ j : Nat, j < (z0 :: zs).length ∧ a.fmod ((List.map V.int (z0 :: zs)).length : Int) = (j : Int) := by
            have g0 := Int.fmod_nonneg_of_pos a (b := ((z0 :: zs).length : Int)) (by simp)
            have g1 := Int.fmod_lt_of_pos a (b := ((z0 :: zs).length : Int)) (by simp)
            rw [hlen]
            exact ⟨(a.fmod ((z0 :: zs).length : Int)).toNat, by omega, by omega⟩
          refine .inl ⟨_, _, _, _, rfl, congrArg V.int ej, .of hc2, atI_nat (by rw [List.getElem?_map, List.getElem?_eq_getElem hj]; rfl), ?_⟩
          exact ⟨_, rfl, s2⟩
      · rintro _ H2 ⟨z, rfl, s2⟩
        have h2 := s2 _ _ h1
        have hc2 := s2 _ _ hc1
        have k2 := k1.trans (.of s2)
        have pen2 : Pen H2 p c (n + 1) := ⟨cells, a + 1, l, h2, hc2, by omega, by omega, c63⟩
        have key : ∀ z : Int, z.fmod 2147483629 < 2147483629 ∧ 0 ≤ z.fmod 2147483629 := fun z => ⟨Int.fmod_lt_of_pos z (by decide), Int.fmod_nonneg_of_pos z (by decide)⟩
        have cm2 : ∀ z y : Int, CMul (z.fmod 2147483647) y := fun z y => by
          have g1 := Int.fmod_lt_of_pos z (b := 2147483647) (by decide)
          have g2 := Int.fmod_nonneg_of_pos z (b := 2147483647) (by decide)
          exact mul_l (by omega) (by omega)
        have cm3 : ∀ z y : Int, CMul (z.fmod 2147483587) y := fun z y => by
          have g1 := Int.fmod_lt_of_pos z (b := 2147483587) (by decide)
          have g2 := Int.fmod_nonneg_of_pos z (b := 2147483587) (by decide)
          exact mul_l (by omega) (by omega)
        have cd : ∀ x : Int, CDivW x 64 := fun x => wide_div (b := 60) (by decide) (by decide) (by decide) (by decide)
        have cp : CPow 10 18 := ⟨by decide, by decide, by decide⟩
        refine ⟨fun σ' H' => σ' = [some (.ref p), some (.int m), none, some (.int a), some (.int z), none] ∧ H' = H2, ?_, ?_⟩
        · walk_at "rdp"
          refine ite2 (fun e => ?_) (fun e => iteF ⟨rfl, rfl⟩)
          walk_at "rdp"
          refine ite2 (fun e => ?_) (fun e => ⟨rfl, rfl⟩)
          walk_at "rdp"
          refine ⟨cm _, ?_⟩
          walk_at "rdp"
          exact q _ _ (f0 _) (f1 _) (k2.trans (Keep.pen h2 rfl)) ⟨cells, a + 1, _, upd_same, Keep.pen h2 rfl _ _ rfl hc2, by omega, by omega, c63⟩
        · rintro _ _ ⟨rfl, rfl⟩
          have g1 := key z
          walk_at "rdp"
          refine ⟨cm2 _ _, ?_⟩
          walk_at "rdp"
          refine ⟨cm3 _ _, ?_⟩
          walk_at "rdp"
          refine ⟨cd _, ?_⟩
          walk_at "rdp"
          exact q _ _ (f0 _) (f1 _) k2 pen2
def sp__law_pick (K : PySem.W.Frag) : Sp := fun vs H Q _ => ∃ (p c a : Addr) (b : Bool) (n : Nat) (xs : List V), vs = [.ref p, .ref a] ∧ SqB b K H a xs ∧ xs ≠ [] ∧ xs.length < 2 ^ 30 ∧ Pen H p c n ∧ n < 2 ^ 30 ∧
  ∀ (i : Nat) x H', xs[i]? = some x → Keep H H' → Pen H' p c (n + 1) → Q x H'
theorem ok__law_pick  (T : Tx K mg) : Gd P w K mg base 2 "_law_pick" (sp__law_pick K) := by
  have G__law_draw := ok__law_draw (P := P) (w := w) (base := base) T
  refine gd_of (ps := ["pen", "some"]) T.g__law_pick T.d__law_pick (fun _ _ _ _ _ _ us hl => match us, hl with | [_, _], _ => rfl) fun fd F => ?_
  refine ok_of F sc__law_pick (fun vs H Q E h => ?_) fun X H vs Q E hX hr tk po h => ?_
  · obtain ⟨p, c, a, b, n, xs, rfl, hs, ne, hl, hp, hn, q⟩ := h
    rfl
  · obtain ⟨cdv, A, outer, s, rfl⟩ := hX
    obtain ⟨p, c, a, b, n, xs, rfl, hs, ne, hl, hp, hn, q⟩ := h
    refine ⟨_, (pss_one (ps_ret (pe_ix ix_seq (pv 1) (pe_cr G__law_draw (hr.mono (by decide)) (fun σ => passAt tk σ) (pa_cons (pv 0) (pa_cons (pe_callB call_len_seq (by rfl) T.z_len (by decide +kernel) (pa_cons (pv 1) pa_nil)) pa_nil))) (fun _ _ => rfl)))), ?_⟩
    clear F hr tk po
    walk_at "rd"
    have l0 : 0 < xs.length := List.length_pos_iff.mpr ne
    refine ⟨p, c, _, n, rfl, by omega, by omega, hp, hn, fun d H' d0 d1 k hp' => ?_⟩
    obtain ⟨i, rfl⟩ : ∃ i : Nat, d = (i : Int) := ⟨d.toNat, by omega⟩
    have hi : i < xs.length := by omega
    have hx : xs[i]? = some xs[i] := List.getElem?_eq_getElem hi
    have hs' := k.sqb hs
    have fin := q i xs[i] H' hx k hp'
    cases b with
    | true => exact .inl ⟨a, xs, _, _, rfl, rfl, hs', atI_nat hx, fin⟩
    | false => exact .inr (.inl ⟨a, xs, _, _, rfl, rfl, hs', atI_nat hx, fin⟩)
def sp__law_shuffled (K : PySem.W.Frag) : Sp := fun vs H Q _ => ∃ (p c a : Addr) (b : Bool) (n : Nat) (xs : List V), vs = [.ref p, .ref a] ∧ SqB b K H a xs ∧ xs.length < 100000 ∧ Pen H p c n ∧ n < 2 ^ 29 ∧
  ∀ ys q' H', ys.Perm xs → Keep H H' → H q' = none → H' q' = some (.lst ys) → Pen H' p c (n + xs.length) → Q (.ref q') H'
theorem ok__law_shuffled  (T : Tx K mg) : Gd P w K mg base 2 "_law_shuffled" (sp__law_shuffled K) := by
  have G__law_draw := ok__law_draw (P := P) (w := w) (base := base) T
  refine gd_of (ps := ["pen", "some"]) T.g__law_shuffled T.d__law_shuffled (fun _ _ _ _ _ _ us hl => match us, hl with | [_, _], _ => rfl) fun fd F => ?_
  refine ok_of F sc__law_shuffled (fun vs H Q E h => ?_) fun X H vs Q E hX hr tk po h => ?_
  · obtain ⟨p, c, a, b, n, xs, rfl, hs, hl, hp, hn, q⟩ := h
    rfl
  · obtain ⟨cdv, A, outer, s, rfl⟩ := hX
    obtain ⟨p, c, a, b, n, xs, rfl, hs, hl, hp, hn, q⟩ := h
    refine ⟨_, (pss_cons (ps_par (i := 2) (j := 3) (by rfl) sc__law_shuffled.nd rfl rfl (by decide) rfl rfl (pa_cons (pe_callTy call_list_of (by rfl) T.z_list (by decide +kernel) (pa_cons (pv 1) pa_nil)) (pa_cons (pe_lst pa_nil) pa_nil)) (by rfl))
      (pss_cons (ps_for po rfl (pi_range1 (by rfl) T.z_range (pa_cons (pe_callB call_len_seq (by rfl) T.z_len (by decide +kernel) (pa_cons (pv 2) pa_nil)) pa_nil)) (pg_name (i := 4) sc__law_shuffled.nd rfl (Or.inl rfl)) (pss_one (ps_expr (pe_bm PySem.F.plainAttrs_list PySem.F.slot_list_append PySem.F.type_list_append mt_append (pv 3) (pa_cons (pe_bm PySem.F.plainAttrs_list PySem.F.slot_list_pop PySem.F.type_list_pop mt_popAt (pv 2) (pa_cons (pe_cr G__law_draw (hr.mono (by decide)) (fun σ => passAt tk σ) (pa_cons (pv 0) (pa_cons (pe_callB call_len_seq (by rfl) T.z_len (by decide +kernel) (pa_cons (pv 2) pa_nil)) pa_nil))) pa_nil)) pa_nil)))))
      (pss_one (ps_ret (pv 3))))), ?_⟩
    clear F hr tk po
    walk_at "rd"
    intro l hl0
    refine ⟨Nat.zero_le _, fun f hf => ?_⟩
    have nlf : l ≠ f := ne_of_none upd_same hf
    have np1 := hp.ne hl0
    have np2 := hp.ne (none_of hf)
    have h1l : (upd (upd H l (.lst xs)) f (.lst [])) l = some (.lst xs) := by rw [upd_ne nlf]; exact upd_same
    walk_at "rd"
    refine for_range (lo := 0) (fun i σ' H' => ∃ ls fs kv, σ' = [some (.ref p), some (.ref a), some (.ref l), some (.ref f), kv] ∧ H' l = some (.lst ls) ∧ H' f = some (.lst fs) ∧ (fs ++ ls).Perm xs ∧ fs.length = i ∧ Keep H H' ∧ Pen H' p c (n + i)) ?_ ?_ ?_
    · exact ⟨xs, [], none, rfl, h1l, upd_same, .refl _, rfl, .put (.new hl0) (none_of hf), (hp.put np1).put np2⟩
    · rintro i _ H' hi ⟨ls, fs, kv, rfl, el, ef, pm, len, kp, pn⟩
      have pl := pm.length_eq
      rw [List.length_append] at pl
      walk_at "rd"
      refine ⟨p, c, _, n + i, rfl, by omega, by omega, pn, by omega, fun d H2 d0 d1 k2 pn2 => ?_⟩
      have el2 := k2 _ _ rfl el
      have ef2 := k2 _ _ rfl ef
      have hd : d.toNat < ls.length := by omega
      refine ⟨l, ls, d, d.toNat, ls[d.toNat], rfl, rfl, el2, by omega, by omega, seq_ix d0 d1, List.getElem?_eq_getElem hd, ?_⟩
      refine ⟨f, fs, ls[d.toNat], rfl, rfl, by rw [upd_ne nlf.symm]; exact ef2, Nat.lt_of_lt_of_le (m := 100000) (by omega) (by decide), ?_⟩
      refine ⟨ls.eraseIdx d.toNat, fs ++ [ls[d.toNat]], some (.int (0 + (i : Int))), rfl, by rw [upd_ne nlf]; exact upd_same, upd_same, ?_, by simp [len], ?_, ?_⟩
      · refine List.Perm.trans ?_ pm
        rw [List.append_assoc]
        refine List.Perm.append_left fs ?_
        exact cons_erase hd
      · exact .put (.put (kp.trans k2) hl0) (none_of hf)
      · exact (pn2.put np1).put np2
    · rintro _ H' ⟨ls, fs, kv, rfl, el, ef, pm, len, kp, pn⟩
      have pl := pm.length_eq
      rw [List.length_append] at pl
      have e0 : ls = [] := List.length_eq_zero_iff.mp (by omega)
      rw [e0, List.append_nil] at pm
      refine ⟨_, rfl, q fs f H' pm kp (none_of hf) ef (pn.mono (by omega))⟩
def sp__law_row (K : PySem.W.Frag) : Sp := fun vs H Q _ => ∃ (p c : Addr) (s n : Nat), vs = [.ref p, .int (s : Int)] ∧ s < 100000 ∧ Pen H p c n ∧ n < 2 ^ 29 ∧
  ∀ (f : List Nat) q' H', IsRow f → f.length = s → Keep H H' → H q' = none → H' q' = some (.lst (f.map vI)) → Pen H' p c (n + s) → Q (.ref q') H'
theorem ok__law_row  (T : Tx K mg) : Gd P w K mg base 3 "_law_row" (sp__law_row K) := by
  have G__law_shuffled := ok__law_shuffled (P := P) (w := w) (base := base) T
  refine gd_of (ps := ["pen", "size"]) T.g__law_row T.d__law_row (fun _ _ _ _ _ _ us hl => match us, hl with | [_, _], _ => rfl) fun fd F => ?_
  refine ok_of F sc__law_row (fun vs H Q E h => ?_) fun X H vs Q E hX hr tk po h => ?_
  · obtain ⟨p, c, s, n, rfl, hs, hp, hn, q⟩ := h
    rfl
  · obtain ⟨cdv, A, outer, s, rfl⟩ := hX
    obtain ⟨p, c, s, n, rfl, hs, hp, hn, q⟩ := h
    refine ⟨_, (pss_one (ps_ret (pe_cr G__law_shuffled (hr.mono (by decide)) (fun σ => passAt tk σ) (pa_cons (pv 0) (pa_cons (pe_listRg rfl (by rfl) T.z_list (prg_1 (by rfl) T.z_range (pv 1))) pa_nil))))), ?_⟩
    clear F hr tk po
    walk_at "rd"
    refine ⟨by unfold RgOk; omega, fun a ha => ?_⟩
    have np := hp.ne ha
    rw [rgV_nat]
    refine ⟨p, c, a, true, n, (List.range s).map vI, rfl, SqL.of upd_same, by simp; omega, hp.put np, hn, fun ys q' H' pm k nq hq pn => ?_⟩
    obtain ⟨g, rfl, pg⟩ := of_map_perm pm
    refine q g q' H' (.of_perm pg) (by simpa using pg.length_eq) (.trans (.new ha) k) (none_of nq) hq ?_
    rw [List.length_map, List.length_range] at pn
    exact pn

end
end EV

namespace EV
open PySem PySem.Spec PyProof.Rows L2
open He (ga)
local macro_rules | `(tactic| walk_at "r1") => `(tactic| first | refine ⟨_, rfl, ?_⟩ | refine ⟨_, _, rfl, rfl, ?_⟩ | refine Or.inl ⟨_, rfl, ?_⟩ | refine ⟨_, _, rfl, Or.inl (by assumption), ?_⟩ | refine ⟨_, _, rfl, Or.inr (by assumption), ?_⟩ | refine ⟨_, _, rfl, Or.inl (SqL.of (by assumption)), ?_⟩ | refine ⟨_, _, rfl, SqB.or (by assumption), ?_⟩ | refine ⟨_, _, rfl, ?_⟩ | refine And.intro (Or.inl ⟨rfl, _, SqL.of (by assumption)⟩) ?_ | refine And.intro (rfl : scal _ _ = true) ?_ | refine And.intro (by assumption) ?_ | refine And.intro (mul_l (by omega) (by omega)) ?_ | refine And.intro (mul_r (by omega) (by omega)) ?_ | refine And.intro (by omega) ?_ | refine And.intro (by simp only [List.length_map]; omega) ?_)
local macro_rules | `(tactic| walk_at "rp") => `(tactic| first | walk_at "r1" | refine ⟨_, _, rfl, pen_left (by assumption), ?_⟩ | refine ⟨_, _, rfl, pen_at (by assumption), ?_⟩ | refine ⟨_, _, rfl, pen_cells (by assumption), ?_⟩ | refine ⟨_, _, rfl, put_at (by assumption), ?_⟩ | refine ⟨_, _, rfl, put_left (by assumption), ?_⟩)
local macro_rules | `(tactic| walk_at "rd") => `(tactic| repeat walk_at "r1")
local macro_rules | `(tactic| walk_at "rdp") => `(tactic| repeat walk_at "rp")
section
variable {P : Program} {w : World} {K : PySem.W.Frag} {mg : Str → Option Value} {base : Heap}
/-! ### integers, maps: rows that are right -/
/-- nothing new is tracked but what is told -/
def RetV (v : V) (H : Hp) (Q : VK) : Prop := ∀ H', Same H H' → Q v H'
def RetL (xs : List V) (H : Hp) (Q : VK) : Prop := ∀ p H', Same H H' → H p = none → H' p = some (.lst xs) → Q (.ref p) H'
def sp_is_integer (K : PySem.W.Frag) : Sp := fun vs H Q _ => ∃ (x : V) (n : String), vs = [x] ∧ TyX K H x (.type n) ∧ n ∈ (["int", "bool", "NoneType", "str", "tuple", "list", "dict"] : List String) ∧ Q (.bl (decide (n = "int"))) H
theorem ok_is_integer  (T : Tx K mg) : Gd P w K mg base 1 "is_integer" (sp_is_integer K) := by
  refine gd_of (ps := ["value"]) T.g_is_integer T.d_is_integer (fun _ _ _ _ _ _ us hl => match us, hl with | [_], _ => rfl) fun fd F => ?_
  refine ok_of F sc_is_integer (fun vs H Q E h => ?_) fun X H vs Q E hX hr tk po h => ?_
  · obtain ⟨x, n, rfl, ht, hn, q⟩ := h
    rfl
  · obtain ⟨cdv, A, outer, s, rfl⟩ := hX
    obtain ⟨x, n, rfl, ht, hn, q⟩ := h
    refine ⟨_, (pss_one (ps_ret (pe_and (pe_callB call_isi (by rfl) T.z_isinstance (by decide +kernel) (pa_cons (pv 0) (pa_cons (pe_bltn (v := .ty "int") (by rfl) T.z_int (by decide +kernel) rfl) pa_nil))) (pe_one (pe_not (pe_callB call_isi (by rfl) T.z_isinstance (by decide +kernel) (pa_cons (pv 0) (pa_cons (pe_bltn (v := .ty "bool") (by rfl) T.z_bool (by decide +kernel) rfl) pa_nil)))))))), ?_⟩
    clear F hr tk po
    have k : ∀ c : String, c = "int" ∨ c = "bool" → kitB n c = some (decide (n = c ∨ (n = "bool" ∧ c = "int"))) := by
      intro c hc
      simp only [List.mem_cons, List.not_mem_nil, or_false] at hn
      rcases hn with rfl | rfl | rfl | rfl | rfl | rfl | rfl <;> rcases hc with rfl | rfl <;> decide +kernel
    refine ⟨x, rfl, x, .ty "int", .type n, .type "int", _, rfl, .ty _, ht, kit_ty (k "int" (.inl rfl)), _, rfl, ?_⟩
    refine ite2 (fun e => ?_) (fun e => ?_)
    · refine ⟨x, rfl, x, .ty "bool", .type n, .type "bool", _, rfl, .ty _, ht, kit_ty (k "bool" (.inr rfl)), _, rfl, ?_⟩
      have ee : (!decide (n = "bool" ∨ n = "bool" ∧ "bool" = "int")) = decide (n = "int") := by
        rcases of_decide_eq_true e with e | e
        · subst e
          decide
        · rw [e.1]
          decide
      rw [ee]
      exact q
    · have ee : decide (n = "int") = false := decide_eq_false fun z => e (decide_eq_true (.inl z))
      rw [ee] at q
      exact q
theorem int_ty {K : PySem.W.Frag} {H : Hp} (i : Int) : TyX K H (.int i) (.type "int") := .base (.int i)
theorem seen_none {f : List Nat} {i : Nat} {n : Nat} (nd : f.Nodup) (h : f[i]? = some n) : valV ((f.take i).map fun (n : Nat) => ((Sum.inl (n : Int) : Key), V.bl true)) (.inl (n : Int)) = none := by
  have hi := (List.getElem?_eq_some_iff.mp h).1
  have e := (List.getElem?_eq_some_iff.mp h).2
  cases q : valV ((f.take i).map fun (n : Nat) => ((Sum.inl (n : Int) : Key), V.bl true)) (.inl (n : Int)) with
  | none => rfl
  | some v =>
    have m := valV_in q
    rw [List.map_map] at m
    obtain ⟨y, hy, ey⟩ := List.mem_map.mp m
    have ey' : y = n := by
      have z : (Sum.inl (y : Int) : Key) = Sum.inl (n : Int) := ey
      have z2 := Sum.inl.inj z
      omega
    obtain ⟨j, hj, ej⟩ := List.mem_iff_getElem.mp hy
    rw [List.length_take] at hj
    rw [List.getElem_take] at ej
    have := nd_ix nd (i := j) (j := i) (x := n) (by rw [List.getElem?_eq_getElem (by omega), ej, ey']) h
    omega
def sp_need_row (K : PySem.W.Frag) : Sp := fun vs H Q _ => ∃ (a : Addr) (b : Bool) (f : List Nat), vs = [.ref a] ∧ SqB b K H a (f.map vI) ∧ IsRow f ∧ f.length ≤ 100000 ∧ RetV .non H Q
theorem ok_need_row  (T : Tx K mg) : Gd P w K mg base 2 "need_row" (sp_need_row K) := by
  have G_is_integer := ok_is_integer (P := P) (w := w) (base := base) T
  refine gd_of (ps := ["row"]) T.g_need_row T.d_need_row (fun _ _ _ _ _ _ us hl => match us, hl with | [_], _ => rfl) fun fd F => ?_
  refine ok_of F sc_need_row (fun vs H Q E h => ?_) fun X H vs Q E hX hr tk po h => ?_
  · obtain ⟨a, b, f, rfl, hs, hf, hl, q⟩ := h
    rfl
  · obtain ⟨cdv, A, outer, s, rfl⟩ := hX
    obtain ⟨a, b, f, rfl, hs, hf, hl, q⟩ := h
    refine ⟨_, (pss_cons (ps_set (i := 1) sc_need_row.nd rfl (Or.inl rfl) pe_dnewK)
      (pss_one (ps_for po rfl (pi_enumA (by rfl) T.z_enumerate (pa_cons (pv 0) pa_nil)) (pg_tup rfl (pgs_cons (pg_name (i := 2) sc_need_row.nd rfl (Or.inl rfl)) (pgs_cons (pg_name (i := 3) sc_need_row.nd rfl (Or.inl rfl)) pgs_nil))) (pss_cons (ps_if (PW.pt (pw_or (pt_not (pt_val (pe_cr G_is_integer (hr.mono (by decide)) (fun σ => passAt tk σ) (pa_cons (pv 3) pa_nil)))) (pw_or (pt_not (pt_chain op_le op_lt pe_int (pv 3) (pe_callB call_len_seq (by rfl) T.z_len (by decide +kernel) (pa_cons (pv 0) pa_nil)))) (pw_or1 (pt_cmp (pc_din (hu_of hr) (pv 3) (pv 1)) (by rfl)))))) (pss_one ps_never) pss_nil)
      (pss_one (ps_dput (hu_of hr) (pv 1) (pv 3) pe_bl rfl)))))), ?_⟩
    clear F hr tk po
    intro d hd
    walk_at "rd"
    have hs1 := Same.sqb (Same.new (o := .dK []) hd) hs
    refine ⟨a, b, f.map vI, rfl, hs1, fun J wk => ?_⟩
    refine for_it wk (fun i σ' H' => ∃ v1 v2, σ' = [some (.ref a), some (.ref d), v1, v2] ∧ Same H H' ∧ H' d = some (.dK ((f.take i).map fun (n : Nat) => ((Sum.inl (n : Int) : Key), V.bl true)))) ?_ ?_ ?_ ?_
    · exact ⟨none, none, rfl, Same.new hd, upd_same⟩
    · rintro i _ H' hi ⟨v1, v2, rfl, s1, ed⟩
      exact Same.sqb s1 hs
    · rintro i v _ H' H2 hi ⟨v1, v2, rfl, s1, ed⟩ ⟨T, x, y, rfl, hT, rfl, e1, e2⟩
      have e1' : V.int (i : Int) = x := Option.some.inj e1
      subst e1'
      rw [List.length_map] at hi
      obtain ⟨n, hn, rfl⟩ : ∃ n, f[i]? = some n ∧ vI n = y := by
        have e2' : (f.map vI)[i]? = some y := e2
        rw [List.getElem?_map] at e2'
        exact Option.map_eq_some_iff.mp e2'
      have nlt : n < f.length := hf.lt n (List.mem_of_getElem? hn)
      have sT := Same.new (o := .tup [.int (i : Int), vI n]) hT
      have hs2 := Same.sqb sT (Same.sqb s1 hs)
      have ed2 := sT _ _ ed
      refine ⟨T, _, rfl, SqT.of upd_same, rfl, _, _, rfl, _, _, rfl, rfl, ?_⟩
      walk_at "rd"
      refine ⟨vI n, "int", rfl, int_ty _, by simp, _, rfl, ite_f (by decide) ?_⟩
      walk_at "rd"
      refine ite_f (by simp; omega) ?_
      walk_at "rd"
      refine ⟨d, _, rfl, DGet.k (k := Sum.inl (n : Int)) ed2, _, rfl, ?_⟩
      rw [seen_none hf.nd hn]
      refine iteF ?_
      walk_at "rd"
      refine ⟨d, _, rfl, DPut.k (k := Sum.inl (n : Int)) ed2 (Nat.lt_of_le_of_lt (m := 100000) ?_ (by decide)), ?_⟩
      · rw [List.length_map, List.length_take]
        omega
      · refine ⟨_, _, rfl, Same.put (s1.trans sT) hd, ?_⟩
        rw [upd_same, putK_new _ (seen_none hf.nd hn), List.take_add_one, hn, List.map_append]
        rfl
    · rintro _ H' ⟨v1, v2, rfl, s1, ed⟩
      exact q H' s1
def rowV (f : List Nat) : List V := f.map vI
def sp_nothing (K : PySem.W.Frag) : Sp := fun vs H Q _ => ∃ n : Nat, vs = [.int (n : Int)] ∧ n ≤ 1000 ∧ RetL ((List.range n).map vI) H Q
theorem ok_nothing  (T : Tx K mg) : Gd P w K mg base 2 "nothing" (sp_nothing K) := by
  have G_is_integer := ok_is_integer (P := P) (w := w) (base := base) T
  refine gd_of (ps := ["size"]) T.g_nothing T.d_nothing (fun _ _ _ _ _ _ us hl => match us, hl with | [_], _ => rfl) fun fd F => ?_
  refine ok_of F sc_nothing (fun vs H Q E h => ?_) fun X H vs Q E hX hr tk po h => ?_
  · obtain ⟨n, rfl, hn, q⟩ := h
    rfl
  · obtain ⟨cdv, A, outer, s, rfl⟩ := hX
    obtain ⟨n, rfl, hn, q⟩ := h
    refine ⟨_, (pss_cons (ps_if (PW.pt (pw_or (pt_not (pt_val (pe_cr G_is_integer (hr.mono (by decide)) (fun σ => passAt tk σ) (pa_cons (pv 0) pa_nil)))) (pw_or1 (pt_not (pt_chain op_le op_le pe_int (pv 0) (pe_gint rfl T.i_MOST_SIZE)))))) (pss_one ps_never) pss_nil)
      (pss_one (ps_ret (pe_listRg rfl (by rfl) T.z_list (prg_1 (by rfl) T.z_range (pv 0)))))), ?_⟩
    clear F hr tk po
    walk_at "rd"
    refine ⟨.int n, "int", rfl, int_ty _, by simp, _, rfl, ite_f (by decide) ?_⟩
    walk_at "rd"
    refine ite_f (by simp; omega) ?_
    walk_at "rd"
    refine ⟨by unfold RgOk; omega, fun p hp => ?_⟩
    rw [rgV_nat]
    exact q p _ (Same.new hp) hp upd_same
def sp_joined (K : PySem.W.Frag) : Sp := fun vs H Q _ => ∃ (a c : Addr) (b d : Bool) (f g : List Nat), vs = [.ref a, .ref c] ∧ SqB b K H a (f.map vI) ∧ SqB d K H c (g.map vI) ∧ IsRow f ∧ IsRow g ∧ f.length = g.length ∧ f.length ≤ 100000 ∧ RetL ((joinL f g).map vI) H Q
theorem ok_joined  (T : Tx K mg) : Gd P w K mg base 3 "joined" (sp_joined K) := by
  have G_need_row := ok_need_row (P := P) (w := w) (base := base) T
  refine gd_of (ps := ["first", "second"]) T.g_joined T.d_joined (fun _ _ _ _ _ _ us hl => match us, hl with | [_, _], _ => rfl) fun fd F => ?_
  refine ok_of F sc_joined (fun vs H Q E h => ?_) fun X H vs Q E hX hr tk po h => ?_
  · obtain ⟨a, c, b, d, f, g, rfl, hs, ht, hf, hg, hl, hz, q⟩ := h
    rfl
  · obtain ⟨cdv, A, outer, s, rfl⟩ := hX
    obtain ⟨a, c, b, d, f, g, rfl, hs, ht, hf, hg, hl, hz, q⟩ := h
    refine ⟨_, (pss_cons (ps_expr (pe_cr G_need_row (hr.mono (by decide)) (fun σ => passAt tk σ) (pa_cons (pv 0) pa_nil)))
      (pss_cons (ps_expr (pe_cr G_need_row (hr.mono (by decide)) (fun σ => passAt tk σ) (pa_cons (pv 1) pa_nil)))
      (pss_cons (ps_if (pt_cmpR op_ne (pe_callB call_len_seq (by rfl) T.z_len (by decide +kernel) (pa_cons (pv 0) pa_nil)) (pe_callB call_len_seq (by rfl) T.z_len (by decide +kernel) (pa_cons (pv 1) pa_nil)) (nomark _)) (pss_one ps_never) pss_nil)
      (pss_one (ps_ret (pe_lc (own := [("part", 2)]) rfl sc_joined.nd (pi_seq (pv 1)) (blkOk_by (N := ["first", "second", "part"]) (sc := defScope s_joined) (own := [("part", 2)]) (by decide +kernel)) (fun _ _ _ _ _ => (pg_name (i := 2) sc_joined.nd rfl (Or.inl rfl))) (fun _ _ _ _ _ => pts_nil) (fun _ _ _ _ _ => (pe_ix (ix_seqK (K := K) rfl) (pv 0) (pv 2) (fun _ _ => rfl))))))))), ?_⟩
    clear F hr tk po
    walk_at "rd"
    refine ⟨a, b, f, rfl, hs, hf, hz, fun H1 s1 => ?_⟩
    have ht1 := Same.sqb s1 ht
    walk_at "rd"
    refine ⟨c, d, g, rfl, ht1, hg, by omega, fun H2 s2 => ?_⟩
    have s12 := s1.trans s2
    have hs2 := Same.sqb s12 hs
    have ht2 := Same.sqb s12 ht
    walk_at "rd"
    refine ite_f (by simp [hl]) ?_
    walk_at "rd"
    refine ⟨c, d, g.map vI, rfl, ht2, fun J wk D hD => ?_⟩
    refine lc_map wk ((joinL f g).map vI) (by simp [joinL_len]) hD (fun H' s3 => Same.sqb s3 ht2) ?_ ?_
    · rintro i x H' _ hi s3 pv ⟨rfl, ex⟩
      rw [List.length_map] at hi
      rw [List.getElem?_map] at ex
      obtain ⟨j, hj, rfl⟩ := Option.map_eq_some_iff.mp ex
      have jlt : j < f.length := by rw [hl]; exact hg.lt j (List.mem_of_getElem? hj)
      refine ⟨rfl, yes_if ?_⟩
      refine ⟨_, rfl, _, rfl, rix (Same.sqb s3 hs2) rfl (getElem?_vI jlt) (pvM_turn hD (by simp [joinL_len]; omega) pv (.refl _) ?_)⟩
      have gj : g.getD i 0 = j := by rw [List.getD_eq_getElem?_getD, hj]; rfl
      rw [getElem?_vI (by rw [joinL_len]; exact hi), joinL_get f g hi, gj]
    · intro H' s3 e3
      exact q D H' (s12.trans s3) (Same.free s12 hD) e3
def sp_undone (K : PySem.W.Frag) : Sp := fun vs H Q _ => ∃ (a : Addr) (b : Bool) (f : List Nat), vs = [.ref a] ∧ SqB b K H a (f.map vI) ∧ IsRow f ∧ f.length ≤ 100000 ∧ RetL ((invL f).map vI) H Q
theorem ok_undone  (T : Tx K mg) : Gd P w K mg base 3 "undone" (sp_undone K) := by
  have G_need_row := ok_need_row (P := P) (w := w) (base := base) T
  refine gd_of (ps := ["row"]) T.g_undone T.d_undone (fun _ _ _ _ _ _ us hl => match us, hl with | [_], _ => rfl) fun fd F => ?_
  refine ok_of F sc_undone (fun vs H Q E h => ?_) fun X H vs Q E hX hr tk po h => ?_
  · obtain ⟨a, b, f, rfl, hs, hf, hz, q⟩ := h
    rfl
  · obtain ⟨cdv, A, outer, s, rfl⟩ := hX
    obtain ⟨a, b, f, rfl, hs, hf, hz, q⟩ := h
    refine ⟨_, (pss_cons (ps_expr (pe_cr G_need_row (hr.mono (by decide)) (fun σ => passAt tk σ) (pa_cons (pv 0) pa_nil)))
      (pss_cons (ps_set (i := 1) sc_undone.nd rfl (Or.inl rfl) (pe_op op_rep (pe_lst (pa_cons pe_int pa_nil)) (pe_callB call_len_seq (by rfl) T.z_len (by decide +kernel) (pa_cons (pv 0) pa_nil))))
      (pss_cons (ps_for po rfl (pi_enumA (by rfl) T.z_enumerate (pa_cons (pv 0) pa_nil)) (pg_tup rfl (pgs_cons (pg_name (i := 2) sc_undone.nd rfl (Or.inl rfl)) (pgs_cons (pg_name (i := 3) sc_undone.nd rfl (Or.inl rfl)) pgs_nil))) (pss_one (ps_asg (pv 2) (pg_sub (pv 1) (pv 3) set_list))))
      (pss_one (ps_ret (pv 1)))))), ?_⟩
    clear F hr tk po
    walk_at "rd"
    refine ⟨a, b, f, rfl, hs, hf, hz, fun H1 s1 => ?_⟩
    have hs1 := Same.sqb s1 hs
    walk_at "rd"
    refine ⟨by decide, fun o ho => ?_⟩
    have hs2 := Same.sqb (Same.new (o := .lst [.int 0]) ho) hs1
    walk_at "rd"
    refine ⟨o, _, [.int 0], rfl, rfl, upd_same, by omega, (by simp; omega), Nat.le_trans (m := 100000) (by simp; omega) (by decide), fun l hl => ?_⟩
    have s12 : Same H (upd (upd H1 o (.lst [.int 0])) l (.lst (List.replicate (((List.map vI f).length : Int).toNat) [V.int 0]).flatten)) := s1.trans ((Same.new ho).trans (Same.new hl))
    have hs3 := Same.sqb (Same.new (o := .lst (List.replicate (((List.map vI f).length : Int).toNat) [V.int 0]).flatten) hl) hs2
    have hl0 : H l = none := Same.free (s1.trans (Same.new ho)) hl
    walk_at "rd"
    refine ⟨a, b, f.map vI, rfl, hs3, fun J wk => ?_⟩
    refine for_it wk (fun i σ' H' => ∃ (g : List Nat) (v1 v2 : Option V), σ' = [some (.ref a), some (.ref l), v1, v2] ∧ Same H H' ∧ H' l = some (.lst (g.map vI)) ∧ g.length = f.length ∧ ∀ j, j < i → g.getD (f.getD j 0) 0 = j) ?_ ?_ ?_ ?_
    · refine ⟨List.replicate f.length 0, none, none, rfl, s12, ?_, by simp, fun j hj => by omega⟩
      rw [upd_same]
      congr 2
      apply List.ext_getElem
      · simp
      · intro n h1 h2
        rw [List.getElem_map, List.getElem_replicate]
        have m := List.getElem_mem h1
        have : ∀ (n : Nat) (x : V), x ∈ (List.replicate n [V.int 0]).flatten → x = V.int 0 := by
          intro n x hx
          obtain ⟨y, hy, hx⟩ := List.mem_flatten.mp hx
          rw [List.eq_of_mem_replicate hy] at hx
          simpa using hx
        exact this _ _ m
    · rintro i _ H' hi ⟨g, v1, v2, rfl, sH, eg, lg, inv⟩
      exact Same.sqb sH hs
    · rintro i v _ H' H2 hi ⟨g, v1, v2, rfl, sH, eg, lg, inv⟩ ⟨T, x, y, rfl, hT, rfl, e1, e2⟩
      have e1' : V.int (i : Int) = x := Option.some.inj e1
      subst e1'
      rw [List.length_map] at hi
      have e2' : (f.map vI)[i]? = some y := e2
      rw [List.getElem?_map] at e2'
      obtain ⟨n, hn, rfl⟩ := Option.map_eq_some_iff.mp e2'
      have nlt : n < f.length := hf.lt n (List.mem_of_getElem? hn)
      have sT := Same.new (o := .tup [.int (i : Int), vI n]) hT
      have fi : f.getD i 0 = n := by rw [List.getD_eq_getElem?_getD, hn]; rfl
      refine ⟨T, _, rfl, SqT.of upd_same, rfl, _, _, rfl, _, _, rfl, rfl, ?_⟩
      walk_at "rd"
      refine ⟨l, _, _, n, rfl, rfl, sT _ _ eg, ?_, ?_⟩
      · rw [List.length_map]
        exact Evl.ixN_nat (by omega)
      · refine ⟨g.set n i, _, _, rfl, Same.put (sH.trans sT) hl0, ?_, by simpa using lg, fun j hj => ?_⟩
        · rw [upd_same, List.map_set]
          rfl
        · by_cases e : j = i
          · subst e
            rw [fi]
            simp [List.getD_eq_getElem?_getD, lg, nlt]
          · have hne : f.getD j 0 ≠ n := fun z => e (getD_inj hf (by omega) hi (z.trans fi.symm))
            rw [getD_set_ne hne]
            exact inv j (by omega)
    · rintro _ H' ⟨g, v1, v2, rfl, sH, eg, lg, inv⟩
      rw [List.length_map] at inv
      have eg2 : g = invL f := by
        refine ext_getD (by rw [lg, invL_len]) fun x hx => ?_
        rw [lg] at hx
        rw [invL_get hx]
        have := inv (f.idxOf x) (idx_lt hf hx)
        rw [getD_idx hf hx] at this
        exact this
      rw [eg2] at eg
      walk_at "rd"
      exact q l H' sH hl0 eg
def sp_done (K : PySem.W.Frag) : Sp := fun vs H Q _ => ∃ (a c : Addr) (b d : Bool) (f : List Nat) (xs : List V), vs = [.ref a, .ref c] ∧ SqB b K H a (f.map vI) ∧ SqB d K H c xs ∧ IsRow f ∧ xs.length = f.length ∧ f.length ≤ 100000 ∧ RetL (doneL .non f xs) H Q
theorem ok_done  (T : Tx K mg) : Gd P w K mg base 3 "done" (sp_done K) := by
  have G_need_row := ok_need_row (P := P) (w := w) (base := base) T
  refine gd_of (ps := ["row", "things"]) T.g_done T.d_done (fun _ _ _ _ _ _ us hl => match us, hl with | [_, _], _ => rfl) fun fd F => ?_
  refine ok_of F sc_done (fun vs H Q E h => ?_) fun X H vs Q E hX hr tk po h => ?_
  · obtain ⟨a, c, b, d, f, xs, rfl, hs, ht, hf, hl, hz, q⟩ := h
    rfl
  · obtain ⟨cdv, A, outer, s, rfl⟩ := hX
    obtain ⟨a, c, b, d, f, xs, rfl, hs, ht, hf, hl, hz, q⟩ := h
    refine ⟨_, (pss_cons (ps_expr (pe_cr G_need_row (hr.mono (by decide)) (fun σ => passAt tk σ) (pa_cons (pv 0) pa_nil)))
      (pss_cons (ps_if (pt_cmpR op_ne (pe_callB call_len_seq (by rfl) T.z_len (by decide +kernel) (pa_cons (pv 1) pa_nil)) (pe_callB call_len_seq (by rfl) T.z_len (by decide +kernel) (pa_cons (pv 0) pa_nil)) (nomark _)) (pss_one ps_never) pss_nil)
      (pss_one (ps_ret (pe_lc (own := [("part", 2)]) rfl sc_done.nd (pi_seq (pv 0)) (blkOk_by (N := ["row", "things", "part"]) (sc := defScope s_done) (own := [("part", 2)]) (by decide +kernel)) (fun _ _ _ _ _ => (pg_name (i := 2) sc_done.nd rfl (Or.inl rfl))) (fun _ _ _ _ _ => pts_nil) (fun _ _ _ _ _ => (pe_ix (ix_seqK (K := K) rfl) (pv 1) (pv 2) (fun _ _ => rfl)))))))), ?_⟩
    clear F hr tk po
    walk_at "rd"
    refine ⟨a, b, f, rfl, hs, hf, hz, fun H1 s1 => ?_⟩
    have hs1 := Same.sqb s1 hs
    have ht1 := Same.sqb s1 ht
    walk_at "rd"
    refine ite_f (by simp [hl]) ?_
    walk_at "rd"
    refine ⟨a, b, f.map vI, rfl, hs1, fun J wk D hD => ?_⟩
    refine lc_map wk (doneL .non f xs) (by simp [doneL_len]) hD (fun H' s3 => Same.sqb s3 hs1) ?_ ?_
    · rintro i x H' _ hi s3 pv ⟨rfl, ex⟩
      rw [List.length_map] at hi
      rw [List.getElem?_map] at ex
      obtain ⟨j, hj, rfl⟩ := Option.map_eq_some_iff.mp ex
      have jlt : j < xs.length := by rw [hl]; exact hf.lt j (List.mem_of_getElem? hj)
      refine ⟨rfl, yes_if ?_⟩
      refine ⟨_, rfl, _, rfl, rix (Same.sqb s3 ht1) rfl (List.getElem?_eq_getElem jlt) (pvM_turn hD (by rw [doneL_len]; omega) pv (.refl _) ?_)⟩
      exact doneL_at hj jlt
    · intro H' s3 e3
      exact q D H' (s1.trans s3) (Same.free s1 hD) e3

def sp_rings (K : PySem.W.Frag) : Sp := fun vs H Q _ => ∃ (a : Addr) (b : Bool) (f : List Nat), vs = [.ref a] ∧ SqB b K H a (f.map vI) ∧ IsRow f ∧ f.length ≤ 100000 ∧
  ∀ (as : List Addr) (p : Addr) H', Same H H' → H p = none → H' p = some (.lst (as.map V.ref)) → Rows H' as (ringsL f) → Q (.ref p) H'
theorem ok_rings  (T : Tx K mg) : Gd P w K mg base 3 "rings" (sp_rings K) := by
  have G_need_row := ok_need_row (P := P) (w := w) (base := base) T
  refine gd_of (ps := ["row"]) T.g_rings T.d_rings (fun _ _ _ _ _ _ us hl => match us, hl with | [_], _ => rfl) fun fd F => ?_
  refine ok_of F sc_rings (fun vs H Q E h => ?_) fun X H vs Q E hX hr tk po h => ?_
  · obtain ⟨a, b, f, rfl, hs, hf, hz, q⟩ := h
    rfl
  · obtain ⟨cdv, A, outer, s, rfl⟩ := hX
    obtain ⟨a, b, f, rfl, hs, hf, hz, q⟩ := h
    refine ⟨_, (pss_cons (ps_expr (pe_cr G_need_row (hr.mono (by decide)) (fun σ => passAt tk σ) (pa_cons (pv 0) pa_nil)))
      (pss_cons (ps_par (i := 1) (j := 2) (by rfl) sc_rings.nd rfl rfl (by decide) rfl rfl (pa_cons (pe_lst pa_nil) (pa_cons (pe_op op_rep (pe_lst (pa_cons pe_bl pa_nil)) (pe_callB call_len_seq (by rfl) T.z_len (by decide +kernel) (pa_cons (pv 0) pa_nil))) pa_nil)) (by rfl))
      (pss_cons (ps_for po rfl (pi_range1 (by rfl) T.z_range (pa_cons (pe_callB call_len_seq (by rfl) T.z_len (by decide +kernel) (pa_cons (pv 0) pa_nil)) pa_nil)) (pg_name (i := 3) sc_rings.nd rfl (Or.inl rfl)) (pss_cons (ps_par (i := 4) (j := 5) (by rfl) sc_rings.nd rfl rfl (by decide) rfl rfl (pa_cons (pe_lst pa_nil) (pa_cons (pv 3) pa_nil)) (by rfl))
      (pss_cons (ps_while po (pt_not (pt_truth (pe_ix ix_seq (pv 2) (pv 5) (fun _ _ => rfl)) (by intro _; rfl))) (pss_cons (ps_asg pe_bl (pg_sub (pv 2) (pv 5) set_list))
      (pss_cons (ps_expr (pe_bm PySem.F.plainAttrs_list PySem.F.slot_list_append PySem.F.type_list_append mt_append (pv 4) (pa_cons (pv 5) pa_nil)))
      (pss_one (ps_set (i := 5) sc_rings.nd rfl (Or.inl rfl) (pe_ix ix_seq (pv 0) (pv 5) (fun _ _ => rfl)))))))
      (pss_one (ps_if (pt_truth (pv 4) (by intro _; rfl)) (pss_one (ps_expr (pe_bm PySem.F.plainAttrs_list PySem.F.slot_list_append PySem.F.type_list_append mt_append (pv 1) (pa_cons (pe_callTy call_tuple_of (by rfl) T.z_tuple (by decide +kernel) (pa_cons (pv 4) pa_nil)) pa_nil)))) pss_nil)))))
      (pss_one (ps_ret (pv 1)))))), ?_⟩
    clear F hr tk po
    walk_at "rd"
    refine ⟨a, b, f, rfl, hs, hf, hz, fun H1 s1 => ?_⟩
    have hs1 := Same.sqb s1 hs
    refine ⟨Nat.zero_le _, fun fo hfo => ?_⟩
    have hs2 := Same.sqb (Same.new (o := .lst []) hfo) hs1
    refine ⟨Nat.le_trans (m := 1) (Nat.le_refl 1) (by decide), fun tp htp => ?_⟩
    have hs3 := Same.sqb (Same.new (o := .lst [.bl false]) htp) hs2
    walk_at "rd"
    refine ⟨tp, _, [.bl false], rfl, rfl, upd_same, by omega, (by simp; omega), Nat.le_trans (m := 100000) (by simp; omega) (by decide), fun se hse => ?_⟩
    rw [rep1, List.length_map, Int.toNat_natCast]
    have nfs : fo ≠ se := ne_of_none (Same.new htp _ _ upd_same) hse
    have s3 : Same H (upd (upd (upd H1 fo (.lst [])) tp (.lst [.bl false])) se (.lst (List.replicate f.length (.bl false)))) := s1.trans ((Same.new hfo).trans ((Same.new htp).trans (Same.new hse)))
    have hfo0 : H fo = none := Same.free s1 hfo
    have hse0 : H se = none := Same.free (s1.trans ((Same.new hfo).trans (Same.new htp))) hse
    have efo : (upd (upd (upd H1 fo (.lst [])) tp (.lst [.bl false])) se (.lst (List.replicate f.length (.bl false)))) fo = some (.lst []) := (Same.new hse) _ _ (Same.new htp _ _ upd_same)
    have ebs : List.replicate f.length (V.bl false) = (List.replicate f.length false).map V.bl := by simp
    rw [ebs] at s3 efo ⊢
    have hs4 := Same.sqb s3 hs
    walk_at "rd"
    refine for_range (lo := 0) (fun i σ' H' => ∃ (bs : List Bool) (as : List Addr) (v3 v4 v5 : Option V), σ' = [some (.ref a), some (.ref fo), some (.ref se), v3, v4, v5] ∧ Same H H' ∧ H' fo = some (.lst (as.map V.ref)) ∧ H' se = some (.lst (bs.map V.bl)) ∧ SeenW f i 0 bs ∧ Rows H' as (ringsTo f i)) ?_ ?_ ?_
    · exact ⟨_, [], none, none, none, rfl, s3, efo, upd_same, seen_start f, trivial⟩
    · rintro i _ H2 hi ⟨bs, as, v3, v4, v5, rfl, sH, ef, es, sw, rw_⟩
      have hi' : i < f.length := by
        rw [List.length_map] at hi
        omega
      rw [Int.zero_add]
      refine ⟨Nat.zero_le _, fun rg hrg => ?_⟩
      have nfr : fo ≠ rg := ne_of_none ef hrg
      have nsr : se ≠ rg := ne_of_none es hrg
      walk_at "rd"
      refine while_ix (f.length + 1) (fun j σ' H' => ∃ bs : List Bool, σ' = [some (.ref a), some (.ref fo), some (.ref se), some (.int (i : Int)), some (.ref rg), some (vI (it f j i))] ∧ Same H H' ∧ H' fo = some (.lst (as.map V.ref)) ∧ H' se = some (.lst (bs.map V.bl)) ∧
        H' rg = some (.lst (((List.range j).map fun k => it f k i).map vI)) ∧ SeenW f i j bs ∧ j ≤ per f i ∧ (0 < j → lead f i = true) ∧ Rows H' as (ringsTo f i)) ?_ ?_
      · exact ⟨bs, rfl, Same.put sH (Same.free sH hrg), by rw [upd_ne nfr]; exact ef, by rw [upd_ne nsr]; exact es, upd_same, sw, Nat.zero_le _, fun z => by omega, rw_.same (Same.new hrg)⟩
      · rintro j _ H3 hj ⟨cs, rfl, sH3, ef3, es3, er3, sw3, hjp, hld, rw3⟩
        have pj := it_lt hf hi' j
        have hpn := per_le hf hi'
        have hcl := sw3.1
        refine ⟨_, rfl, _, rfl, rix (b := true) (SqL.of es3) rfl (getElem?_bl (by rw [hcl]; exact pj)) ⟨_, rfl, ?_⟩⟩
        cases hc : cs.getD (it f j i) false with
        | true =>
          refine iteF ?_
          rcases seen_stop hf hi' sw3 hjp hld hc with ⟨rfl, ln⟩ | ⟨rfl, ln⟩
          · refine ⟨_, rfl, false, .inl ⟨_, SqL.of er3, rfl⟩, iteF ?_⟩
            exact ⟨cs, as, _, _, _, rfl, sH3, ef3, es3, seen_not hf hi' sw3 ln, by rw [ringsTo_not ln]; exact rw3⟩
          · refine ⟨_, rfl, true, .inl ⟨_, SqL.of er3, ?_⟩, iteT ?_⟩
            · have := per_pos f i
              cases hp : per f i with
              | zero => omega
              | succ k => simp
            · refine ⟨_, rfl, .inl ⟨rfl, _, SqL.of ef3⟩, _, rfl, rg, _, rfl, .inl ⟨SqL.of er3, fun tu htu => ?_⟩⟩
              have sT := Same.new (o := .tup (((List.range (per f i)).map fun k => it f k i).map vI)) htu
              have hsz : as.length ≤ 100000 := by
                rw [rw3.len]
                have : (ringsTo f i).length ≤ i := by
                  unfold ringsTo
                  rw [List.length_map]
                  exact Nat.le_trans (List.length_filter_le _ _) (by simp)
                omega
              refine ⟨fo, _, _, rfl, rfl, sT _ _ ef3, Nat.lt_of_le_of_lt (m := 100000) (by rw [List.length_map]; exact hsz) (by decide), ?_⟩
              refine ⟨cs, as ++ [tu], _, _, _, rfl, Same.put (sH3.trans sT) hfo0, ?_, ?_, seen_lead hf hi' sw3, ?_⟩
              · rw [upd_same, List.map_append]
                rfl
              · rw [upd_ne nfs.symm]
                exact sT _ _ es3
              · rw [ringsTo_lead ln]
                refine Rows.put ?_ (sT _ _ ef3) (fun xs e => by cases e)
                exact Rows.snoc upd_same (rw3.same sT)
        | false =>
          refine iteT ?_
          obtain ⟨jlt, ln⟩ := seen_go hf hi' sw3 hjp hld hc
          refine ⟨_, whN (by omega), ?_⟩
          refine ⟨_, rfl, _, rfl, se, _, _, it f j i, rfl, rfl, es3, ?_, ?_⟩
          · rw [List.length_map]
            exact Evl.ixN_nat (by omega)
          have nrs : rg ≠ se := nsr.symm
          refine ⟨_, rfl, .inl ⟨rfl, _, SqL.of (by rw [upd_ne nrs]; exact er3)⟩, _, rfl, rg, _, _, rfl, rfl, by rw [upd_ne nrs]; exact er3, Nat.lt_of_le_of_lt (m := 100000) (by simp; omega) (by decide), ?_⟩
          have s4 : Same H (upd (upd H3 se (.lst ((cs.map V.bl).set (it f j i) (.bl true)))) rg (.lst ((((List.range j).map fun k => it f k i).map vI) ++ [vI (it f j i)]))) := Same.put (Same.put sH3 hse0) (Same.free sH hrg)
          refine ⟨_, rfl, _, rfl, rix (Same.sqb s4 hs) rfl (getElem?_vI pj) ?_⟩
          refine ⟨cs.set (it f j i) true, rfl, s4, ?_, ?_, ?_, seen_step hf hi' sw3, by omega, fun _ => ln, ?_⟩
          · rw [upd_ne nfr, upd_ne nfs]
            exact ef3
          · rw [upd_ne nsr, upd_same, List.map_set]
          · rw [upd_same, List.range_succ]
            simp
          · refine Rows.put (Rows.put rw3 es3 (fun xs e => by cases e)) (by rw [upd_ne nrs]; exact er3) (fun xs e => by cases e)
    · rintro _ H2 ⟨bs, as, v3, v4, v5, rfl, sH, ef, es, sw, rw_⟩
      refine ⟨_, rfl, q as fo H2 sH hfo0 ef ?_⟩
      rw [List.length_map, Int.toNat_natCast] at rw_
      exact rw_
def sp_repeated (K : PySem.W.Frag) : Sp := fun vs H Q _ => ∃ (a : Addr) (b : Bool) (f : List Nat) (z : Int), vs = [.ref a, .int z] ∧ SqB b K H a (f.map vI) ∧ IsRow f ∧ f.length ≤ 100000 ∧ RetL ((powL f z).map vI) H Q
theorem ok_repeated  (T : Tx K mg) : Gd P w K mg base 4 "repeated" (sp_repeated K) := by
  have G_is_integer := ok_is_integer (P := P) (w := w) (base := base) T
  have G_need_row := ok_need_row (P := P) (w := w) (base := base) T
  have G_rings := ok_rings (P := P) (w := w) (base := base) T
  refine gd_of (ps := ["row", "many"]) T.g_repeated T.d_repeated (fun _ _ _ _ _ _ us hl => match us, hl with | [_, _], _ => rfl) fun fd F => ?_
  refine ok_of F sc_repeated (fun vs H Q E h => ?_) fun X H vs Q E hX hr tk po h => ?_
  · obtain ⟨a, b, f, z, rfl, hs, hf, hz, q⟩ := h
    rfl
  · obtain ⟨cdv, A, outer, s, rfl⟩ := hX
    obtain ⟨a, b, f, z, rfl, hs, hf, hz, q⟩ := h
    refine ⟨_, (pss_cons (ps_expr (pe_cr G_need_row (hr.mono (by decide)) (fun σ => passAt tk σ) (pa_cons (pv 0) pa_nil)))
      (pss_cons (ps_if (pt_not (pt_val (pe_cr G_is_integer (hr.mono (by decide)) (fun σ => passAt tk σ) (pa_cons (pv 1) pa_nil)))) (pss_one ps_never) pss_nil)
      (pss_cons (ps_set (i := 2) sc_repeated.nd rfl (Or.inl rfl) (pe_op op_rep (pe_lst (pa_cons pe_int pa_nil)) (pe_callB call_len_seq (by rfl) T.z_len (by decide +kernel) (pa_cons (pv 0) pa_nil))))
      (pss_cons (ps_for po rfl (pi_seq (pe_cr G_rings (hr.mono (by decide)) (fun σ => passAt tk σ) (pa_cons (pv 0) pa_nil))) (pg_name (i := 3) sc_repeated.nd rfl (Or.inl rfl)) (pss_one (ps_for po rfl (pi_enumA (by rfl) T.z_enumerate (pa_cons (pv 3) pa_nil)) (pg_tup rfl (pgs_cons (pg_name (i := 4) sc_repeated.nd rfl (Or.inl rfl)) (pgs_cons (pg_name (i := 5) sc_repeated.nd rfl (Or.inl rfl)) pgs_nil))) (pss_one (ps_asg (pe_ix ix_seq (pv 3) (pe_op op_modN (pe_op op_add (pv 4) (pv 1)) (pe_callB call_len_seq (by rfl) T.z_len (by decide +kernel) (pa_cons (pv 3) pa_nil))) (fun _ _ => rfl)) (pg_sub (pv 2) (pv 5) set_list))))))
      (pss_one (ps_ret (pv 2))))))), ?_⟩
    clear F hr tk po
    walk_at "rd"
    refine ⟨a, b, f, rfl, hs, hf, hz, fun H1 s1 => ?_⟩
    have hs1 := Same.sqb s1 hs
    walk_at "rd"
    refine ⟨.int z, "int", rfl, int_ty _, by simp, _, rfl, ite_f (by decide) ?_⟩
    refine ⟨Nat.le_trans (m := 1) (Nat.le_refl 1) (by decide), fun tp htp => ?_⟩
    have hs2 := Same.sqb (Same.new (o := .lst [.int 0]) htp) hs1
    walk_at "rd"
    refine ⟨tp, _, [.int 0], rfl, rfl, upd_same, by omega, (by simp; omega), Nat.le_trans (m := 100000) (by simp; omega) (by decide), fun l hl => ?_⟩
    rw [rep1, List.length_map, Int.toNat_natCast]
    have e0 : List.replicate f.length (V.int 0) = (List.replicate f.length 0).map vI := by
      rw [List.map_replicate]
      rfl
    rw [e0]
    have s3 : Same H (upd (upd H1 tp (.lst [.int 0])) l (.lst ((List.replicate f.length 0).map vI))) := s1.trans ((Same.new htp).trans (Same.new hl))
    have hl0 : H l = none := Same.free (s1.trans (Same.new htp)) hl
    refine ⟨_, rfl, a, b, f, rfl, Same.sqb s3 hs, hf, hz, fun as rp H4 s4 n4 e4 rw4 => ?_⟩
    refine ⟨rp, true, as.map V.ref, rfl, SqL.of e4, fun J wk => ?_⟩
    have hl4 := s4 _ _ (upd_same (a := l))
    refine for_it wk (fun i σ' H' => ∃ (g : List Nat) (v3 v4 v5 : Option V), σ' = [some (.ref a), some (.int z), some (.ref l), v3, v4, v5] ∧ Same H H' ∧ H' l = some (.lst (g.map vI)) ∧ H' rp = some (.lst (as.map V.ref)) ∧ Rows H' as (ringsL f) ∧ Fill f z ((ringsL f).take i).flatten g) ?_ ?_ ?_ ?_
    · exact ⟨_, none, none, none, rfl, s3.trans s4, hl4, e4, rw4, by simp, fun y hy => by simp at hy⟩
    · rintro i _ H' hi ⟨g, v3, v4, v5, rfl, sH, eg, ep, rw_, fl⟩
      exact SqL.of ep
    · rintro i x _ _ H5 hi ⟨g, v3, v4, v5, rfl, sH, eg, ep, rw_, fl⟩ ⟨rfl, ex⟩
      obtain ⟨ra, r, rfl, er, era⟩ := rw_.get ex
      obtain ⟨p, hp, rfl⟩ := rings_mem er
      refine ⟨_, rfl, ra, false, _, rfl, SqT.of era, fun J2 wk2 => ?_⟩
      have nrl : rp ≠ l := fun e => by
        have := Same.free (s3) (show (upd (upd H1 tp (.lst [.int 0])) l (.lst ((List.replicate f.length 0).map vI))) rp = none from n4)
        rw [e] at n4
        rw [upd_same] at n4
        cases n4
      refine for_it wk2 (fun k σ' H' => ∃ (g : List Nat) (v4 v5 : Option V), σ' = [some (.ref a), some (.int z), some (.ref l), some (.ref ra), v4, v5] ∧ Same H H' ∧ H' l = some (.lst (g.map vI)) ∧ H' rp = some (.lst (as.map V.ref)) ∧ H' ra = some (.tup ((ringL f p).map vI)) ∧ Rows H' as (ringsL f) ∧ Fill f z (((ringsL f).take i).flatten ++ (ringL f p).take k) g) ?_ ?_ ?_ ?_
      · exact ⟨g, v4, v5, rfl, sH, eg, ep, era, rw_, by simpa using fl⟩
      · rintro k _ H' hk ⟨g, v4, v5, rfl, sH, eg, ep, era, rw_, fl⟩
        exact SqT.of era
      · rintro k v _ H6 H7 hk ⟨g, v4, v5, rfl, sH, eg, ep, era, rw_, fl⟩ ⟨T, x, y, rfl, hT, rfl, e1, e2⟩
        have e1' : V.int (k : Int) = x := Option.some.inj e1
        subst e1'
        rw [List.length_map, ringL_len] at hk
        have e2' : ((ringL f p).map vI)[k]? = some y := e2
        rw [List.getElem?_map, ringL_get hk] at e2'
        have e3 : vI (it f k p) = y := Option.some.inj e2'
        subst e3
        have hk2 := it_lt hf hp k
        have sT := Same.new (o := .tup [.int (k : Int), vI (it f k p)]) hT
        obtain ⟨j, hj, ej, gj⟩ := ring_ix hf hp k z
        refine ⟨T, _, rfl, SqT.of upd_same, rfl, _, _, rfl, _, _, rfl, rfl, ?_⟩
        refine ⟨_, rfl, _, rfl, _, rfl, _, _, rfl, rfl, _, rfl, ra, _, rfl, .inr (SqT.of (sT _ _ era)), _, _, rfl, rfl, ?_, ?_⟩
        · have := per_pos f p
          rw [List.length_map, ringL_len]
          omega
        refine rix (b := false) (SqT.of (sT _ _ era)) ej gj ?_
        refine ⟨_, rfl, _, rfl, l, _, _, it f k p, rfl, rfl, sT _ _ eg, ?_, ?_⟩
        · rw [List.length_map, fl.1]
          exact Evl.ixN_nat hk2
        · refine ⟨g.set (it f k p) (pw f z (it f k p)), _, _, rfl, Same.put (sH.trans sT) hl0, ?_, ?_, ?_, ?_, ?_⟩
          · rw [upd_same, List.map_set]
          · rw [upd_ne nrl]
            exact sT _ _ ep
          · rw [upd_ne (fun e => by rw [e, eg] at era; cases era)]
            exact sT _ _ era
          · exact Rows.put (rw_.same sT) (sT _ _ eg) (fun xs e => by cases e)
          · rw [List.take_add_one, ringL_get hk]
            have := fill_set (x := it f k p) fl hk2
            rw [List.append_assoc] at this
            exact this
      · rintro _ H' ⟨g, v4, v5, rfl, sH, eg, ep, era, rw_, fl⟩
        refine ⟨g, _, _, _, rfl, sH, eg, ep, rw_, ?_⟩
        rw [flatten_take_succ er]
        rw [show ((ringL f p).map vI).length = (ringL f p).length from List.length_map _, List.take_length] at fl
        exact fl
    · rintro _ H' ⟨g, v3, v4, v5, rfl, sH, eg, ep, rw_, fl⟩
      rw [List.length_map, rw_.len, List.take_length] at fl
      have eq := fill_all hf fl
      rw [eq] at eg
      refine ⟨_, rfl, q l H' sH hl0 eg⟩
def sp_is_even (K : PySem.W.Frag) : Sp := fun vs H Q _ => ∃ (a : Addr) (b : Bool) (f : List Nat), vs = [.ref a] ∧ SqB b K H a (f.map vI) ∧ IsRow f ∧ f.length ≤ 100000 ∧ ∀ H', Same H H' → Q (.bl (decide (invA [] f % 2 = 0))) H'
theorem ok_is_even  (T : Tx K mg) : Gd P w K mg base 4 "is_even" (sp_is_even K) := by
  have G_rings := ok_rings (P := P) (w := w) (base := base) T
  refine gd_of (ps := ["row"]) T.g_is_even T.d_is_even (fun _ _ _ _ _ _ us hl => match us, hl with | [_], _ => rfl) fun fd F => ?_
  refine ok_of F sc_is_even (fun vs H Q E h => ?_) fun X H vs Q E hX hr tk po h => ?_
  · obtain ⟨a, b, f, rfl, hs, hf, hz, q⟩ := h
    rfl
  · obtain ⟨cdv, A, outer, s, rfl⟩ := hX
    obtain ⟨a, b, f, rfl, hs, hf, hz, q⟩ := h
    refine ⟨_, (pss_one (ps_ret (pe_cmpR op_eq (pe_op op_modN (pe_op op_sub (pe_callB call_len_seq (by rfl) T.z_len (by decide +kernel) (pa_cons (pv 0) pa_nil)) (pe_callB call_len_seq (by rfl) T.z_len (by decide +kernel) (pa_cons (pe_cr G_rings (hr.mono (by decide)) (fun σ => passAt tk σ) (pa_cons (pv 0) pa_nil)) pa_nil))) pe_int) pe_int (nomark _)))), ?_⟩
    clear F hr tk po
    walk_at "rd"
    refine ⟨a, b, f, rfl, hs, hf, hz, fun as rp H4 s4 n4 e4 rw4 => ?_⟩
    refine ⟨rp, _, rfl, .inl (SqL.of e4), ?_⟩
    walk_at "rd"
    obtain ⟨p1, p2⟩ := parity_rings hf
    have e : decide (V.int ((((f.map vI).length : Int) - ((as.map V.ref).length : Int)).fmod 2) = V.int 0) = decide (invA [] f % 2 = 0) := by
      rw [List.length_map, List.length_map, rw4.len, ← p2, decide_eq_decide, Int.fmod_eq_emod_of_nonneg _ (by decide), ← Int.ofNat_sub p1]
      constructor
      · intro h
        have := V.int.inj h
        omega
      · intro h
        congr 1
        omega
    have fin := q H4 s4
    rw [← e] at fin
    exact fin

end
end EV

namespace EV
open PySem PySem.Spec PyProof.Rows L2
open He (ga)
local macro_rules | `(tactic| walk_at "r1") => `(tactic| first | refine ⟨_, rfl, ?_⟩ | refine ⟨_, _, rfl, rfl, ?_⟩ | refine Or.inl ⟨_, rfl, ?_⟩ | refine ⟨_, _, rfl, Or.inl (by assumption), ?_⟩ | refine ⟨_, _, rfl, Or.inr (by assumption), ?_⟩ | refine ⟨_, _, rfl, Or.inl (SqL.of (by assumption)), ?_⟩ | refine ⟨_, _, rfl, SqB.or (by assumption), ?_⟩ | refine ⟨_, _, rfl, ?_⟩ | refine And.intro (Or.inl ⟨rfl, _, SqL.of (by assumption)⟩) ?_ | refine And.intro (rfl : scal _ _ = true) ?_ | refine And.intro (by assumption) ?_ | refine And.intro (mul_l (by omega) (by omega)) ?_ | refine And.intro (mul_r (by omega) (by omega)) ?_ | refine And.intro (by omega) ?_ | refine And.intro (by simp only [List.length_map]; omega) ?_)
local macro_rules | `(tactic| walk_at "rp") => `(tactic| first | walk_at "r1" | refine ⟨_, _, rfl, pen_left (by assumption), ?_⟩ | refine ⟨_, _, rfl, pen_at (by assumption), ?_⟩ | refine ⟨_, _, rfl, pen_cells (by assumption), ?_⟩ | refine ⟨_, _, rfl, put_at (by assumption), ?_⟩ | refine ⟨_, _, rfl, put_left (by assumption), ?_⟩)
local macro_rules | `(tactic| walk_at "rd") => `(tactic| repeat walk_at "r1")
local macro_rules | `(tactic| walk_at "rdp") => `(tactic| repeat walk_at "rp")
section
variable {P : Program} {w : World} {K : PySem.W.Frag} {mg : Str → Option Value} {base : Heap}
def sp__law_least_first (K : PySem.W.Frag) : Sp := fun vs H Q _ => ∃ (a : Addr) (f : List Nat) (s : Nat), vs = [.ref a] ∧ SqL K H a ((ringL f s).map vI) ∧ IsRow f ∧ s < f.length ∧ f.length ≤ 1000 ∧ RetT ((ringL f (leadOf f s)).map vI) H Q
theorem ok__law_least_first  (T : Tx K mg) : Gd P w K mg base 1 "_law_least_first" (sp__law_least_first K) := by
  refine gd_of (ps := ["ring"]) T.g__law_least_first T.d__law_least_first (fun _ _ _ _ _ _ us hl => match us, hl with | [_], _ => rfl) fun fd F => ?_
  refine ok_of F sc__law_least_first (fun vs H Q E h => ?_) fun X H vs Q E hX hr tk po h => ?_
  · obtain ⟨a, f, s, rfl, hs, hf, hl, hz, q⟩ := h
    rfl
  · obtain ⟨cdv, A, outer, s, rfl⟩ := hX
    obtain ⟨a, f, s, rfl, hs, hf, hl, hz, q⟩ := h
    refine ⟨_, (pss_cons (ps_set (i := 1) sc__law_least_first.nd rfl (Or.inl rfl) (pe_bm PySem.F.plainAttrs_list PySem.F.slot_list_index PySem.F.type_list_index mt_index (pv 0) (pa_cons (pe_callB (cr_min rfl) (by rfl) T.z_min (by decide +kernel) (pa_cons (pe_lc (own := [("place", 2)]) rfl sc__law_least_first.nd (pi_seq (pv 0)) (blkOk_by (N := ["ring", "at", "place"]) (sc := defScope s__law_least_first) (own := [("place", 2)]) (by decide +kernel)) (fun _ _ _ _ _ => (pg_name (i := 2) sc__law_least_first.nd rfl (Or.inl rfl))) (fun _ _ _ _ _ => pts_nil) (fun _ _ _ _ _ => (pe_callTy call_int1 (by rfl) T.z_int (by decide +kernel) (pa_cons (pv 2) pa_nil)))) pa_nil)) pa_nil)))
      (pss_one (ps_ret (pe_callTy call_tuple_of (by rfl) T.z_tuple (by decide +kernel) (pa_cons (pe_op op_cat (pe_slice sl_list (pv 0) (po_some (pv 1)) po_none) (pe_slice sl_list (pv 0) po_none (po_some (pv 1)))) pa_nil))))), ?_⟩
    clear F hr tk po
    have p0 := per_pos f s
    have pl := per_le hf hl
    refine ⟨_, rfl, .inl ⟨rfl, _, hs⟩, _, rfl, a, true, _, rfl, hs, fun J wk D hD => ?_⟩
    refine lc_map wk ((ringL f s).map vI) (by simp) hD (fun H' s => s.seq hs) ?_ fun H1 s1 e1 => ?_
    · rintro i x H' _ hi s3 pv ⟨rfl, ex⟩
      obtain ⟨n, hn, rfl⟩ : ∃ n, (ringL f s)[i]? = some n ∧ vI n = x := by
        rw [List.getElem?_map] at ex
        exact Option.map_eq_some_iff.mp ex
      refine ⟨rfl, yes_if ⟨_, rfl, .inl ⟨_, rfl, pvM_turn hD (by rw [List.length_map, ringL_len]; omega) pv (.refl _) (by rw [List.getElem?_map, hn]; rfl)⟩⟩⟩
    obtain ⟨k, hk, ek, et⟩ := ring_turn hf hl
    obtain ⟨h1, h2⟩ := leadOf_spec hf hl
    refine ⟨D, (ringL f s).map Int.ofNat, rfl, SqL.of (by rw [← vI_map]; exact e1), by simp [ringL_len]; omega, fun m hm1 hm2 => ?_⟩
    have em : m = (leadOf f s : Int) := by
      obtain ⟨y, hy, rfl⟩ := List.mem_map.mp hm1
      have a1 := h2 y hy
      have a2 := hm2 (leadOf f s : Int) (List.mem_map.mpr ⟨_, h1, rfl⟩)
      have : (Int.ofNat y : Int) = (y : Int) := rfl
      omega
    subst em
    refine ⟨a, _, _, k, vI (leadOf f s), rfl, rfl, s1.seq hs, rfl, flat_vI _, ?_, ?_, ?_, ?_⟩
    · rw [List.getElem?_map, ringL_get hk, ek]
      rfl
    · show ((leadOf f s : Int) == (leadOf f s : Int)) = true
      simp
    · intro m z' hm hz'
      rw [List.getElem?_map, ringL_get (by omega)] at hz'
      have e := Option.some.inj hz'
      subst e
      show ((it f m s : Int) == (leadOf f s : Int)) = false
      rw [← ek]
      have : it f m s ≠ it f k s := fun e => by
        have := it_inj2 hf hl (by omega) hk e
        omega
      simp
      omega
    · refine ⟨_, rfl, _, rfl, k, rfl, a, _, rfl, s1.seq hs, fun t1 ht1 => ?_⟩
      rw [cut_drop]
      have q1 := s1.trans (Same.new (o := .lst (((ringL f s).map vI).drop k)) ht1)
      refine ⟨_, rfl, _, rfl, k, rfl, a, _, rfl, q1.seq hs, fun t2 ht2 => ?_⟩
      rw [cut_take]
      have q2 := q1.trans (Same.new (o := .lst (((ringL f s).map vI).take k)) ht2)
      refine ⟨t1, t2, _, _, rfl, rfl, Same.new ht2 _ _ upd_same, upd_same, Nat.le_trans (m := 100000) (by simp [ringL_len]; omega) (by decide), fun t3 ht3 => ?_⟩
      have ed : ((ringL f s).map vI).drop k ++ ((ringL f s).map vI).take k = (ringL f (leadOf f s)).map vI := by rw [← List.map_drop, ← List.map_take, ← List.map_append, et]
      rw [ed]
      have q3 := q2.trans (Same.new (o := .lst ((ringL f (leadOf f s)).map vI)) ht3)
      refine ⟨t3, _, rfl, .inl ⟨SqL.of upd_same, fun t4 ht4 => ?_⟩⟩
      exact q t4 _ (q3.trans (Same.new ht4)) (Same.free q3 ht4) upd_same
def sp__law_sorted_rings (K : PySem.W.Frag) : Sp := fun vs H Q _ => ∃ (a : Addr) (g S : List Nat) (xs : List V), vs = [.ref a] ∧ SqL K H a xs ∧ RingsAt K H g xs S ∧ IsRow g ∧ g.length ≤ 1000 ∧ (∀ s ∈ S, s < g.length) ∧ (S.map (leadOf g)).Perm (leads g) ∧
  ∀ (as : List Addr) (p : Addr) H', Same H H' → H p = none → H' p = some (.lst (as.map V.ref)) → Rows H' as (ringsL g) → Q (.ref p) H'
theorem ok__law_sorted_rings  (T : Tx K mg) : Gd P w K mg base 2 "_law_sorted_rings" (sp__law_sorted_rings K) := by
  have G__law_least_first := ok__law_least_first (P := P) (w := w) (base := base) T
  refine gd_of (ps := ["some"]) T.g__law_sorted_rings T.d__law_sorted_rings (fun _ _ _ _ _ _ us hl => match us, hl with | [_], _ => rfl) fun fd F => ?_
  refine ok_of F sc__law_sorted_rings (fun vs H Q E h => ?_) fun X H vs Q E hX hr tk po h => ?_
  · obtain ⟨a, g, S, xs, rfl, hs, hx, hg, hz, hS, hp, q⟩ := h
    rfl
  · obtain ⟨cdv, A, outer, s, rfl⟩ := hX
    obtain ⟨a, g, S, xs, rfl, hs, hx, hg, hz, hS, hp, q⟩ := h
    refine ⟨_, (pss_cons (ps_par (i := 1) (j := 2) (by rfl) sc__law_sorted_rings.nd rfl rfl (by decide) rfl rfl (pa_cons (pe_lc (own := [("ring", 4)]) rfl sc__law_sorted_rings.nd (pi_seq (pv 0)) (blkOk_by (N := ["some", "rows", "found", "place", "ring", "row"]) (sc := defScope s__law_sorted_rings) (own := [("ring", 4)]) (by decide +kernel)) (fun _ _ _ _ _ => (pg_name (i := 4) sc__law_sorted_rings.nd rfl (Or.inl rfl))) (fun _ _ _ _ _ => pts_nil) (fun _ _ _ _ _ => (pe_cr G__law_least_first (hr.mono (by decide)) (fun σ => passAt takes0 σ) (pa_cons (pe_callTy (call_list_ofK (K := K) rfl) (by rfl) T.z_list (by decide +kernel) (pa_cons (pv 4) pa_nil)) pa_nil)))) (pa_cons (pe_lst pa_nil) pa_nil)) (by rfl))
      (pss_cons (ps_for po rfl (pi_seq (pe_callB cr_sortedI (by rfl) T.z_sorted (by decide +kernel) (pa_cons (pe_lc (own := [("row", 5)]) rfl sc__law_sorted_rings.nd (pi_seq (pv 1)) (blkOk_by (N := ["some", "rows", "found", "place", "ring", "row"]) (sc := defScope s__law_sorted_rings) (own := [("row", 5)]) (by decide +kernel)) (fun _ _ _ _ _ => (pg_name (i := 5) sc__law_sorted_rings.nd rfl (Or.inl rfl))) (fun _ _ _ _ _ => pts_nil) (fun _ _ _ _ _ => (pe_callTy call_int1 (by rfl) T.z_int (by decide +kernel) (pa_cons (pe_ix (ix_seqK (K := K) rfl) (pv 5) pe_int (fun _ _ => rfl)) pa_nil)))) pa_nil))) (pg_name (i := 3) sc__law_sorted_rings.nd rfl (Or.inr rfl)) (pss_one (ps_set (i := 2) sc__law_sorted_rings.nd rfl (Or.inl rfl) (pe_op op_cat (pv 2) (pe_lc (own := [("row", 5)]) rfl sc__law_sorted_rings.nd (pi_seq (pv 1)) (blkOk_by (N := ["some", "rows", "found", "place", "ring", "row"]) (sc := defScope s__law_sorted_rings) (own := [("row", 5)]) (by decide +kernel)) (fun _ _ _ _ _ => (pg_name (i := 5) sc__law_sorted_rings.nd rfl (Or.inl rfl))) (fun _ _ _ _ _ => (pts_one (pt_cmpR op_eq (pe_ix (ix_seqK (K := K) rfl) (pv 5) pe_int (fun _ _ => rfl)) (pv 3) (nomark _)))) (fun _ _ _ _ _ => (pv 5)))))))
      (pss_one (ps_ret (pv 2))))), ?_⟩
    clear F hr tk po
    have lS : S.length ≤ 1000 := by
      have := hp.length_eq
      rw [List.length_map] at this
      have l2 : (leads g).length ≤ g.length := Nat.le_trans (List.length_filter_le _ _) (by simp)
      omega
    have lX := hx.1
    have ndS : (S.map (leadOf g)).Nodup := hp.nodup_iff.mpr (leads_nodup g)
    -- rows
    refine ⟨_, rfl, a, true, xs, rfl, hs, fun J wk D hD => ?_⟩
    refine lc_it wk (fun i H' => ∃ rs : List Addr, Same H H' ∧ H' D = some (.lst (rs.map V.ref)) ∧ Rows H' rs ((S.take i).map fun s => ringL g (leadOf g s))) ⟨[], Same.new hD, upd_same, trivial⟩ (fun i H' _ ⟨rs, sH, _⟩ => sH.seq hs) ?_ ?_
    · rintro i x H' _ hi ⟨rs, sH, eD, rw_⟩ ⟨rfl, ex⟩
      have hiS : i < S.length := by omega
      have eS := List.getElem?_eq_getElem hiS
      obtain ⟨r, b, rfl, hr⟩ := hx.2 i x _ ex eS
      have hsl := hS _ (List.getElem_mem hiS)
      refine ⟨rfl, yes_if ⟨_, rfl, r, _, rfl, SqB.or (Same.sqb sH hr), fun l hl => ?_⟩⟩
      have sl := Same.new (o := .lst ((ringL g S[i]).map vI)) hl
      refine ⟨l, g, S[i], rfl, SqL.of upd_same, hg, hsl, hz, fun t H2 st nt et => ?_⟩
      have eD2 := st _ _ (sl _ _ eD)
      have lr := rw_.len
      refine ⟨_, eD2, Nat.lt_of_le_of_lt (m := 100000) (by rw [List.length_map, lr, List.length_map, List.length_take]; omega) (by decide), rs ++ [t], ?_, ?_, ?_⟩
      · exact Same.put ((sH.trans sl).trans st) hD
      · rw [upd_same, List.map_append]
        rfl
      · rw [List.take_add_one, eS, List.map_append]
        refine Rows.put ?_ eD2 (fun xs e => by cases e)
        exact Rows.snoc et ((rw_.same sl).same st)
    rintro H1 ⟨rs, s1, eD, rw1⟩
    rw [lX, List.take_length] at rw1
    have lr := rw1.len
    rw [List.length_map] at lr
    refine ⟨Nat.zero_le _, fun fa0 hfa0 => ?_⟩
    have s2 := s1.trans (Same.new (o := .lst []) hfa0)
    have eD2 := Same.new (o := .lst []) hfa0 _ _ eD
    have rw2 := rw1.same (Same.new (o := .lst []) hfa0)
    have efa := upd_same (H := H1) (a := fa0) (o := .lst [])
    revert s2 eD2 rw2 efa
    generalize upd H1 fa0 (.lst []) = H2
    intro s2 eD2 rw2 efa
    refine ⟨_, _, rfl, ?_⟩
    -- the places, sorted
    refine ⟨_, rfl, D, true, _, rfl, SqL.of eD2, fun J wk D3 hD3 => ?_⟩
    refine lc_map wk ((S.map (leadOf g)).map vI) (by simp [lr]) hD3 (fun H' s => SqL.of (s _ _ eD2)) ?_ fun H3 s3 e3 => ?_
    · rintro i x H' _ hi s3 pv ⟨rfl, ex⟩
      obtain ⟨r, rr, rfl, er, era⟩ := (rw2.same s3).get ex
      rw [List.getElem?_map] at er
      obtain ⟨s, es, rfl⟩ := Option.map_eq_some_iff.mp er
      refine ⟨rfl, yes_if ⟨_, rfl, rix (b := false) (j := 0) (SqT.of era) rfl (by rw [List.getElem?_map, ringL_get (per_pos _ _)]; rfl) (.inl ⟨_, rfl, pvM_turn hD3 (by simp; omega) pv (.refl _) ?_⟩)⟩⟩
      rw [List.getElem?_map, List.getElem?_map, es]
      rfl
    refine ⟨D3, (S.map (leadOf g)).map Int.ofNat, rfl, SqL.of (by rw [← vI_map]; exact e3), fun ns pl p1 p2 hpl => ?_⟩
    have ens := sorted_leads p1 p2 hp
    subst ens
    rw [← vI_map]
    have s4 := Same.new (o := .lst ((leads g).map vI)) hpl
    have sA : Same H (upd H3 pl (.lst ((leads g).map vI))) := (s2.trans s3).trans s4
    refine ⟨pl, true, _, rfl, SqL.of upd_same, fun J wk => ?_⟩
    refine for_it wk (fun i σ' H' => ∃ (cs : List Addr) (fa : Addr) (v3 : Option V), σ' = [some (.ref a), some (.ref D), some (.ref fa), v3, none, none] ∧ Same H H' ∧ H' D = some (.lst (rs.map V.ref)) ∧ Rows H' rs (S.map fun s => ringL g (leadOf g s)) ∧ H' pl = some (.lst ((leads g).map vI)) ∧
      H' fa = some (.lst (cs.map V.ref)) ∧ H fa = none ∧ Rows H' cs (((leads g).take i).map (ringL g))) ?_ ?_ ?_ ?_
    · refine ⟨[], fa0, none, rfl, sA, s4 _ _ (s3 _ _ eD2), (rw2.same s3).same s4, upd_same, s4 _ _ (s3 _ _ efa), Same.free s1 hfa0, trivial⟩
    · rintro i _ H' hi ⟨cs, fa, v3, rfl, sH, ed, rr, ep, ef, nf, rc⟩
      exact SqL.of ep
    · rintro i x _ _ H' hi ⟨cs, fa, v3, rfl, sH, ed, rr, ep, ef, nf, rc⟩ ⟨rfl, ex⟩
      rw [List.getElem?_map] at ex
      obtain ⟨u, eu, rfl⟩ := Option.map_eq_some_iff.mp ex
      have mu : u ∈ S.map (leadOf g) := hp.mem_iff.mpr (List.mem_of_getElem? eu)
      obtain ⟨i0, hi0, ei0⟩ := List.mem_iff_getElem.mp mu
      have e0 : (S.map (leadOf g))[i0]? = some u := by rw [List.getElem?_eq_getElem hi0, ei0]
      rw [List.length_map] at hi0
      have er0 : rs[i0]? = some (rs[i0]'(by omega)) := List.getElem?_eq_getElem (by omega)
      refine ⟨_, rfl, _, rfl, D, true, _, rfl, SqL.of ed, fun J2 wk2 D5 hD5 => ?_⟩
      refine lc_sel wk2 (pickR (S.map (leadOf g)) rs u) hD5 (fun H' s => SqL.of (s _ _ ed)) ?_ fun H6 s6 e6 => ?_
      · rintro j x H7 _ hj s7 pv ⟨rfl, ex⟩
        obtain ⟨r, rrj, rfl, er, era⟩ := (rr.same s7).get ex
        rw [List.getElem?_map] at er
        obtain ⟨s, es, rfl⟩ := Option.map_eq_some_iff.mp er
        have hjr : j ≤ 1000 := by
          rw [List.length_map] at hj
          omega
        have erj : rs[j]? = some r := by
          rw [List.getElem?_map] at ex
          obtain ⟨r', er', e'⟩ := Option.map_eq_some_iff.mp ex
          cases e'
          exact er'
        have eSj : (S.map (leadOf g))[j]? = some (leadOf g s) := by rw [List.getElem?_map, es]; rfl
        refine ⟨rfl, _, rfl, rix (b := false) (j := 0) (SqT.of era) rfl (by rw [List.getElem?_map, ringL_get (per_pos _ _)]; rfl) ⟨_, rfl, rfl, _, rfl, ?_⟩⟩
        by_cases c : leadOf g s = u
        · refine ite_t (decide_eq_true (by rw [it_zero, c])) ⟨_, rfl, pvS_yes hD5 (by omega) pv (.refl _) ?_⟩
          simp [pickR, eSj, erj, c]
        · refine ite_f (decide_eq_false fun z => c ?_) (pvS_no pv (.refl _) ?_)
          · have := V.int.inj z
            rw [it_zero] at this
            omega
          · simp [pickR, eSj, c]
      · have en : (rs.map V.ref).length = (S.map (leadOf g)).length := by simp [lr]
        rw [en, pickR_one ndS e0 er0] at e6
        have lc := rc.len
        refine ⟨fa, D5, _, _, rfl, rfl, s6 _ _ ef, e6, Nat.le_trans (m := 100000) ?_ (by decide), fun fb hfb => ?_⟩
        · have l2 : (leads g).length ≤ g.length := Nat.le_trans (List.length_filter_le _ _) (by simp)
          simp only [List.length_map, List.length_take, List.length_cons, List.length_nil] at lc ⊢
          omega
        have s7 := Same.new (o := .lst (cs.map V.ref ++ [V.ref (rs[i0]'(by omega))])) hfb
        have sB := (sH.trans s6).trans s7
        refine ⟨cs ++ [rs[i0]'(by omega)], fb, _, rfl, sB, s7 _ _ (s6 _ _ ed), (rr.same s6).same s7, s7 _ _ (s6 _ _ ep), ?_, Same.free (sH.trans s6) hfb, ?_⟩
        · rw [upd_same, List.map_append]
          rfl
        · rw [List.take_add_one, eu, List.map_append]
          refine Rows.snoc ?_ ((rc.same s6).same s7)
          have er1 : (rs.map V.ref)[i0]? = some (V.ref (rs[i0]'(by omega))) := by rw [List.getElem?_map, er0]; rfl
          obtain ⟨r, rrj, e, er, era⟩ := ((rr.same s6).same s7).get er1
          cases e
          rw [List.getElem?_map] at er
          rw [List.getElem?_map] at e0
          obtain ⟨s, es, e2⟩ := Option.map_eq_some_iff.mp e0
          rw [es] at er
          have e3 := Option.some.inj er
          have e4 : (fun s => ringL g (leadOf g s)) s = ringL g u := by
            show ringL g (leadOf g s) = _
            rw [e2]
          rw [← e3, e4] at era
          exact era
    · rintro _ H' ⟨cs, fa, v3, rfl, sH, ed, rr, ep, ef, nf, rc⟩
      rw [List.length_map, List.take_length] at rc
      exact ⟨_, rfl, q cs fa H' sH nf ef rc⟩
def sp_law (K : PySem.W.Frag) : Sp := fun vs H Q _ => ∃ (a : Addr) (ns : List Int), vs = [.ref a] ∧ SqL K H a (ns.map V.int) ∧ ∀ H', Q (.bl true) H'
theorem tl_law_3 (T : Tx K mg) {X : Cx} {H : Hp} {E : XK} (hX : ∃ cdv A outer s, X = cxOf (L2.CX P w) P w K mg base ["script", "pen", "lap", "size", "a", "b", "c", "still", "many", "more", "carried", "back", "moved", "ring", "place"] "law" (defScope s_law) (ga K "law") cdv A outer s H E) (hr : Room 4 X.A) (tk : Takes X (fun cls d _ H => E cls d H)) (po : PassesOwn (model X.prog X.w) X.A X.env X.xe) :
    ∃ t, PSs X ((bodyOf ((defBody s_law).getD 1 stPass)).drop 15) t ∧ ∀ (D : Ends) (a p c cr bk st pc pb pa : Addr) (fa fb fc : List Nat) (s i : Nat) (v2 v8 v9 v12 : Option V) (H1 : Hp), IsRow fa → IsRow fb → IsRow fc → fa.length = s → fb.length = s → fc.length = s → s ≤ 60 → i < 3 → Facts [(bk, .lst ((invL fb).map vI)), (cr, .lst ((conjL fa fb).map vI)), (st, .lst ((List.range s).map vI)), (pc, .lst (fc.map vI)), (pb, .lst (fb.map vI)), (pa, .lst (fa.map vI))] H1 → Pen H1 p c (1000 * i + 230) → (∀ (w2 w3 w4 w5 w6 w7 w8 w9 w10 w11 w12 : Option V) H', Pen H' p c (1000 * (i + 1)) → D.nx [some (.ref a), some (.ref p), w2, w3, w4, w5, w6, w7, w8, w9, w10, w11, w12, none, none] H') → t D [some (.ref a), some (.ref p), v2, some (.int (s : Int)), some (.ref pa), some (.ref pb), some (.ref pc), some (.ref st), v8, v9, some (.ref cr), some (.ref bk), v12, none, none] H1 := by
  have G_done := ok_done (P := P) (w := w) (base := base) T
  have G_undone := ok_undone (P := P) (w := w) (base := base) T
  obtain ⟨cdv, A, outer, s, rfl⟩ := hX
  refine ⟨_, (pss_one (ps_if (pt_cmpR (op_neD hr.units) (pe_cr G_done (hr.mono (by decide)) (fun σ => passAt tk σ) (pa_cons (pv 10) (pa_cons (pe_cr G_done (hr.mono (by decide)) (fun σ => passAt tk σ) (pa_cons (pe_cr G_undone (hr.mono (by decide)) (fun σ => passAt tk σ) (pa_cons (pv 5) pa_nil)) (pa_cons (pv 6) pa_nil))) pa_nil))) (pe_cr G_done (hr.mono (by decide)) (fun σ => passAt tk σ) (pa_cons (pv 5) (pa_cons (pe_cr G_done (hr.mono (by decide)) (fun σ => passAt tk σ) (pa_cons (pv 4) (pa_cons (pe_cr G_done (hr.mono (by decide)) (fun σ => passAt tk σ) (pa_cons (pe_cr G_undone (hr.mono (by decide)) (fun σ => passAt tk σ) (pa_cons (pv 5) pa_nil)) (pa_cons (pe_cr G_done (hr.mono (by decide)) (fun σ => passAt tk σ) (pa_cons (pe_cr G_undone (hr.mono (by decide)) (fun σ => passAt tk σ) (pa_cons (pv 5) pa_nil)) (pa_cons (pv 6) pa_nil))) pa_nil))) pa_nil))) pa_nil))) (nomark _)) (pss_one (ps_ret pe_bl)) pss_nil)), ?_⟩
  clear hr tk po
  intro D a p c cr bk st pc pb pa fa fb fc s i v2 v8 v9 v12 H1 ra rb rc la lb lc hs1 hi6 F pn fin
  dsimp only [cxOf]
  have rs := isRow_range s
  have ls : (List.range s).length = s := List.length_range
  have rab := isRow_join ra rb (by omega)
  have lab := joinL_len fa fb
  have rbc := isRow_join rb rc (by omega)
  have lbc := joinL_len fb fc
  have ia := isRow_inv ra
  have lia := invL_len fa
  have ib := isRow_inv rb
  have lib := invL_len fb
  have rcj := conj_row ra rb (by omega)
  have lcj := conj_len (a := fa) (b := fb)
  -- done(carried, done(undone(b), c)) != done(b, done(a, done(undone(b), done(undone(b), c))))
  have itc := intL_vI fc
  have ld : (doneL V.non (invL fb) (fc.map vI)).length = s := by rw [doneL_len]; omega
  have ld2 : (doneL V.non (invL fb) (doneL V.non (invL fb) (fc.map vI))).length = s := by rw [doneL_len]; omega
  have ld3 : (doneL V.non fa (doneL V.non (invL fb) (doneL V.non (invL fb) (fc.map vI)))).length = s := by rw [doneL_len]; omega
  have i1 : IntL (doneL V.non (invL fb) (fc.map vI)) := itc.done fun x hx => by have := ib.lt x hx; rw [List.length_map]; omega
  refine ⟨_, rfl, _, rfl, pb, true, fb, rfl, SqL.of (F.get 4 rfl), rb, by omega, fun r1 h1 s1 n1 e1 => ?_⟩
  replace F := F.same s1
  refine ⟨_, rfl, r1, pc, true, true, invL fb, fc.map vI, rfl, SqL.of e1, SqL.of (F.get 3 rfl), ib, by rw [List.length_map]; omega, by omega, fun r2 h2 s2 n2 e2 => ?_⟩
  replace F := F.same s2
  refine ⟨cr, r2, true, true, conjL fa fb, _, rfl, SqL.of (F.get 1 rfl), SqL.of e2, rcj, by omega, by omega, fun r3 h3 s3 n3 e3 => ?_⟩
  replace F := F.same s3
  refine ⟨_, rfl, _, rfl, _, rfl, pb, true, fb, rfl, SqL.of (F.get 4 rfl), rb, by omega, fun r4 h4 s4 n4 e4 => ?_⟩
  replace F := F.same s4
  refine ⟨_, rfl, pb, true, fb, rfl, SqL.of (F.get 4 rfl), rb, by omega, fun r5 h5 s5 n5 e5 => ?_⟩
  replace F := F.same s5
  refine ⟨_, rfl, r5, pc, true, true, invL fb, fc.map vI, rfl, SqL.of e5, SqL.of (F.get 3 rfl), ib, by rw [List.length_map]; omega, by omega, fun r6 h6 s6 n6 e6 => ?_⟩
  replace F := F.same s6
  refine ⟨r4, r6, true, true, invL fb, _, rfl, SqL.of (s6 _ _ (s5 _ _ e4)), SqL.of e6, ib, by omega, by omega, fun r7 h7 s7 n7 e7 => ?_⟩
  replace F := F.same s7
  refine ⟨pa, r7, true, true, fa, _, rfl, SqL.of (F.get 5 rfl), SqL.of e7, ra, by omega, by omega, fun r8 h8 s8 n8 e8 => ?_⟩
  replace F := F.same s8
  refine ⟨pb, r8, true, true, fb, _, rfl, SqL.of (F.get 4 rfl), SqL.of e8, rb, by omega, by omega, fun r9 h9 s9 n9 e9 => ?_⟩
  have sY := ((((s4.trans s5).trans s6).trans s7).trans s8).trans s9
  have lba := joinL_len (invL fb) fa
  have eq9 : doneL V.non (conjL fa fb) (doneL V.non (invL fb) (fc.map vI)) = doneL V.non fb (doneL V.non fa (doneL V.non (invL fb) (doneL V.non (invL fb) (fc.map vI)))) := by
    rw [conjL, done_join V.non rb (by omega), done_join V.non ra (by omega)]
  refine ne_same (SqL.of (sY _ _ e3)) (SqL.of e9) eq9 (i1.done fun x hx => by have := rcj.lt x hx; omega) ⟨_, rfl, iteF ?_⟩
  have pn11 := ((pn.same s1).same s2).same s3
  have pn12 := pn11.same sY
  exact fin _ _ _ _ _ _ _ _ _ _ _ _ (pn12.mono (by omega))
theorem tl_law_2 (T : Tx K mg) {X : Cx} {H : Hp} {E : XK} (hX : ∃ cdv A outer s, X = cxOf (L2.CX P w) P w K mg base ["script", "pen", "lap", "size", "a", "b", "c", "still", "many", "more", "carried", "back", "moved", "ring", "place"] "law" (defScope s_law) (ga K "law") cdv A outer s H E) (hr : Room 4 X.A) (tk : Takes X (fun cls d _ H => E cls d H)) (po : PassesOwn (model X.prog X.w) X.A X.env X.xe) :
    ∃ t, PSs X ((bodyOf ((defBody s_law).getD 1 stPass)).drop 11) t ∧ ∀ (D : Ends) (a p c st pc pb pa : Addr) (fa fb fc : List Nat) (s i : Nat) (v2 v8 v9 v10 v11 v12 : Option V) (H1 : Hp), IsRow fa → IsRow fb → IsRow fc → fa.length = s → fb.length = s → fc.length = s → s ≤ 60 → i < 3 → Facts [(st, .lst ((List.range s).map vI)), (pc, .lst (fc.map vI)), (pb, .lst (fb.map vI)), (pa, .lst (fa.map vI))] H1 → Pen H1 p c (1000 * i + 220) → (∀ (w2 w3 w4 w5 w6 w7 w8 w9 w10 w11 w12 : Option V) H', Pen H' p c (1000 * (i + 1)) → D.nx [some (.ref a), some (.ref p), w2, w3, w4, w5, w6, w7, w8, w9, w10, w11, w12, none, none] H') → t D [some (.ref a), some (.ref p), v2, some (.int (s : Int)), some (.ref pa), some (.ref pb), some (.ref pc), some (.ref st), v8, v9, v10, v11, v12, none, none] H1 := by
  have G__law_sorted_rings := ok__law_sorted_rings (P := P) (w := w) (base := base) T
  have G_joined := ok_joined (P := P) (w := w) (base := base) T
  have G_rings := ok_rings (P := P) (w := w) (base := base) T
  have G_undone := ok_undone (P := P) (w := w) (base := base) T
  obtain ⟨t_3, h_3, rd_3⟩ := tl_law_3 T hX hr tk po
  obtain ⟨cdv, A, outer, s, rfl⟩ := hX
  refine ⟨_, (pss_cons (ps_set (i := 10) sc_law.nd rfl (Or.inl rfl) (pe_cr G_joined (hr.mono (by decide)) (fun σ => passAt tk σ) (pa_cons (pe_cr G_joined (hr.mono (by decide)) (fun σ => passAt tk σ) (pa_cons (pe_cr G_undone (hr.mono (by decide)) (fun σ => passAt tk σ) (pa_cons (pv 5) pa_nil)) (pa_cons (pv 4) pa_nil))) (pa_cons (pv 5) pa_nil))))
      (pss_cons (ps_set (i := 11) sc_law.nd rfl (Or.inr rfl) (pe_cr G_undone (hr.mono (by decide)) (fun σ => passAt tk σ) (pa_cons (pv 5) pa_nil)))
      (pss_cons (ps_setLc (i := 12) (own := [("ring", 13)]) rfl sc_law.nd rfl rfl (sw_true rfl rfl rfl (by decide +kernel)) (pi_seq (pe_cr G_rings (hr.mono (by decide)) (fun σ => passAt tk σ) (pa_cons (pv 4) pa_nil))) (blkOk_by (N := ["script", "pen", "lap", "size", "a", "b", "c", "still", "many", "more", "carried", "back", "moved", "ring", "place"]) (sc := defScope s_law) (own := [("ring", 13)]) (by decide +kernel)) (fun _ _ _ _ _ => (pg_name (i := 13) sc_law.nd rfl (Or.inl rfl))) (fun _ _ _ _ _ => pts_nil) (fun _ _ _ _ _ => (pe_lc (own := [("place", 14)]) rfl sc_law.nd (pi_seqK (K := K) rfl (pv 13)) (blkOk_by (N := ["script", "pen", "lap", "size", "a", "b", "c", "still", "many", "more", "carried", "back", "moved", "ring", "place"]) (sc := { kind := ScopeKind.function, names := [(Str.ofString ".0", NameKind.local), (Str.ofString "ring", NameKind.local), (Str.ofString "back", NameKind.cell)], isGenerator := false, isCoroutine := false }) (own := [("place", 14)]) (by decide +kernel)) (fun _ _ _ _ _ => (pg_name (i := 14) sc_law.nd rfl (Or.inl rfl))) (fun _ _ _ _ _ => pts_nil) (fun _ _ _ _ _ => (pe_ix (ix_seqK (K := K) rfl) (pv 11) (pv 14) (fun _ _ => rfl))))))
      (pss_cons (ps_if (pt_cmpR (op_neD hr.units) (pe_cr G__law_sorted_rings (hr.mono (by decide)) (fun σ => passAt tk σ) (pa_cons (pv 12) pa_nil)) (pe_lc (own := [("ring", 13)]) rfl sc_law.nd (pi_seq (pe_cr G_rings (hr.mono (by decide)) (fun σ => passAt tk σ) (pa_cons (pv 10) pa_nil))) (blkOk_by (N := ["script", "pen", "lap", "size", "a", "b", "c", "still", "many", "more", "carried", "back", "moved", "ring", "place"]) (sc := defScope s_law) (own := [("ring", 13)]) (by decide +kernel)) (fun _ _ _ _ _ => (pg_name (i := 13) sc_law.nd rfl (Or.inl rfl))) (fun _ _ _ _ _ => pts_nil) (fun _ _ _ _ _ => (pe_callTy (call_tuple_ofK (K := K) rfl) (by rfl) T.z_tuple (by decide +kernel) (pa_cons (pv 13) pa_nil)))) (nomark _)) (pss_one (ps_ret pe_bl)) pss_nil)
      h_3)))), ?_⟩
  clear hr tk po
  intro D a p c st pc pb pa fa fb fc s i v2 v8 v9 v10 v11 v12 H1 ra rb rc la lb lc hs1 hi6 F pn fin
  dsimp only [cxOf]
  have rs := isRow_range s
  have ls : (List.range s).length = s := List.length_range
  have rab := isRow_join ra rb (by omega)
  have lab := joinL_len fa fb
  have rbc := isRow_join rb rc (by omega)
  have lbc := joinL_len fb fc
  have ia := isRow_inv ra
  have lia := invL_len fa
  have ib := isRow_inv rb
  have lib := invL_len fb
  have big : ∀ (l : List V) (n : Nat), l.length = n → n ≤ 1000 → l.length < sizeLine := fun l n e h => Nat.lt_of_le_of_lt (m := 100000) (by omega) (by decide)
  have lla := leads_len fa
  -- carried, back
  refine ⟨_, rfl, pb, true, fb, rfl, SqL.of (F.get 2 rfl), rb, by omega, fun r1 h1 s1 n1 e1 => ?_⟩
  replace F := F.same s1
  refine ⟨_, rfl, r1, pa, true, true, invL fb, fa, rfl, SqL.of e1, SqL.of (F.get 3 rfl), ib, ra, by omega, by omega, fun r2 h2 s2 n2 e2 => ?_⟩
  replace F := F.same s2
  have rba := isRow_join ib ra (by omega)
  have lba := joinL_len (invL fb) fa
  refine ⟨_, rfl, r2, pb, true, true, _, fb, rfl, SqL.of e2, SqL.of (F.get 2 rfl), rba, rb, by omega, by omega, fun cr h3 s3 n3 e3 => ?_⟩
  replace F := F.cons s3 n3 e3
  refine ⟨_, rfl, pb, true, fb, rfl, SqL.of (F.get 3 rfl), rb, by omega, fun bk h4 s4 n4 e4 => ?_⟩
  replace F := F.cons s4 n4 e4
  have pn9 := (((pn.same s1).same s2).same s3).same s4
  clear e1 e2 e3 e4 s1 s2 s3 s4 n1 n2 n3 n4 pn
  have rcj := conj_row ra rb (by omega)
  have lcj := conj_len (a := fa) (b := fb)
  -- moved
  refine ⟨_, rfl, pa, true, fa, rfl, SqL.of (F.get 5 rfl), ra, by omega, fun as rl h1 s1 n1 e1 rw1 => ?_⟩
  replace F := F.same s1
  refine ⟨rl, true, as.map V.ref, rfl, SqL.of e1, fun J wk D hD => ?_⟩
  have las := rw1.len
  rw [ringsL_leads, List.length_map] at las
  refine lc_it wk (fun i H' => ∃ ls : List Addr, Same h1 H' ∧ H' D = some (.lst (ls.map V.ref)) ∧ Lsts H' D ls (((leads fa).take i).map fun p => joinL (invL fb) (ringL fa p))) ⟨[], Same.new hD, upd_same, trivial⟩ (fun i H' _ ⟨ls, sH, _⟩ => SqL.of (sH _ _ e1)) ?_ ?_
  · rintro i x H' _ hi ⟨ls, sH, eD, lw⟩ ⟨rfl, ex⟩
    obtain ⟨r, rr, rfl, er, era⟩ := (rw1.same sH).get ex
    rw [ringsL_leads, List.getElem?_map] at er
    obtain ⟨u, eu, rfl⟩ := Option.map_eq_some_iff.mp er
    have hu := leads_lt u (List.mem_of_getElem? eu)
    have hur : ∀ x ∈ ringL fa u, x < (invL fb).length := fun x hx => by
      have := ringL_lt ra hu hx
      omega
    refine ⟨rfl, yes_if ⟨_, rfl, r, false, (ringL fa u).map vI, rfl, SqT.of era, fun J2 wk2 D2 hD2 => ?_⟩⟩
    refine lc_index wk2 (a := bk) (b := true) (xs := (invL fb).map vI) hD2 (fun H' s => SqT.of (s _ _ era)) (SqL.of ((F.same sH).get 0 rfl)) (by simpa using hur) (by have := per_le ra hu; rw [ringL_len]; omega) (fun _ => rfl) (fun _ => rfl) (fun _ => rfl) fun h3 s3 e3 => ?_
    rw [doneL_join hur] at e3
    have n2 : D2 ≠ D := (ne_of_none eD hD2).symm
    have ll := lw.len
    rw [List.length_map, List.length_take] at ll
    refine ⟨_, s3 _ _ eD, big _ ls.length (by simp) (by omega), ls ++ [D2], Same.put (sH.trans s3) hD, by rw [upd_same, List.map_append]; rfl, ?_⟩
    rw [List.take_add_one, eu, List.map_append]
    exact Lsts.put (Lsts.snoc n2 e3 (lw.same s3))
  rintro h2 ⟨ls, s2, eD, lw⟩
  replace F := F.same s2
  rw [List.length_map, las, List.take_length] at lw
  have e8 : ((leads fa).map fun p => joinL (invL fb) (ringL fa p)) = ((leads fa).map fun p => (invL fb).getD p 0).map (ringL (conjL fa fb)) := by
    rw [List.map_map]
    exact List.map_congr_left fun p hp => conj_ring ra rb (by omega) (leads_lt p hp)
  rw [e8] at lw
  refine ⟨_, rfl, D, conjL fa fb, _, ls.map V.ref, rfl, SqL.of eD, lw.rings, rcj, by omega, fun s hs => ?_, conj_leads ra rb (by omega), fun bs p2 h3 s3 n3 e3 rw3 => ?_⟩
  · obtain ⟨u, hu, rfl⟩ := List.mem_map.mp hs
    exact conj_back ra rb (by omega) (leads_lt u hu)
  replace F := F.same s3
  refine ⟨_, rfl, cr, true, conjL fa fb, rfl, SqL.of (F.get 1 rfl), rcj, by omega, fun cs rl2 h5 s5 n5 e5 rw5 => ?_⟩
  replace F := F.same s5
  have lcs := rw5.len
  have llc := leads_len (conjL fa fb)
  rw [ringsL_leads, List.length_map] at lcs
  refine ⟨rl2, true, cs.map V.ref, rfl, SqL.of e5, fun J wk D2 hD2 => ?_⟩
  refine lc_map wk (cs.map V.ref) rfl hD2 (fun H' s => SqL.of (s _ _ e5)) ?_ fun h6 s6 e6 => ?_
  · rintro i x H' _ hi s7 pv ⟨rfl, ex⟩
    obtain ⟨r, rr, rfl, er, era⟩ := (rw5.same s7).get ex
    refine ⟨rfl, yes_if ⟨_, rfl, r, _, rfl, .inr ⟨SqT.of era, pvM_turn hD2 (by rw [List.length_map]; omega) pv (.refl _) ex⟩⟩⟩
  replace F := F.same s6
  have sX := s5.trans s6
  refine ne_rows (SqL.of (sX _ _ e3)) (SqL.of e6) (rw3.same sX) (rw5.same s6) ⟨_, rfl, iteF ?_⟩
  have pn10 := (((((pn9.same s1).same s2).same s3).same s5).same s6)
  clear e1 e3 e5 e6 rw1 rw3 rw5 s1 s2 s3 s5 s6 sX lw eD e8 n1 n3 n5 pn9
  exact rd_3 _ a p c cr bk st pc pb pa fa fb fc s i _ _ _ _ _ ra rb rc la lb lc hs1 hi6 F (pn10.mono (by omega)) fin
theorem tl_law_1 (T : Tx K mg) {X : Cx} {H : Hp} {E : XK} (hX : ∃ cdv A outer s, X = cxOf (L2.CX P w) P w K mg base ["script", "pen", "lap", "size", "a", "b", "c", "still", "many", "more", "carried", "back", "moved", "ring", "place"] "law" (defScope s_law) (ga K "law") cdv A outer s H E) (hr : Room 4 X.A) (tk : Takes X (fun cls d _ H => E cls d H)) (po : PassesOwn (model X.prog X.w) X.A X.env X.xe) :
    ∃ t, PSs X ((bodyOf ((defBody s_law).getD 1 stPass)).drop 10) t ∧ ∀ (D : Ends) (a p c st pc pb pa : Addr) (fa fb fc : List Nat) (s i : Nat) (v2 v8 v9 v10 v11 v12 : Option V) (H1 : Hp), IsRow fa → IsRow fb → IsRow fc → fa.length = s → fb.length = s → fc.length = s → s ≤ 60 → i < 3 → Facts [(st, .lst ((List.range s).map vI)), (pc, .lst (fc.map vI)), (pb, .lst (fb.map vI)), (pa, .lst (fa.map vI))] H1 → Pen H1 p c (1000 * i + 210) → (∀ (w2 w3 w4 w5 w6 w7 w8 w9 w10 w11 w12 : Option V) H', Pen H' p c (1000 * (i + 1)) → D.nx [some (.ref a), some (.ref p), w2, w3, w4, w5, w6, w7, w8, w9, w10, w11, w12, none, none] H') → t D [some (.ref a), some (.ref p), v2, some (.int (s : Int)), some (.ref pa), some (.ref pb), some (.ref pc), some (.ref st), v8, v9, v10, v11, v12, none, none] H1 := by
  have G__law_sorted_rings := ok__law_sorted_rings (P := P) (w := w) (base := base) T
  have G_rings := ok_rings (P := P) (w := w) (base := base) T
  have G_undone := ok_undone (P := P) (w := w) (base := base) T
  obtain ⟨t_2, h_2, rd_2⟩ := tl_law_2 T hX hr tk po
  obtain ⟨cdv, A, outer, s, rfl⟩ := hX
  refine ⟨_, (pss_cons (ps_if (pt_cmpR (op_neD hr.units) (pe_cr G__law_sorted_rings (hr.mono (by decide)) (fun σ => passAt tk σ) (pa_cons (pe_lc (own := [("ring", 13)]) rfl sc_law.nd (pi_seq (pe_cr G_rings (hr.mono (by decide)) (fun σ => passAt tk σ) (pa_cons (pv 4) pa_nil))) (blkOk_by (N := ["script", "pen", "lap", "size", "a", "b", "c", "still", "many", "more", "carried", "back", "moved", "ring", "place"]) (sc := defScope s_law) (own := [("ring", 13)]) (by decide +kernel)) (fun _ _ _ _ _ => (pg_name (i := 13) sc_law.nd rfl (Or.inl rfl))) (fun _ _ _ _ _ => pts_nil) (fun _ _ _ _ _ => (pe_revLK (K := K) rfl (pe_callTy (call_list_ofK (K := K) rfl) (by rfl) T.z_list (by decide +kernel) (pa_cons (pv 13) pa_nil))))) pa_nil)) (pe_lc (own := [("ring", 13)]) rfl sc_law.nd (pi_seq (pe_cr G_rings (hr.mono (by decide)) (fun σ => passAt tk σ) (pa_cons (pe_cr G_undone (hr.mono (by decide)) (fun σ => passAt tk σ) (pa_cons (pv 4) pa_nil)) pa_nil))) (blkOk_by (N := ["script", "pen", "lap", "size", "a", "b", "c", "still", "many", "more", "carried", "back", "moved", "ring", "place"]) (sc := defScope s_law) (own := [("ring", 13)]) (by decide +kernel)) (fun _ _ _ _ _ => (pg_name (i := 13) sc_law.nd rfl (Or.inl rfl))) (fun _ _ _ _ _ => pts_nil) (fun _ _ _ _ _ => (pe_callTy (call_tuple_ofK (K := K) rfl) (by rfl) T.z_tuple (by decide +kernel) (pa_cons (pv 13) pa_nil)))) (nomark _)) (pss_one (ps_ret pe_bl)) pss_nil)
      h_2), ?_⟩
  clear hr tk po
  intro D a p c st pc pb pa fa fb fc s i v2 v8 v9 v10 v11 v12 H1 ra rb rc la lb lc hs1 hi6 F pn fin
  dsimp only [cxOf]
  have rs := isRow_range s
  have ls : (List.range s).length = s := List.length_range
  have rab := isRow_join ra rb (by omega)
  have lab := joinL_len fa fb
  have rbc := isRow_join rb rc (by omega)
  have lbc := joinL_len fb fc
  have ia := isRow_inv ra
  have lia := invL_len fa
  have ib := isRow_inv rb
  have lib := invL_len fb
  have big : ∀ (l : List V) (n : Nat), l.length = n → n ≤ 1000 → l.length < sizeLine := fun l n e h => Nat.lt_of_le_of_lt (m := 100000) (by omega) (by decide)
  have lla := leads_len fa
  -- _law_sorted_rings([list(ring)[::-1] for ring in rings(a)]) != [tuple(ring) for ring in rings(undone(a))]
  refine ⟨_, rfl, pa, true, fa, rfl, SqL.of (F.get 3 rfl), ra, by omega, fun as rl h1 s1 n1 e1 rw1 => ?_⟩
  replace F := F.same s1
  refine ⟨rl, true, as.map V.ref, rfl, SqL.of e1, fun J wk D hD => ?_⟩
  have las := rw1.len
  rw [ringsL_leads, List.length_map] at las
  refine lc_it wk (fun i H' => ∃ ls : List Addr, Same h1 H' ∧ H' D = some (.lst (ls.map V.ref)) ∧ Lsts H' D ls (((leads fa).take i).map fun p => (ringL fa p).reverse)) ⟨[], Same.new hD, upd_same, trivial⟩ (fun i H' _ ⟨ls, sH, _⟩ => SqL.of (sH _ _ e1)) ?_ ?_
  · rintro i x H' _ hi ⟨ls, sH, eD, lw⟩ ⟨rfl, ex⟩
    obtain ⟨r, rr, rfl, er, era⟩ := (rw1.same sH).get ex
    rw [ringsL_leads, List.getElem?_map] at er
    obtain ⟨u, eu, rfl⟩ := Option.map_eq_some_iff.mp er
    refine ⟨rfl, yes_if ⟨_, rfl, r, _, rfl, .inr (SqT.of era), fun t1 ht1 => ?_⟩⟩
    have q1 := Same.new (o := .lst ((ringL fa u).map vI)) ht1
    refine ⟨t1, _, rfl, SqL.of upd_same, fun t2 ht2 => ?_⟩
    rw [← List.map_reverse]
    have q2 := q1.trans (Same.new (o := .lst ((ringL fa u).reverse.map vI)) ht2)
    have n2 : t2 ≠ D := (ne_of_none (q1 _ _ eD) ht2).symm
    have ll := lw.len
    rw [List.length_map, List.length_take] at ll
    refine ⟨_, q2 _ _ eD, big _ ls.length (by simp) (by omega), ls ++ [t2], Same.put (sH.trans q2) hD, by rw [upd_same, List.map_append]; rfl, ?_⟩
    rw [List.take_add_one, eu, List.map_append]
    exact Lsts.put (Lsts.snoc n2 upd_same (lw.same q2))
  rintro h2 ⟨ls, s2, eD, lw⟩
  replace F := F.same s2
  rw [List.length_map, las, List.take_length] at lw
  have e8 : ((leads fa).map fun p => (ringL fa p).reverse) = ((leads fa).map fun p => it fa (per fa p - 1) p).map (ringL (invL fa)) := by
    rw [List.map_map]
    exact List.map_congr_left fun p hp => ring_rev ra (leads_lt p hp)
  rw [e8] at lw
  refine ⟨D, invL fa, _, ls.map V.ref, rfl, SqL.of eD, lw.rings, ia, by omega, fun s hs => ?_, List.Perm.of_eq (rev_leads ra), fun bs p2 h3 s3 n3 e3 rw3 => ?_⟩
  · obtain ⟨u, hu, rfl⟩ := List.mem_map.mp hs
    rw [lia]
    exact it_lt ra (leads_lt u hu) _
  replace F := F.same s3
  refine ⟨_, rfl, pa, true, fa, rfl, SqL.of (F.get 3 rfl), ra, by omega, fun r4 h4 s4 n4 e4 => ⟨r4, true, invL fa, rfl, SqL.of e4, ia, by omega, fun cs rl2 h5 s5 n5 e5 rw5 => ?_⟩⟩
  replace F := (F.same s4).same s5
  have lcs := rw5.len
  rw [ringsL_leads, List.length_map, inv_leads ra] at lcs
  refine ⟨rl2, true, cs.map V.ref, rfl, SqL.of e5, fun J wk D2 hD2 => ?_⟩
  refine lc_map wk (cs.map V.ref) rfl hD2 (fun H' s => SqL.of (s _ _ e5)) ?_ fun h6 s6 e6 => ?_
  · rintro i x H' _ hi s7 pv ⟨rfl, ex⟩
    obtain ⟨r, rr, rfl, er, era⟩ := (rw5.same s7).get ex
    refine ⟨rfl, yes_if ⟨_, rfl, r, _, rfl, .inr ⟨SqT.of era, pvM_turn hD2 (by rw [List.length_map]; omega) pv (.refl _) ex⟩⟩⟩
  replace F := F.same s6
  have sX := (s4.trans s5).trans s6
  refine ne_rows (SqL.of (sX _ _ e3)) (SqL.of e6) (rw3.same sX) (rw5.same s6) ⟨_, rfl, iteF ?_⟩
  have pn8 := ((((((pn.same s1).same s2).same s3).same s4).same s5).same s6)
  clear e1 e3 e4 e5 e6 rw1 rw3 rw5 s1 s2 s3 s4 s5 s6 sX lw eD e8 n1 n3 n4 n5 pn
  exact rd_2 _ a p c st pc pb pa fa fb fc s i _ _ _ _ _ _ _ ra rb rc la lb lc hs1 hi6 F (pn8.mono (by omega)) fin
theorem tl_law_0 (T : Tx K mg) {X : Cx} {H : Hp} {E : XK} (hX : ∃ cdv A outer s, X = cxOf (L2.CX P w) P w K mg base ["script", "pen", "lap", "size", "a", "b", "c", "still", "many", "more", "carried", "back", "moved", "ring", "place"] "law" (defScope s_law) (ga K "law") cdv A outer s H E) (hr : Room 4 X.A) (tk : Takes X (fun cls d _ H => E cls d H)) (po : PassesOwn (model X.prog X.w) X.A X.env X.xe) :
    ∃ t, PSs X ((bodyOf ((defBody s_law).getD 1 stPass)).drop 5) t ∧ ∀ (D : Ends) (a p c st pc pb pa : Addr) (fa fb fc : List Nat) (s i : Nat) (v2 v8 v9 v10 v11 v12 : Option V) (H1 : Hp), IsRow fa → IsRow fb → IsRow fc → fa.length = s → fb.length = s → fc.length = s → s ≤ 60 → i < 3 → Facts [(st, .lst ((List.range s).map vI)), (pc, .lst (fc.map vI)), (pb, .lst (fb.map vI)), (pa, .lst (fa.map vI))] H1 → Pen H1 p c (1000 * i + 200) → (∀ (w2 w3 w4 w5 w6 w7 w8 w9 w10 w11 w12 : Option V) H', Pen H' p c (1000 * (i + 1)) → D.nx [some (.ref a), some (.ref p), w2, w3, w4, w5, w6, w7, w8, w9, w10, w11, w12, none, none] H') → t D [some (.ref a), some (.ref p), v2, some (.int (s : Int)), some (.ref pa), some (.ref pb), some (.ref pc), some (.ref st), v8, v9, v10, v11, v12, none, none] H1 := by
  have G__law_draw := ok__law_draw (P := P) (w := w) (base := base) T
  have G_is_even := ok_is_even (P := P) (w := w) (base := base) T
  have G_joined := ok_joined (P := P) (w := w) (base := base) T
  have G_repeated := ok_repeated (P := P) (w := w) (base := base) T
  have G_undone := ok_undone (P := P) (w := w) (base := base) T
  obtain ⟨t_1, h_1, rd_1⟩ := tl_law_1 T hX hr tk po
  obtain ⟨cdv, A, outer, s, rfl⟩ := hX
  refine ⟨_, (pss_cons (ps_par (i := 8) (j := 9) (by rfl) sc_law.nd rfl rfl (by decide) rfl rfl (pa_cons (pe_op op_sub (pe_cr G__law_draw (hr.mono (by decide)) (fun σ => passAt tk σ) (pa_cons (pv 1) (pa_cons pe_int pa_nil))) pe_int) (pa_cons (pe_op op_add (pe_op op_mul (pe_op op_sub (pe_cr G__law_draw (hr.mono (by decide)) (fun σ => passAt tk σ) (pa_cons (pv 1) (pa_cons pe_int pa_nil))) pe_int) (pe_op op_pow pe_int pe_int)) pe_int) pa_nil)) (by rfl))
      (pss_cons (ps_if (pt_cmpR (op_neD hr.units) (pe_cr G_joined (hr.mono (by decide)) (fun σ => passAt tk σ) (pa_cons (pe_cr G_repeated (hr.mono (by decide)) (fun σ => passAt tk σ) (pa_cons (pv 4) (pa_cons (pv 8) pa_nil))) (pa_cons (pe_cr G_repeated (hr.mono (by decide)) (fun σ => passAt tk σ) (pa_cons (pv 4) (pa_cons (pv 9) pa_nil))) pa_nil))) (pe_cr G_repeated (hr.mono (by decide)) (fun σ => passAt tk σ) (pa_cons (pv 4) (pa_cons (pe_op op_add (pv 8) (pv 9)) pa_nil))) (nomark _)) (pss_one (ps_ret pe_bl)) pss_nil)
      (pss_cons (ps_if (pt_cmpR (op_neD hr.units) (pe_cr G_repeated (hr.mono (by decide)) (fun σ => passAt tk σ) (pa_cons (pe_cr G_repeated (hr.mono (by decide)) (fun σ => passAt tk σ) (pa_cons (pv 4) (pa_cons (pv 8) pa_nil))) (pa_cons (pv 9) pa_nil))) (pe_cr G_repeated (hr.mono (by decide)) (fun σ => passAt tk σ) (pa_cons (pv 4) (pa_cons (pe_op op_mul (pv 8) (pv 9)) pa_nil))) (nomark _)) (pss_one (ps_ret pe_bl)) pss_nil)
      (pss_cons (ps_if (PW.pt (pw_or (pt_cmpR (op_neD hr.units) (pe_cr G_repeated (hr.mono (by decide)) (fun σ => passAt tk σ) (pa_cons (pe_cr G_undone (hr.mono (by decide)) (fun σ => passAt tk σ) (pa_cons (pv 4) pa_nil)) (pa_cons (pv 8) pa_nil))) (pe_cr G_repeated (hr.mono (by decide)) (fun σ => passAt tk σ) (pa_cons (pv 4) (pa_cons (pe_un un_neg (pv 8)) pa_nil))) (nomark _)) (pw_or1 (pt_not (pt_val (pe_cr G_is_even (hr.mono (by decide)) (fun σ => passAt tk σ) (pa_cons (pv 7) pa_nil))))))) (pss_one (ps_ret pe_bl)) pss_nil)
      (pss_cons (ps_if (PW.pt (pw_or (pt_cmpR op_ne (pe_cr G_is_even (hr.mono (by decide)) (fun σ => passAt tk σ) (pa_cons (pe_cr G_joined (hr.mono (by decide)) (fun σ => passAt tk σ) (pa_cons (pv 4) (pa_cons (pv 5) pa_nil))) pa_nil)) (pe_cmpR op_eq (pe_cr G_is_even (hr.mono (by decide)) (fun σ => passAt tk σ) (pa_cons (pv 4) pa_nil)) (pe_cr G_is_even (hr.mono (by decide)) (fun σ => passAt tk σ) (pa_cons (pv 5) pa_nil)) (nomark _)) (nomark _)) (pw_or1 (pt_cmpR op_ne (pe_cr G_is_even (hr.mono (by decide)) (fun σ => passAt tk σ) (pa_cons (pv 4) pa_nil)) (pe_cr G_is_even (hr.mono (by decide)) (fun σ => passAt tk σ) (pa_cons (pe_cr G_undone (hr.mono (by decide)) (fun σ => passAt tk σ) (pa_cons (pv 4) pa_nil)) pa_nil)) (nomark _))))) (pss_one (ps_ret pe_bl)) pss_nil)
      h_1))))), ?_⟩
  clear hr tk po
  intro D a p c st pc pb pa fa fb fc s i v2 v8 v9 v10 v11 v12 H1 ra rb rc la lb lc hs1 hi6 F pn fin
  dsimp only [cxOf]
  have rs := isRow_range s
  have ls : (List.range s).length = s := List.length_range
  have rab := isRow_join ra rb (by omega)
  have lab := joinL_len fa fb
  have rbc := isRow_join rb rc (by omega)
  have lbc := joinL_len fb fc
  have ia := isRow_inv ra
  have lia := invL_len fa
  have ib := isRow_inv rb
  have lib := invL_len fb
  -- many, more
  refine ⟨_, rfl, p, c, _, _, rfl, by omega, by omega, pn, by omega, fun d4 h1 a4 b4 k1 pn2 => ?_⟩
  replace F := F.keep k1 rfl
  refine ⟨_, _, rfl, rfl, ?_⟩
  refine ⟨_, rfl, p, c, _, _, rfl, by omega, by omega, pn2, by omega, fun d5 h2 a5 b5 k2 pn3 => ?_⟩
  replace F := F.keep k2 rfl
  refine ⟨_, _, rfl, rfl, _, _, rfl, rfl, ⟨by decide, by decide, by decide⟩, _, _, rfl, rfl, mul_l (by omega) (by omega), _, _, rfl, rfl, ?_⟩
  refine ⟨_, _, rfl, ?_⟩
  obtain ⟨m, hm⟩ : ∃ m : Int, d4 - 49 = m := ⟨_, rfl⟩
  obtain ⟨n, hn⟩ : ∃ n : Int, (d5 - 49) * 10 ^ (30 : Int).toNat + 1 = n := ⟨_, rfl⟩
  have hm2 : (fun i j : Int => V.int (i - j)) d4 49 = V.int m := congrArg V.int hm
  have hn2 : (fun i j : Int => V.int (i + j)) ((d5 - 49) * 10 ^ (30 : Int).toNat) 1 = V.int n := congrArg V.int hn
  rw [hm2, hn2]
  have hmb : -64 < m ∧ m < 64 := by omega
  clear hm2 hn2 hm hn
  have rpm := isRow_pow ra m
  have rpn := isRow_pow ra n
  have lpm := powL_len fa m
  have lpn := powL_len fa n
  clear pn
  -- joined(repeated(a, many), repeated(a, more)) != repeated(a, many + more)
  refine ⟨_, rfl, _, rfl, pa, true, fa, m, rfl, SqL.of (F.get 3 rfl), ra, by omega, fun r1 h1 s1 n1 e1 => ?_⟩
  replace F := F.same s1
  refine ⟨_, rfl, _, rfl, pa, true, fa, n, rfl, SqL.of (F.get 3 rfl), ra, by omega, fun r2 h2 s2 n2 e2 => ?_⟩
  replace F := F.same s2
  refine ⟨r1, r2, true, true, powL fa m, powL fa n, rfl, SqL.of (s2 _ _ e1), SqL.of e2, rpm, rpn, by omega, by omega, fun r3 h3 s3 n3 e3 => ?_⟩
  replace F := F.same s3
  refine ⟨_, rfl, _, rfl, _, rfl, _, _, rfl, rfl, pa, true, fa, m + n, rfl, SqL.of (F.get 3 rfl), ra, by omega, fun r4 h4 s4 n4 e4 => ?_⟩
  replace F := F.same s4
  refine ne_same (SqL.of (s4 _ _ e3)) (SqL.of e4) (congrArg _ (pow_join ra m n)) (intL_vI _) ⟨_, rfl, iteF ?_⟩
  have pn4 := (((pn3.same s1).same s2).same s3).same s4
  clear e1 e2 e3 e4 s1 s2 s3 s4 n1 n2 n3 n4 pn2 pn3
  -- repeated(repeated(a, many), more) != repeated(a, many * more)
  refine ⟨_, rfl, _, rfl, pa, true, fa, m, rfl, SqL.of (F.get 3 rfl), ra, by omega, fun r1 h1 s1 n1 e1 => ?_⟩
  replace F := F.same s1
  refine ⟨_, rfl, r1, true, powL fa m, n, rfl, SqL.of e1, rpm, by omega, fun r2 h2 s2 n2 e2 => ?_⟩
  replace F := F.same s2
  refine ⟨_, rfl, _, rfl, _, rfl, _, _, rfl, rfl, mul_l (by omega) (by omega), pa, true, fa, m * n, rfl, SqL.of (F.get 3 rfl), ra, by omega, fun r3 h3 s3 n3 e3 => ?_⟩
  replace F := F.same s3
  refine ne_same (SqL.of (s3 _ _ e2)) (SqL.of e3) (congrArg _ (pow_pow ra m n)) (intL_vI _) ⟨_, rfl, iteF ?_⟩
  have pn5 := ((pn4.same s1).same s2).same s3
  clear e1 e2 e3 s1 s2 s3 n1 n2 n3 pn4
  -- repeated(undone(a), many) != repeated(a, -many) or not is_even(still)
  refine ⟨_, rfl, pa, true, fa, rfl, SqL.of (F.get 3 rfl), ra, by omega, fun r1 h1 s1 n1 e1 => ?_⟩
  replace F := F.same s1
  refine ⟨_, rfl, r1, true, invL fa, m, rfl, SqL.of e1, ia, by omega, fun r2 h2 s2 n2 e2 => ?_⟩
  replace F := F.same s2
  refine ⟨_, rfl, _, rfl, _, rfl, pa, true, fa, -m, rfl, SqL.of (F.get 3 rfl), ra, by omega, fun r3 h3 s3 n3 e3 => ?_⟩
  replace F := F.same s3
  refine ne_same (SqL.of (s3 _ _ e2)) (SqL.of e3) (congrArg _ (pow_inv ra m)) (intL_vI _) ⟨_, rfl, iteF ?_⟩
  refine ⟨_, rfl, st, true, List.range s, rfl, SqL.of (F.get 0 rfl), rs, by omega, fun h4 s4 => ?_⟩
  replace F := F.same s4
  rw [inv_range]
  refine ⟨_, rfl, iteF ?_⟩
  have pn6 := (((pn5.same s1).same s2).same s3).same s4
  clear e1 e2 e3 s1 s2 s3 s4 n1 n2 n3 pn5
  -- is_even(joined(a, b)) != (is_even(a) == is_even(b)) or is_even(a) != is_even(undone(a))
  refine ⟨_, rfl, _, rfl, pa, pb, true, true, fa, fb, rfl, SqL.of (F.get 3 rfl), SqL.of (F.get 2 rfl), ra, rb, by omega, by omega, fun r1 h1 s1 n1 e1 => ?_⟩
  replace F := F.same s1
  refine ⟨r1, true, _, rfl, SqL.of e1, rab, by omega, fun h2 s2 => ?_⟩
  replace F := F.same s2
  refine ⟨_, rfl, pa, true, fa, rfl, SqL.of (F.get 3 rfl), ra, by omega, fun h3 s3 => ?_⟩
  replace F := F.same s3
  refine ⟨_, rfl, pb, true, fb, rfl, SqL.of (F.get 2 rfl), rb, by omega, fun h4 s4 => ?_⟩
  replace F := F.same s4
  refine ⟨rfl, rfl, _, rfl, ite_f (by rw [dec_bl, dec_bl, sign_join ra rb (by omega)]; simp) ?_⟩
  refine ⟨_, rfl, pa, true, fa, rfl, SqL.of (F.get 3 rfl), ra, by omega, fun h5 s5 => ?_⟩
  replace F := F.same s5
  refine ⟨_, rfl, pa, true, fa, rfl, SqL.of (F.get 3 rfl), ra, by omega, fun r6 h6 s6 n6 e6 => ?_⟩
  replace F := F.same s6
  refine ⟨r6, true, invL fa, rfl, SqL.of e6, ia, by omega, fun h7 s7 => ?_⟩
  replace F := F.same s7
  refine ⟨rfl, _, rfl, ite_f (by rw [dec_bl, sign_inv ra]; simp) ?_⟩
  have pn7 := ((((((pn6.same s1).same s2).same s3).same s4).same s5).same s6).same s7
  clear e1 e6 s1 s2 s3 s4 s5 s6 s7 n1 pn6
  exact rd_1 _ a p c st pc pb pa fa fb fc s i _ _ _ _ _ _ _ ra rb rc la lb lc hs1 hi6 F (pn7.mono (by omega)) fin
theorem fn_law (T : Tx K mg) : ∀ fd, FunD K "law" "law" (defArgs s_law) (defBody s_law) (defScope s_law) [] [] (ga K "law") fd → FnOk P w K mg base (L2.CX P w) 5 (ga K "law") fd ["script"] (sp_law K) := by
  have G__law_draw := ok__law_draw (P := P) (w := w) (base := base) T
  have G__law_pen := ok__law_pen (P := P) (w := w) (base := base) T
  have G__law_pick := ok__law_pick (P := P) (w := w) (base := base) T
  have G__law_row := ok__law_row (P := P) (w := w) (base := base) T
  have G_joined := ok_joined (P := P) (w := w) (base := base) T
  have G_nothing := ok_nothing (P := P) (w := w) (base := base) T
  have G_undone := ok_undone (P := P) (w := w) (base := base) T
  intro fd F
  refine ok_of F sc_law (fun vs H Q E h => ?_) fun X H vs Q E hX hr tk po h => ?_
  · obtain ⟨a, ns, rfl, hs, q⟩ := h
    rfl
  · obtain ⟨t_0, h_0, rd_0⟩ := tl_law_0 T hX hr tk po
    obtain ⟨cdv, A, outer, s, rfl⟩ := hX
    obtain ⟨a, ns, rfl, hs, q⟩ := h
    refine ⟨_, (pss_cons (ps_set (i := 1) sc_law.nd rfl (Or.inl rfl) (pe_cr G__law_pen (hr.mono (by decide)) (fun σ => passAt tk σ) (pa_cons (pv 0) pa_nil)))
      (pss_cons (ps_for po rfl (pi_range1 (by rfl) T.z_range (pa_cons pe_int pa_nil)) (pg_name (i := 2) sc_law.nd rfl (Or.inl rfl)) (pss_cons (ps_set (i := 3) sc_law.nd rfl (Or.inl rfl) (pe_cr G__law_pick (hr.mono (by decide)) (fun σ => passAt tk σ) (pa_cons (pv 1) (pa_cons (pe_lst (pa_cons (pe_cr G__law_draw (hr.mono (by decide)) (fun σ => passAt tk σ) (pa_cons (pv 1) (pa_cons pe_int pa_nil))) (pa_cons (pe_cr G__law_draw (hr.mono (by decide)) (fun σ => passAt tk σ) (pa_cons (pv 1) (pa_cons pe_int pa_nil))) (pa_cons (pe_cr G__law_draw (hr.mono (by decide)) (fun σ => passAt tk σ) (pa_cons (pv 1) (pa_cons pe_int pa_nil))) pa_nil)))) pa_nil))))
      (pss_cons (ps_par3 (i := 4) (j := 5) (l := 6) (by rfl) sc_law.nd rfl rfl rfl (by decide) (by decide) (by decide) rfl rfl rfl (pa_cons (pe_cr G__law_row (hr.mono (by decide)) (fun σ => passAt tk σ) (pa_cons (pv 1) (pa_cons (pv 3) pa_nil))) (pa_cons (pe_cr G__law_row (hr.mono (by decide)) (fun σ => passAt tk σ) (pa_cons (pv 1) (pa_cons (pv 3) pa_nil))) (pa_cons (pe_cr G__law_row (hr.mono (by decide)) (fun σ => passAt tk σ) (pa_cons (pv 1) (pa_cons (pv 3) pa_nil))) pa_nil))) (by rfl))
      (pss_cons (ps_set (i := 7) sc_law.nd rfl (Or.inl rfl) (pe_cr G_nothing (hr.mono (by decide)) (fun σ => passAt tk σ) (pa_cons (pv 3) pa_nil)))
      (pss_cons (ps_if (PW.pt (pw_or (pt_cmpR (op_neD hr.units) (pe_cr G_joined (hr.mono (by decide)) (fun σ => passAt tk σ) (pa_cons (pe_cr G_joined (hr.mono (by decide)) (fun σ => passAt tk σ) (pa_cons (pv 4) (pa_cons (pv 5) pa_nil))) (pa_cons (pv 6) pa_nil))) (pe_cr G_joined (hr.mono (by decide)) (fun σ => passAt tk σ) (pa_cons (pv 4) (pa_cons (pe_cr G_joined (hr.mono (by decide)) (fun σ => passAt tk σ) (pa_cons (pv 5) (pa_cons (pv 6) pa_nil))) pa_nil))) (nomark _)) (pw_or (pt_cmpR (op_neD hr.units) (pe_cr G_joined (hr.mono (by decide)) (fun σ => passAt tk σ) (pa_cons (pv 4) (pa_cons (pv 7) pa_nil))) (pv 4) (nomark _)) (pw_or1 (pt_cmpR (op_neD hr.units) (pe_cr G_joined (hr.mono (by decide)) (fun σ => passAt tk σ) (pa_cons (pv 7) (pa_cons (pv 4) pa_nil))) (pv 4) (nomark _)))))) (pss_one (ps_ret pe_bl)) pss_nil)
      (pss_cons (ps_if (PW.pt (pw_or (pt_cmpR (op_neD hr.units) (pe_cr G_joined (hr.mono (by decide)) (fun σ => passAt tk σ) (pa_cons (pv 4) (pa_cons (pe_cr G_undone (hr.mono (by decide)) (fun σ => passAt tk σ) (pa_cons (pv 4) pa_nil)) pa_nil))) (pv 7) (nomark _)) (pw_or1 (pt_cmpR (op_neD hr.units) (pe_cr G_undone (hr.mono (by decide)) (fun σ => passAt tk σ) (pa_cons (pe_cr G_joined (hr.mono (by decide)) (fun σ => passAt tk σ) (pa_cons (pv 4) (pa_cons (pv 5) pa_nil))) pa_nil)) (pe_cr G_joined (hr.mono (by decide)) (fun σ => passAt tk σ) (pa_cons (pe_cr G_undone (hr.mono (by decide)) (fun σ => passAt tk σ) (pa_cons (pv 5) pa_nil)) (pa_cons (pe_cr G_undone (hr.mono (by decide)) (fun σ => passAt tk σ) (pa_cons (pv 4) pa_nil)) pa_nil))) (nomark _))))) (pss_one (ps_ret pe_bl)) pss_nil)
      h_0))))))
      (pss_one (ps_ret pe_bl)))), ?_⟩
    clear F hr tk po
    walk_at "rd"
    refine ⟨a, ns, rfl, hs, fun p H0 _ _ hp => ?_⟩
    obtain ⟨c, _, pn0⟩ := hp
    dsimp only [cxOf]
    walk_at "rd"
    refine for_range (lo := 0) (fun i σ' H' => ∃ v2 v3 v4 v5 v6 v7 v8 v9 v10 v11 v12 : Option V, σ' = [some (.ref a), some (.ref p), v2, v3, v4, v5, v6, v7, v8, v9, v10, v11, v12, none, none] ∧ Pen H' p c (1000 * i)) ?_ ?_ ?_
    · exact ⟨none, none, none, none, none, none, none, none, none, none, none, rfl, pn0⟩
    · rintro i _ H1 hi ⟨v2, v3, v4, v5, v6, v7, v8, v9, v10, v11, v12, rfl, pn1⟩
      have hi6 : i < 3 := by omega
      refine ⟨_, rfl, _, rfl, p, c, _, _, rfl, by omega, by omega, pn1, by omega, fun d1 H2 a1 b1 k1 pn2 => ?_⟩
      refine ⟨_, rfl, p, c, _, _, rfl, by omega, by omega, pn2, by omega, fun d2 H3 a2 b2 k2 pn3 => ?_⟩
      refine ⟨_, rfl, p, c, _, _, rfl, by omega, by omega, pn3, by omega, fun d3 H4 a3 b3 k3 pn4 => ?_⟩
      refine ⟨Nat.le_trans (m := 3) (Nat.le_refl 3) (by decide), fun o ho => ?_⟩
      refine ⟨p, c, o, true, _, [.int d1, .int d2, .int d3], rfl, SqL.of upd_same, by simp, by simp, pn4.put (pn4.ne ho), by omega, fun j x H5 hx k5 pn5 => ?_⟩
      obtain ⟨s, rfl, hs1⟩ : ∃ s : Nat, x = .int (s : Int) ∧ s ≤ 60 := by
        match j, hx with
        | 0, h => exact ⟨d1.toNat, by cases h; congr 1; omega, by omega⟩
        | 1, h => exact ⟨d2.toNat, by cases h; congr 1; omega, by omega⟩
        | 2, h => exact ⟨d3.toNat, by cases h; congr 1; omega, by omega⟩
        | n + 3, h => cases h
      walk_at "rd"
      refine ⟨p, c, s, _, rfl, by omega, pn5, by omega, fun fa pa H6 ra la k6 n6 e6 pn6 => ?_⟩
      refine ⟨_, rfl, _, rfl, p, c, s, _, rfl, by omega, pn6, by omega, fun fb pb H7 rb lb k7 n7 e7 pn7 => ?_⟩
      refine ⟨_, rfl, _, rfl, p, c, s, _, rfl, by omega, pn7, by omega, fun fc pc H8 rc lc k8 n8 e8 pn8 => ?_⟩
      have F1 : Facts [(pa, .lst (fa.map vI))] H6 := Facts.nil.more .nil n6 e6
      have F2 := F1.more (F1.keep k7 rfl) n7 e7
      have F3 := F2.more (F2.keep k8 rfl) n8 e8
      refine ⟨_, _, _, rfl, ?_⟩
      refine ⟨_, rfl, s, rfl, by omega, fun st H9 s9 n9 e9 => ?_⟩
      have F := F3.cons s9 n9 e9
      have pn := pn8.same s9
      clear F1 F2 F3 pn1 pn2 pn3 pn4 pn5 pn6 pn7 pn8 k1 k2 k3 k5 k6 k7 k8 hx ho e6 e7 e8 e9 s9 G__law_pen G__law_pick G__law_row
      have rs := isRow_range s
      have ls : (List.range s).length = s := List.length_range
      have rab := isRow_join ra rb (by omega)
      have lab := joinL_len fa fb
      have rbc := isRow_join rb rc (by omega)
      have lbc := joinL_len fb fc
      have ia := isRow_inv ra
      have lia := invL_len fa
      have ib := isRow_inv rb
      have lib := invL_len fb
      -- joined(joined(a, b), c) != joined(a, joined(b, c))
      refine ⟨_, rfl, _, rfl, pa, pb, true, true, fa, fb, rfl, SqL.of (F.get 3 rfl), SqL.of (F.get 2 rfl), ra, rb, by omega, by omega, fun r1 h1 s1 n1 e1 => ?_⟩
      replace F := F.same s1
      replace pn := pn.same s1
      refine ⟨_, rfl, r1, pc, true, true, _, fc, rfl, SqL.of e1, SqL.of (F.get 1 rfl), rab, rc, by omega, by omega, fun r2 h2 s2 n2 e2 => ?_⟩
      replace F := F.same s2
      replace pn := pn.same s2
      refine ⟨_, rfl, _, rfl, _, rfl, pb, pc, true, true, fb, fc, rfl, SqL.of (F.get 2 rfl), SqL.of (F.get 1 rfl), rb, rc, by omega, by omega, fun r3 h3 s3 n3 e3 => ?_⟩
      replace F := F.same s3
      replace pn := pn.same s3
      refine ⟨pa, r3, true, true, fa, _, rfl, SqL.of (F.get 3 rfl), SqL.of e3, ra, rbc, by omega, by omega, fun r4 h4 s4 n4 e4 => ?_⟩
      replace F := F.same s4
      replace pn := pn.same s4
      refine ne_same (SqL.of (s4 _ _ (s3 _ _ e2))) (SqL.of e4) (congrArg _ (join_assoc fun x hx => by have := rc.lt x hx; omega)) (intL_vI _) ⟨_, rfl, iteF ?_⟩
      clear e1 e2 e3 e4 s1 s2 s3 s4 n1 n2 n3 n4
      -- joined(a, still) != a or joined(still, a) != a
      refine ⟨_, rfl, _, rfl, pa, st, true, true, fa, List.range s, rfl, SqL.of (F.get 3 rfl), SqL.of (F.get 0 rfl), ra, rs, by omega, by omega, fun r1 h1 s1 n1 e1 => ?_⟩
      replace F := F.same s1
      replace pn := pn.same s1
      refine ⟨_, rfl, ne_same (SqL.of e1) (SqL.of (F.get 3 rfl)) (by rw [← la, join_range]) (intL_vI _) ⟨_, rfl, iteF ?_⟩⟩
      refine ⟨_, rfl, _, rfl, st, pa, true, true, List.range s, fa, rfl, SqL.of (F.get 0 rfl), SqL.of (F.get 3 rfl), rs, ra, by omega, by omega, fun r2 h2 s2 n2 e2 => ?_⟩
      replace F := F.same s2
      replace pn := pn.same s2
      refine ⟨_, rfl, ne_same (SqL.of e2) (SqL.of (F.get 3 rfl)) (by rw [← la, range_join ra]) (intL_vI _) ⟨_, rfl, iteF ?_⟩⟩
      clear e1 e2 s1 s2 n1 n2
      -- joined(a, undone(a)) != still
      refine ⟨_, rfl, _, rfl, pa, true, fa, rfl, SqL.of (F.get 3 rfl), ra, by omega, fun r1 h1 s1 n1 e1 => ?_⟩
      replace F := F.same s1
      replace pn := pn.same s1
      refine ⟨pa, r1, true, true, fa, invL fa, rfl, SqL.of (F.get 3 rfl), SqL.of e1, ra, ia, by omega, by omega, fun r2 h2 s2 n2 e2 => ?_⟩
      replace F := F.same s2
      replace pn := pn.same s2
      refine ⟨_, rfl, ne_same (SqL.of e2) (SqL.of (F.get 0 rfl)) (by rw [join_inv ra, la]) (intL_vI _) ⟨_, rfl, iteF ?_⟩⟩
      clear e1 e2 s1 s2 n1 n2
      -- undone(joined(a, b)) != joined(undone(b), undone(a))
      refine ⟨_, rfl, _, rfl, pa, pb, true, true, fa, fb, rfl, SqL.of (F.get 3 rfl), SqL.of (F.get 2 rfl), ra, rb, by omega, by omega, fun r1 h1 s1 n1 e1 => ?_⟩
      replace F := F.same s1
      replace pn := pn.same s1
      refine ⟨r1, true, _, rfl, SqL.of e1, rab, by omega, fun r2 h2 s2 n2 e2 => ?_⟩
      replace F := F.same s2
      replace pn := pn.same s2
      refine ⟨_, rfl, pb, true, fb, rfl, SqL.of (F.get 2 rfl), rb, by omega, fun r3 h3 s3 n3 e3 => ?_⟩
      replace F := F.same s3
      replace pn := pn.same s3
      refine ⟨_, rfl, pa, true, fa, rfl, SqL.of (F.get 3 rfl), ra, by omega, fun r4 h4 s4 n4 e4 => ?_⟩
      replace F := F.same s4
      replace pn := pn.same s4
      refine ⟨r3, r4, true, true, invL fb, invL fa, rfl, SqL.of (s4 _ _ e3), SqL.of e4, ib, ia, by omega, by omega, fun r5 h5 s5 n5 e5 => ?_⟩
      replace F := F.same s5
      replace pn := pn.same s5
      refine ne_same (SqL.of (s5 _ _ (s4 _ _ (s3 _ _ e2)))) (SqL.of e5) (congrArg _ (inv_joinL ra rb (by omega))) (intL_vI _) ⟨_, rfl, iteF ?_⟩
      clear e1 e2 e3 e4 e5 s1 s2 s3 s4 s5 n1 n2 n3 n4 n5
      exact rd_0 _ a p c st pc pb pa fa fb fc s i _ _ _ _ _ _ _ ra rb rc la lb lc hs1 hi6 F (pn.mono (by omega)) fun w2 w3 w4 w5 w6 w7 w8 w9 w10 w11 w12 H' pn' => ⟨w2, w3, w4, w5, w6, w7, w8, w9, w10, w11, w12, rfl, pn'⟩
    · rintro _ H1 ⟨v2, v3, v4, v5, v6, v7, v8, v9, v10, v11, v12, rfl, pn1⟩
      exact q _

end
end EV

namespace EV
open PySem PySem.Spec PyProof.Rows L2
open He (ga)
local macro_rules | `(tactic| walk_at "r1") => `(tactic| first | refine ⟨_, rfl, ?_⟩ | refine ⟨_, _, rfl, rfl, ?_⟩ | refine Or.inl ⟨_, rfl, ?_⟩ | refine ⟨_, _, rfl, Or.inl (by assumption), ?_⟩ | refine ⟨_, _, rfl, Or.inr (by assumption), ?_⟩ | refine ⟨_, _, rfl, Or.inl (SqL.of (by assumption)), ?_⟩ | refine ⟨_, _, rfl, SqB.or (by assumption), ?_⟩ | refine ⟨_, _, rfl, ?_⟩ | refine And.intro (Or.inl ⟨rfl, _, SqL.of (by assumption)⟩) ?_ | refine And.intro (rfl : scal _ _ = true) ?_ | refine And.intro (by assumption) ?_ | refine And.intro (mul_l (by omega) (by omega)) ?_ | refine And.intro (mul_r (by omega) (by omega)) ?_ | refine And.intro (by omega) ?_ | refine And.intro (by simp only [List.length_map]; omega) ?_)
local macro_rules | `(tactic| walk_at "rp") => `(tactic| first | walk_at "r1" | refine ⟨_, _, rfl, pen_left (by assumption), ?_⟩ | refine ⟨_, _, rfl, pen_at (by assumption), ?_⟩ | refine ⟨_, _, rfl, pen_cells (by assumption), ?_⟩ | refine ⟨_, _, rfl, put_at (by assumption), ?_⟩ | refine ⟨_, _, rfl, put_left (by assumption), ?_⟩)
local macro_rules | `(tactic| walk_at "rd") => `(tactic| repeat walk_at "r1")
local macro_rules | `(tactic| walk_at "rdp") => `(tactic| repeat walk_at "rp")
def loose0 : List Str := ["EveryError", "BadSize", "BadNumber", "BadRow", "is_integer", "need_row", "nothing", "joined", "undone", "done", "rings", "repeated", "is_even", "_law_pen", "_law_draw", "_law_pick", "_law_shuffled", "_law_row", "_law_least_first", "_law_sorted_rings", "MOST_SIZE"]
abbrev looseN : List Str := loose0
abbrev RwO : PySem.W.OpenRow := PySem.W.OpenLaw.row PySem.Challenge.rw_everyorder_k03_whole_rules_of_rearrangem
abbrev hkX : PySem.W.Hook := He.hookX 5 dfa dfn [] [] fun _ => true
def obsO (s : PySem.W.SharedT) : He.AlX := He.obsX 5 dfa dfn [] [] (fun _ => true) (HandSHeadRun.getT s)
theorem obsO_eq (s : PySem.W.SharedT) : obsO s = hkX.obs s.abs := He.obsX_eq (HandSHeadRun.getT_eq s)
theorem topRuns (w : World) : HandSHeadRun.RunEq RwO (PySem.W.view RwO.prog [25]) hkX obsO 20000 looseN w := by
  intro os
  kernel_rfl
theorem noRaise {P : Program} (w : World) (H : Hp) (s : Shared) (e : Value) (s' : Shared) (h : L2.CX P w [] H s (fun _ _ _ => False) e s') : False := by
  obtain ⟨_, _, _, _, _, _, _, _, _, _, _, _, q⟩ := h
  exact q
theorem lawAt {l : PySem.W.OpenLaw} {w : World} {K : PySem.W.Frag} {mg : Str → Option Value} {fa : Addr} {h : Heap} (T : Tx K mg) (hmg : mg "law" = some (.ref fa)) :
    LamX.LawAtS l w K (L2.CX l.prog w) 5 63 "script" mg fa h := by
  obtain ⟨fd, D⟩ := T.d_law
  have e : fa = ga K "law" := by
    have q := hmg.symm.trans T.g_law
    exact Value.ref.inj (Option.some.inj q)
  subst e
  refine ⟨fd, [], sp_law K, by simp, by simp, by simp, fun s u => FunD.bindsA D (ps := ["script"]) (fun _ _ _ _ _ _ us hl => match us, hl with | [_], _ => rfl) s [u] rfl, ?_, fun base _ _ _ => fn_law T fd D⟩
  intro H a ns hn _ _ hS
  exact ⟨a, ns, rfl, hS, fun _ => rfl⟩
end EV
open PySem PySem.W PySem.Calls PyProof.Rows in
set_option maxHeartbeats 0 in
theorem PySem.Challenge.cw_everyorder_k03_whole_rules_of_rearrangem_holds : PySem.Challenge.rw_everyorder_k03_whole_rules_of_rearrangem.Holds := by
  w_on; o_law
  refine HandSHeadRun.head_any (r := OpenLaw.row PySem.Challenge.rw_everyorder_k03_whole_rules_of_rearrangem) (q := view (OpenLaw.row PySem.Challenge.rw_everyorder_k03_whole_rules_of_rearrangem).prog [25]) (H := EV.hkX) (ob := EV.obsO) (M := 20000) (loose := EV.looseN) (d := HandSHeadRun.topDef (OpenLaw.row PySem.Challenge.rw_everyorder_k03_whole_rules_of_rearrangem).prog 25) (kwd := []) EV.obsO_eq
    (by kernel_rfl) (fun s => by kernel_rfl) EV.topRuns (by kernel_rfl) (by kernel_rfl) (by kernel_rfl) (by rfl) (by first | assumption | decide +kernel) (by decide +kernel) ⟨rfl, rfl, rfl, rfl, rfl, by decide +kernel⟩ ?hw ?hc
  case hw => w_witness2
  case hc =>
    refine LamX.walk_ofTsE (l := PySem.Challenge.rw_everyorder_k03_whole_rules_of_rearrangem) (n := 63) (k := 5) (x := "script") (CX := fun w => L2.CX (PySem.Challenge.rw_everyorder_k03_whole_rules_of_rearrangem).prog w) rfl (by decide) (by kernel_rfl) ⟨rfl, by decide, by decide⟩ ?F EV.noRaise
    intro w mg fa h Y G hmg0
    obtain ⟨K, KX, c⟩ := Y
    have hmg : mg ("law" : PySem.Str) = some (.ref fa) := by
      have e : (HandSHeadRun.topDef (OpenLaw.row PySem.Challenge.rw_everyorder_k03_whole_rules_of_rearrangem).prog 25).name = ("law" : PySem.Str) := by kernel_rfl
      rw [← e]
      exact hmg0
    have T := EV.tx_of KX G c.t.d
    exact ⟨K, KX, EV.lawAt T hmg⟩
