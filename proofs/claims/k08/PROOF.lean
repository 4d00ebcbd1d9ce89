import PyProof.Rows.All
import HandS.ForMost
import HandS.ForExc
import HandS.Defaults
import HandS.EndTab
import HandS.HeadHook4
import HandS.HeadWalk
import HandS.Head2
import HandS.Wide
import HandS.WideBits
import HandS.Flow
import HandS.Style
import HandS.IsInst
import HandS.Conv
import HandS.More
import HandS.TupAny
import HandS.Walk
import HandS.SortInts
import HandS.FStr
import HandS.DictComp
import HandS.CallSlots
import HandS.Evl
import KE.GoesMore
import KE.KExcSuper
import HandS.ExcInit
import KE.KExcIs
import HandS.ExcField
import HandS.Star
import HandS.Text
import PySem.Challenge.RW_everyorder_k08_texts_that_are_no_words
set_option Elab.async false
set_option linter.all false
set_option maxRecDepth 100000
set_option maxHeartbeats 8000000
/-! Our own base: contracts by name, walks of lists or tuples, what stays of the heap, the reading's steps. -/
namespace EV
open PySem PySem.Spec PyProof.Rows L2
open He (ga)

/-! ### a contract by the def's name -/
/-- the module's x is a def that keeps the promise sp with k calls of room -/
structure Gd (P : Program) (w : World) (K : PySem.W.Frag) (mg : Str → Option Value) (base : Heap) (k : Nat) (x : Str) (sp : Sp) : Prop where
  glo : mg x = some (.ref (ga K x))
  kept : PySem.W.keepIn K (.ref (ga K x)) = true
  runs : FnR P w K mg base (L2.CX P w) k (ga K x) sp
theorem Gd.imp {P : Program} {w : World} {K : PySem.W.Frag} {mg : Str → Option Value} {base : Heap} {k : Nat} {x : Str} {sp sp' : Sp} (G : Gd P w K mg base k x sp)
    (h : ∀ vs H Q E, sp' vs H Q E → sp vs H Q E) : Gd P w K mg base k x sp' := ⟨G.glo, G.kept, G.runs.imp h⟩
/-- where a def stands (all of it written, no defaults) -/
abbrev Stands (K : PySem.W.Frag) (x : Str) (st : Stmt) : Prop := ∃ fd, FunD K x x (defArgs st) (defBody st) (defScope st) [] [] (ga K x) fd
/-- how its parameters are bound: shown by rfl, a parameter at a time -/
abbrev BindsAll (x : Str) (st : Stmt) (ps : List Str) : Prop := ∀ (kV doc pm : Value) (an : Option Addr) (cdv ct : Value) (us : List Value), us.length = ps.length →
  bindArgs (PySem.W.fnOf x x (defArgs st) (defBody st) (defScope st) .none kV doc pm an cdv ct) ⟨us, []⟩ = pure (ps.zip us)

section
variable {P : Program} {w : World} {K : PySem.W.Frag} {mg : Str → Option Value} {base : Heap}
/-- a def keeps its promise: its body's derivation and the reading of it -/
theorem ok_of {x : Str} {st : Stmt} {fd : FuncData} {f : Addr} {N ps : List Str} {k : Nat} {sp : Sp} (F : FunD K x x (defArgs st) (defBody st) (defScope st) [] [] f fd) (S : FnScope N ps (defScope st))
    (len : ∀ vs H Q E, sp vs H Q E → vs.length = ps.length)
    (body : ∀ (X : Cx) (H : Hp) (vs : List V) (Q : VK) (E : XK), (∃ cdv A outer s, X = cxOf (L2.CX P w) P w K mg base N x (defScope st) f cdv A outer s H E) → Room k X.A → Takes X (fun cls d _ H => E cls d H) → PassesOwn (model X.prog X.w) X.A X.env X.xe → sp vs H Q E →
      ∃ t, PSs X (defBody st) t ∧ t { nx := fun _ H' => Q .non H', rt := Q } (start N vs) H) : FnOk P w K mg base (L2.CX P w) (k + 1) f fd ps sp := by
  refine F.ok S len fun cdv A outer s H vs Q E hr hs => ?_
  exact body _ H vs Q E ⟨cdv, A, outer, s, rfl⟩ hr (takes_of rfl rfl rfl rfl) (passes_of rfl) hs
theorem gd_of {x : Str} {st : Stmt} {ps : List Str} {k : Nat} {sp : Sp} (g : mg x = some (.ref (ga K x))) (F : Stands K x st) (b : BindsAll x st ps)
    (ok : ∀ fd, FunD K x x (defArgs st) (defBody st) (defScope st) [] [] (ga K x) fd → FnOk P w K mg base (L2.CX P w) k (ga K x) fd ps sp) : Gd P w K mg base k x sp := by
  obtain ⟨fd, D⟩ := F
  refine ⟨g, D.kp, ?_⟩
  refine FnR.imp ((ok fd D).raw (FunD.bindsN D b) .nil) fun vs H Q E h => ?_
  rw [List.append_nil]
  exact h
end

/-- a statement's own block; none -/
def bodyOf : Stmt → List Stmt
  | .For _ _ b _ _ => b
  | .While _ b _ _ => b
  | .If _ b _ _ => b
  | _ => []
def stPass : Stmt := .Pass ⟨0, 0, 0, 0⟩
/-! ### rules of our own -/
section
variable {X : Cx} {k : Nat} {x : Str} {sp : Sp} {E : L2.St → XK} {p pos : Pos} {e : Expr} {es : List Expr} {t : TA}
def tCr (sp : Sp) (E : L2.St → XK) (t : TA) : TE := fun σ H Q => t σ H fun vs H1 => sp vs H1 Q (E σ)
theorem run_gd {pins : List (Addr × Obj)} {σ : L2.St} {H : Hp} {s : Shared} {Q : VK} {us : List Value} {vs : List V} (G : Gd X.prog X.w X.K X.mg X.base k x sp) (hr : Room k X.A)
    (hx : PassesAt (L2.CX X.prog X.w) X σ (E σ)) (I : Inv X pins σ H s) (r : Vals vs us) (h : sp vs H Q (E σ)) : wpAny (model X.prog X.w) X.A (call (.ref (ga X.K x)) us) (EP X pins σ Q) X.xe s := by
  refine wpAny_call (codeAny_mono (G.runs X.A X.stack s H us vs Q (E σ) hr I.env0 r h) fun r s' hq => ?_)
  match r, hq with
  | .error u, hq => exact hx pins H s u s' I hq
  | .ok (.ret u), hq => exact I.after hq
  | .ok .next, hq => exact False.elim hq
  | .ok .brk, hq => exact False.elim hq
  | .ok .cont, hq => exact False.elim hq
/-- f(e, ..) by a contract -/
theorem pe_cr (G : Gd X.prog X.w X.K X.mg X.base k x sp) (hr : Room k X.A) (hx : ∀ σ, PassesAt (L2.CX X.prog X.w) X σ (E σ)) (ha : PA X (e :: es) t) (hg : Gl X x := by rfl)
    (hdb : (x == ("__debug__" : Str)) = false := by decide) (he : starEach (e :: es) X.env = (false, eval e X.env) :: starEach es X.env := by rfl)
    (hpl : (backTo pos (starEach es X.env)).any (·.1) = false := by rfl) : PE X (.Call (.Name x p) (e :: es) [] pos) (tCr sp E t) := by
  constructor
  intro pins s σ H Q I h
  apply wpAny_Call_Name_kw
  refine ld_glob I hg G.glo ?_ hdb
  refine PySem.W.callWith_K (h₀ := X.base) I.ok.mod.kin G.kept ?_ he hpl
  refine thn (ha.run pos pins s σ H _ I h) fun us s1 q => ?_
  obtain ⟨vs, H1, I1, r, q⟩ := q
  exact ⟨I1.kIn, run_gd G hr (hx σ) I1 r q⟩
theorem pe_cr0 (G : Gd X.prog X.w X.K X.mg X.base k x sp) (hr : Room k X.A) (hx : ∀ σ, PassesAt (L2.CX X.prog X.w) X σ (E σ)) (hg : Gl X x := by rfl)
    (hdb : (x == ("__debug__" : Str)) = false := by decide) : PE X (.Call (.Name x p) [] [] pos) (tCr sp E tNil) := by
  constructor
  intro pins s σ H Q I h
  apply wpAny_Call_Name_kw
  refine ld_glob I hg G.glo ?_ hdb
  exact PySem.W.callWith_K0 I.kIn G.kept (run_gd (us := []) G hr (hx σ) I .nil h)
/-- a whole number that the module's name holds -/
theorem pe_gint {i : Int} (hg : Gl X x) (h : ∃ t, X.mg x = some (.int i t)) (hd : (x == ("__debug__" : Str)) = false := by decide) : PE X (.Name x pos) (tC (.int i)) := by
  obtain ⟨t, h⟩ := h
  exact pe_glob hg h ⟨t, rfl⟩ hd
end

theorem mul_l {i j : Int} (h : -(2 ^ 64) < i) (h2 : i < 2 ^ 64) : CMul i j := .inl ⟨h, h2⟩
theorem mul_r {i j : Int} (h : -(2 ^ 64) < j) (h2 : j < 2 ^ 64) : CMul i j := .inr ⟨h, h2⟩

theorem seq_ix {d : Int} {n : Nat} (h0 : 0 ≤ d) (h1 : d < (n : Int)) : seqIndex? d n = some d.toNat := by
  have h2 : ¬ d < 0 := by omega
  unfold seqIndex?
  simp [h2, h0, h1]

theorem ite_t {c : Bool} {A B : Prop} (e : c = true) (h : A) : if c = true then A else B := by
  rw [if_pos e]
  exact h
theorem ite_f {c : Bool} {A B : Prop} (e : c = false) (h : B) : if c = true then A else B := by
  rw [e]
  exact iteF h
/-- the natural n as Python's int -/
def vI (n : Nat) : V := .int (n : Int)
theorem vI_map (f : List Nat) : f.map vI = (f.map Int.ofNat).map V.int := by rw [List.map_map]; rfl
theorem rgV_nat (n : Nat) : rgV 0 (n : Int) = (List.range n).map vI := by
  unfold rgV
  rw [show ((n : Int) - 0).toNat = n by omega]
  apply List.map_congr_left
  intro x _
  show V.int (0 + (x : Int)) = V.int (x : Int)
  rw [Int.zero_add]
theorem of_map_perm {ys : List V} {f : List Nat} (h : ys.Perm (f.map vI)) : ∃ g : List Nat, ys = g.map vI ∧ g.Perm f := by
  induction f generalizing ys with
  | nil => exact ⟨[], by simpa using h, .refl _⟩
  | cons a r ih =>
    have ha : vI a ∈ ys := h.mem_iff.mpr (by simp)
    obtain ⟨s, t, rfl⟩ := List.append_of_mem ha
    have h2 : (s ++ t).Perm (r.map vI) := (List.perm_middle.symm.trans h).cons_inv
    obtain ⟨g, e, p⟩ := ih h2
    obtain ⟨g1, g2, rfl, e1, e2⟩ := List.append_eq_map_iff.mp e
    exact ⟨g1 ++ a :: g2, by simp [e1, e2], List.perm_middle.trans (p.cons a)⟩

/-! ### lists and tuples alike -/
/-- a list (true), a tuple (false) -/
def SqB (b : Bool) (K : PySem.W.Frag) (H : Hp) (a : Addr) (xs : List V) : Prop := match b with
  | true => SqL K H a xs
  | false => SqT K H a xs
theorem SqB.or {b : Bool} {K : PySem.W.Frag} {H : Hp} {a : Addr} {xs : List V} (h : SqB b K H a xs) : SqL K H a xs ∨ SqT K H a xs := by
  cases b
  · exact .inr h
  · exact .inl h
theorem Same.rd {H H' : Hp} {a : Addr} {u : HO} (s : Same H H') (h : Rd H a u) : Rd H' a u := by
  rcases h with h | ⟨o, h⟩
  · exact .inl (s a _ h)
  · exact .inr ⟨o, s a _ h⟩
theorem Same.sqt {K : PySem.W.Frag} {H H' : Hp} {a : Addr} {xs : List V} (s : Same H H') (h : SqT K H a xs) : SqT K H' a xs := by
  rcases h with h | h
  · exact .inl (Same.rd s h)
  · exact .inr h
theorem Same.sqb {b : Bool} {K : PySem.W.Frag} {H H' : Hp} {a : Addr} {xs : List V} (s : Same H H') (h : SqB b K H a xs) : SqB b K H' a xs := by
  cases b
  · exact Same.sqt s h
  · exact L2.Same.seq s h
theorem Same.new {H : Hp} {p : Addr} {o : HO} (h : H p = none) : Same H (upd H p o) := fun b u e => by
  rw [upd_ne (ne_of_none e h)]
  exact e
/-- an object that H does not know may be changed -/
theorem Same.put {H H' : Hp} {p : Addr} {o : HO} (s : Same H H') (h : H p = none) : Same H (upd H' p o) := fun b u e => by
  rw [upd_ne (ne_of_none e h)]
  exact s b u e

section
variable {X : Cx} {tg : Expr}
/-- what a for over a list or a tuple asks -/
def iSeq (K : PySem.W.Frag) (tl : TE) : TI := fun σ H R => tl σ H fun x H1 => ∃ (a : Addr) (b : Bool) (xs : List V), x = .ref a ∧ SqB b K H1 a xs ∧
  ∀ J, Walk J xs.length (fun H => SqB b K H a xs) (YAt xs) → R J H1
theorem pi_seq {l : Expr} {tl : TE} (hl : PE X l tl) : PI X tg l (iSeq X.K tl) := by
  constructor
  intro pins s σ H R I h
  refine thn (hl.run pins s σ H _ I h) fun v s1 q1 => ?_
  obtain ⟨x, H1, I1, r1, a, b, xs, e, hq, q⟩ := q1
  subst e
  cases r1
  have fresh : ∀ b, b ∈ [s1.heap.objs.size] → FpOk X pins H1 b := fun b hb => by
    have e : b = s1.heap.objs.size := List.mem_singleton.mp hb
    rw [e]
    exact I1.fpOk (Nat.le_refl _) (I1.hok.fresh (Nat.le_refl _))
  cases b with
  | true =>
    obtain ⟨its, rv, p, hz⟩ := I1.list (show SqL X.K H1 a xs from hq)
    refine wpAny_pyIter_list p.isList ?_
    refine ⟨s1.heap.objs.size, [s1.heap.objs.size], _, _, H1, rfl, I1.kept (t' := s1.toks) fun b o e => Heap.get?_push_of_some _ e, turn_list a _, ⟨_, Heap.get?_push_size _ rfl, rfl, rfl⟩, fresh, ?_⟩
    exact q _ walk_list
  | false =>
    obtain ⟨its, rv, p, hz⟩ := I1.tuple (show SqT X.K H1 a xs from hq)
    refine wpAny_pyIter_tuple (show s1.heap.IsTuple a its.toArray from p) ?_
    refine ⟨s1.heap.objs.size, [s1.heap.objs.size], _, _, H1, rfl, I1.kept (t' := s1.toks) fun b o e => Heap.get?_push_of_some _ e, turn_tuple a _, ⟨_, Heap.get?_push_size _ rfl, rfl, rfl⟩, fresh, ?_⟩
    exact q _ walk_tup
end
theorem yes_if {σ : L2.St} {H : Hp} {A B : Hp → Prop} (h : A H) : tYes σ H fun b H3 => if b = true then A H3 else B H3 := by
  show if true = true then A H else B H
  exact iteT h
/-! ### comprehensions that make a list of known items -/
def PvM (H1 : Hp) (D : Addr) (ys : List V) (i : Nat) (H : Hp) : Prop := Same H1 H ∧ H D = some (.lst (ys.take i))
theorem pvM_turn {H1 H H4 : Hp} {D : Addr} {ys : List V} {i : Nat} {y : V} (hD : H1 D = none) (hn : ys.length ≤ 100000) (p : PvM H1 D ys i H) (s : Same H H4) (e : ys[i]? = some y) :
    ∃ acc, H4 D = some (.lst acc) ∧ acc.length < sizeLine ∧ PvM H1 D ys (i + 1) (upd H4 D (.lst (acc ++ [y]))) := by
  refine ⟨_, s _ _ p.2, Nat.lt_of_le_of_lt (m := 100000) ?_ (by decide), Same.put (p.1.trans s) hD, ?_⟩
  · rw [List.length_take]
    omega
  · rw [upd_same, List.take_add_one, e]
    rfl
theorem lc_map {J : It} {n : Nat} {G : Hp → Prop} {Y : Nat → Hp → V → Hp → Prop} (w : Walk J n G Y) {g : TG} {tt : TT} {te : TE} {vs : List Nat} {σ : L2.St} {H1 : Hp} {D : Addr} {Qd : Hp → Prop}
    (ys : List V) (hl : ys.length = n) (hD : H1 D = none) (hG : ∀ H, Same H1 H → G H)
    (hs : ∀ i x H H', i < n → Same H1 H → PvM H1 D ys i H → Y i H x H' → g x (wipe σ vs) H' fun σ2 H2 => wipe σ2 vs = wipe σ vs ∧ tt σ2 H2 fun b H3 =>
      if b = true then te σ2 H3 fun y H4 => ∃ acc, H4 D = some (.lst acc) ∧ acc.length < sizeLine ∧ PvM H1 D ys (i + 1) (upd H4 D (.lst (acc ++ [y]))) else PvM H1 D ys (i + 1) H3)
    (hd : ∀ H, Same H1 H → H D = some (.lst ys) → Qd H) :
    ∃ W : Nat → Nat → Hp → Prop, (∃ m, W 0 m (upd H1 D (.lst []))) ∧ ∀ i m H, W i m H →
      (J.stop i H ∧ Qd H) ∨ (J.go i H ∧ ∃ Nx : Hp → Prop, (∀ H', Nx H' → ∃ m', m' < m ∧ W (i + 1) m' H') ∧ ∀ x H', J.yld i H x H' → g x (wipe σ vs) H' fun σ2 H2 => wipe σ2 vs = wipe σ vs ∧ tt σ2 H2 fun b H3 =>
        if b = true then te σ2 H3 fun y H4 => ∃ acc, H4 D = some (.lst acc) ∧ acc.length < sizeLine ∧ Nx (upd H4 D (.lst (acc ++ [y]))) else Nx H3) := by
  refine lc_it w (PvM H1 D ys) ⟨Same.new hD, upd_same⟩ (fun i H _ p => hG H p.1) (fun i x H H' hi p y => hs i x H H' hi p.1 p y) fun H p => hd H p.1 ?_
  have e := p.2
  rw [List.take_of_length_le (by omega)] at e
  exact e
/-- the same, some of the items left out: sel i is what turn i adds -/
def PvS (H1 : Hp) (D : Addr) (sel : Nat → Option V) (i : Nat) (H : Hp) : Prop := Same H1 H ∧ H D = some (.lst ((List.range i).filterMap sel))
theorem pvS_yes {H1 H H4 : Hp} {D : Addr} {sel : Nat → Option V} {i : Nat} {y : V} (hD : H1 D = none) (hn : i ≤ 100000) (p : PvS H1 D sel i H) (s : Same H H4) (e : sel i = some y) :
    ∃ acc, H4 D = some (.lst acc) ∧ acc.length < sizeLine ∧ PvS H1 D sel (i + 1) (upd H4 D (.lst (acc ++ [y]))) := by
  refine ⟨_, s _ _ p.2, Nat.lt_of_le_of_lt (m := 100000) ?_ (by decide), Same.put (p.1.trans s) hD, ?_⟩
  · refine Nat.le_trans (List.length_filterMap_le _ _) ?_
    rw [List.length_range]
    exact hn
  · rw [upd_same, List.range_succ, List.filterMap_append]
    simp [e]
theorem pvS_no {H1 H H4 : Hp} {D : Addr} {sel : Nat → Option V} {i : Nat} (p : PvS H1 D sel i H) (s : Same H H4) (e : sel i = none) : PvS H1 D sel (i + 1) H4 := by
  refine ⟨p.1.trans s, ?_⟩
  rw [List.range_succ, List.filterMap_append]
  simpa [e] using s _ _ p.2
theorem lc_sel {J : It} {n : Nat} {G : Hp → Prop} {Y : Nat → Hp → V → Hp → Prop} (w : Walk J n G Y) {g : TG} {tt : TT} {te : TE} {vs : List Nat} {σ : L2.St} {H1 : Hp} {D : Addr} {Qd : Hp → Prop}
    (sel : Nat → Option V) (hD : H1 D = none) (hG : ∀ H, Same H1 H → G H)
    (hs : ∀ i x H H', i < n → Same H1 H → PvS H1 D sel i H → Y i H x H' → g x (wipe σ vs) H' fun σ2 H2 => wipe σ2 vs = wipe σ vs ∧ tt σ2 H2 fun b H3 =>
      if b = true then te σ2 H3 fun y H4 => ∃ acc, H4 D = some (.lst acc) ∧ acc.length < sizeLine ∧ PvS H1 D sel (i + 1) (upd H4 D (.lst (acc ++ [y]))) else PvS H1 D sel (i + 1) H3)
    (hd : ∀ H, Same H1 H → H D = some (.lst ((List.range n).filterMap sel)) → Qd H) :
    ∃ W : Nat → Nat → Hp → Prop, (∃ m, W 0 m (upd H1 D (.lst []))) ∧ ∀ i m H, W i m H →
      (J.stop i H ∧ Qd H) ∨ (J.go i H ∧ ∃ Nx : Hp → Prop, (∀ H', Nx H' → ∃ m', m' < m ∧ W (i + 1) m' H') ∧ ∀ x H', J.yld i H x H' → g x (wipe σ vs) H' fun σ2 H2 => wipe σ2 vs = wipe σ vs ∧ tt σ2 H2 fun b H3 =>
        if b = true then te σ2 H3 fun y H4 => ∃ acc, H4 D = some (.lst acc) ∧ acc.length < sizeLine ∧ Nx (upd H4 D (.lst (acc ++ [y]))) else Nx H3) :=
  lc_it w (PvS H1 D sel) ⟨Same.new hD, upd_same⟩ (fun i H _ p => hG H p.1) (fun i x H H' hi p y => hs i x H H' hi p.1 p y) fun H p => hd H p.1 p.2
/-- the items that pass, of a list -/
theorem sel_list {α β : Type} {xs : List α} {q : α → Option β} : (List.range xs.length).filterMap (fun i => xs[i]?.bind q) = xs.filterMap q := by
  have : ∀ n, n ≤ xs.length → (List.range n).filterMap (fun i => xs[i]?.bind q) = (xs.take n).filterMap q := by
    intro n
    induction n with
    | zero => intro _; rfl
    | succ n ih =>
      intro h
      rw [List.range_succ, List.filterMap_append, ih (by omega), List.take_add_one, List.filterMap_append]
      congr 1
      have e := List.getElem?_eq_getElem (show n < xs.length by omega)
      cases c : q xs[n] <;> simp [e, c]
  have := this xs.length (Nat.le_refl _)
  rw [List.take_length] at this
  exact this
/-- xs[i] of a list or a tuple -/
theorem rix {b : Bool} {K : PySem.W.Frag} {H : Hp} {a : Addr} {xs : List V} {i : Int} {j : Nat} {v : V} {Q : VK} (h : SqB b K H a xs) (hi : i = (j : Int)) (e : xs[j]? = some v) (q : Q v H) : rIx K (.ref a) (.int i) H Q := by
  subst hi
  cases b with
  | true => exact .inl ⟨a, xs, _, _, rfl, rfl, h, atI_nat e, q⟩
  | false => exact .inr (.inl ⟨a, xs, _, _, rfl, rfl, h, atI_nat e, q⟩)

/-! ### rules that name the frame, told with it (inside comprehensions) -/
section
variable {X : Cx} {K : PySem.W.Frag} {tg : Expr}
theorem ix_seqK (h : X.K = K) : IxR X (rIx K) := h ▸ ix_seq
theorem ix_listK (h : X.K = K) : IxR X (rIxL K) := h ▸ ix_list
theorem ix_tupK (h : X.K = K) : IxR X (rIxT K) := h ▸ ix_tup
theorem op_in_seqK (h : X.K = K) : OpR X (compareOp .In) (rIn K false) := h ▸ op_in_seq
theorem op_notIn_seqK (h : X.K = K) : OpR X (compareOp .NotIn) (rIn K true) := h ▸ op_notIn_seq
theorem sl_listK (h : X.K = K) : SlR X (rSlL K) := h ▸ sl_list
theorem call_len_seqK (h : X.K = K) : CallR X (.builtin "len") (fun xs H Q => ∃ p ys, xs = [.ref p] ∧ (SqL K H p ys ∨ SqT K H p ys) ∧ Q (.int ys.length) H) := h ▸ call_len_seq
theorem call_list_ofK (h : X.K = K) : CallR X (.type "list") (fun xs H Q => ∃ p ys, xs = [.ref p] ∧ (SqL K H p ys ∨ SqT K H p ys) ∧ ∀ l, H l = none → Q (.ref l) (upd H l (.lst ys))) := h ▸ call_list_of
theorem call_tuple_ofK (h : X.K = K) : CallR X (.type "tuple") (fun xs H Q => ∃ p ys, xs = [.ref p] ∧ ((SqL K H p ys ∧ ∀ l, H l = none → Q (.ref l) (upd H l (.tup ys))) ∨ (SqT K H p ys ∧ Q (.ref p) H))) := h ▸ call_tuple_of
theorem pe_revLK {e : Expr} {te : TE} {k : Nat} {p1 p2 p3 pos : Pos} (h : X.K = K) (he : PE X e te) : PE X (.Subscript e (.Slice none none (some (.UnaryOp .USub (.Constant (.int 1) k p1) p2)) p3) pos) (tRevL K te) := h ▸ pe_revL he
theorem op_eqDK (hu : X.A.units + 64 < cLine) (h : X.K = K) : OpR X (compareOp .Eq) (rEqD K) := h ▸ op_eqD hu
theorem pi_listK {l : Expr} {tl : TE} (h : X.K = K) (hl : PE X l tl) : PI X tg l (iList K tl) := h ▸ pi_list hl
theorem pi_tupK {l : Expr} {tl : TE} (h : X.K = K) (hl : PE X l tl) : PI X tg l (iTup K tl) := h ▸ pi_tup hl
theorem pi_seqK {l : Expr} {tl : TE} (h : X.K = K) (hl : PE X l tl) : PI X tg l (iSeq K tl) := h ▸ pi_seq hl
end
end EV
namespace EV
open PySem PySem.Spec PyProof.Rows L2
/-! ### enumerate of a tuple -/
theorem meets_enumT (l : Addr) (items : Array Value) (n : Nat) (dct : Option Addr) (sl : Array (Option Value)) :
    Meets (Builtin.«enumerate.__new__» ⟨[.type "enumerate", .ref l], []⟩) (fun _ R s => s.heap.get? l = some { cls := .type "tuple", dict := dct, data := .seq items n, slots := sl } ∧
      R (.ok (.ret (.ref (s.heap.push { cls := .type "tuple_iterator", data := .fields #[.ref l, .int 0 0] }).objs.size)))
        { s with heap := (s.heap.push { cls := .type "tuple_iterator", data := .fields #[.ref l, .int 0 0] }).push { cls := .type "enumerate", data := .fields #[.none, .bool false, .ref s.heap.objs.size, rawInt 0, .none, .none] } }) :=
  .of_wp fun prog w A R s h => by
    obtain ⟨hp, g, d, tk, os⟩ := s
    obtain ⟨hl, h⟩ := h
    have hsub := sub_enumerate
    have hT : Heap.IsTuple (Shared.heap ⟨hp, g, d, tk, os⟩) l items := ⟨_, hl, rfl, n, rfl⟩
    wp_walk using AutoSeq1.wpAny_loadPart' hl
    refine wpAny_stack_any fun st => wpAny_pure ?_
    split
    · rename_i c _ _ _ _ _
      cases (c == Value.type "enumerate") <;> (wp_walk using AutoSeq1.wpAny_loadPart' hl, wpAny_pyIter_tuple hT; exact ⟨_, rfl, h⟩)
    · wp_walk using AutoSeq1.wpAny_loadPart' hl, wpAny_pyIter_tuple hT
      exact ⟨_, rfl, h⟩
section
variable {prog : Program} {w : World} {A : Around} {E : Value → Shared → Prop} {s : Shared}
theorem call_enumT {l : Addr} {items : Array Value} {Q : Value → Shared → Prop} (hL : s.heap.IsTuple l items)
    (h : ∀ h', IsEnum h' (s.heap.objs.size + 1) s.heap.objs.size 0 .none → h'.IsTupleIter s.heap.objs.size l 0 → (∀ b o, s.heap.get? b = some o → h'.get? b = some o) → Q (.ref (s.heap.objs.size + 1)) { s with heap := h' }) :
    wpAny (model prog w) A (call (.type "enumerate") [.ref l]) Q E s := by
  obtain ⟨⟨c, dct, dt, sl⟩, hl, hc, n, hd⟩ := hL
  obtain rfl : c = .type "tuple" := hc
  obtain rfl : dt = .seq items n := hd
  have hz : (s.heap.push { cls := .type "tuple_iterator", data := .fields #[.ref l, .int 0 0] }).objs.size = s.heap.objs.size + 1 := Heap.size_push ..
  have he := Heap.get?_push_size (s.heap.push { cls := .type "tuple_iterator", data := .fields #[.ref l, .int 0 0] })
    (o := { cls := .type "enumerate", data := .fields #[.none, .bool false, .ref s.heap.objs.size, rawInt 0, .none, .none] }) rfl
  refine callType_new F.called_enumerate (by decide) (F.typeCall_enumerate_1 _) (F.newCall_enumerate_1 _) (fun obj => F.args_object_init_2 obj _) F.entry_enumerate_new (meets_enumT l items n dct sl) ⟨hl, ?_⟩
  rw [hz] at he ⊢
  exact ⟨⟨_, he, rfl⟩, h _ he ⟨_, Heap.get?_push_of_some _ (Heap.get?_push_size _ rfl), rfl, rfl⟩ fun b o x => Heap.get?_push_of_some _ (Heap.get?_push_of_some _ x)⟩
end
/-- the tuple at a, each item in a new pair -/
def IteT (K : PySem.W.Frag) (a : Addr) : It where
  go := fun i H => ∃ (xs : List V) (x : V), SqT K H a xs ∧ xs[i]? = some x
  yld := fun i H v H' => ∃ T x, v = .ref T ∧ H T = none ∧ H' = upd H T (.tup [.int (i : Nat), x]) ∧ ∀ xs, SqT K H a xs → xs[i]? = some x
  stop := fun i H => ∃ xs : List V, SqT K H a xs ∧ xs.length ≤ i
theorem turn_enumT {P : Program} {w : World} {K : PySem.W.Frag} {elts : List Expr} {kk : Nat} {tpos : Pos} (a e it : Addr) :
    Turn P w K (.Tuple elts kk tpos) (IteT K a) [e, it] e (fun i h => (∃ old, IsEnum h e it ((i : Nat) : Int) old) ∧ h.IsTupleIter it a i ∧ e ≠ it) where
  mem := List.mem_cons_self
  obj := fun i h st b hb => by
    obtain ⟨⟨old, he⟩, ⟨o, ho, hc, hd⟩, _⟩ := st
    rcases List.mem_cons.mp hb with z | z
    · subst z
      exact ⟨_, he, fun v q => nomatch q⟩
    · obtain rfl := List.mem_singleton.mp z
      exact ⟨o, ho, fun v q => by rw [hd] at q; cases q⟩
  keep := fun i h h' st k => by
    obtain ⟨⟨old, he⟩, hi, hne⟩ := st
    exact ⟨⟨old, k e (by simp) _ he⟩, hi.at fun o q => k it (by simp) o q, hne⟩
  item := by
    intro X hP hw hK hc i pins s σ H E I hf st hg
    subst hP hw hK
    obtain ⟨⟨old, he⟩, hit, hne⟩ := st
    obtain ⟨xs, x, hq, hx⟩ := hg
    obtain ⟨its, rv, p, hz⟩ := I.tuple hq
    obtain ⟨u, hu, ru⟩ := rv.get hx
    have hil : i < its.toArray.size := by
      rw [List.size_toArray]
      exact (List.getElem?_eq_some_iff.mp hu).1
    have ael : a ≠ e := fun z => by
      obtain ⟨o, ho, hco, _⟩ := p
      rw [z, he] at ho
      cases ho
      simp at hco
    have ait : a ≠ it := fun z => by
      obtain ⟨o, ho, hco, _⟩ := p
      obtain ⟨o2, ho2, hc2, _⟩ := hit
      rw [z, ho2] at ho
      cases ho
      rw [hc2] at hco
      simp at hco
    have D := Draws.tuple (prog := X.prog) (w := X.w) (A := X.A.in1) (I.ok.hd hc) it a ait its.toArray
    have hel : e < s.heap.objs.size := Heap.lt_size he
    have hitl : it < s.heap.objs.size := by
      obtain ⟨_, q, _⟩ := hit
      exact Heap.lt_size q
    refine wpAny_pyNext_enum_itemD D he ⟨hit, p⟩ hil hne (fun z => ?_) fun x' h' tk hx' ho hst' hT hsz hk => ?_
    · rcases List.mem_cons.mp z with z | z
      · exact hne z
      · exact ael (List.mem_singleton.mp z).symm
    have ex : x' = u := by
      have q : its.toArray[i]? = some x' := hx'
      have q2 : its.toArray[i]? = some u := by simpa using hu
      exact Option.some.inj (q.symm.trans q2)
    subst ex
    refine ⟨_, rfl, wpAny_letOwnedTupleGo_enum (s := { s with heap := h', toks := tk + 1 }) ho fun h'' he' sb => ?_⟩
    have hT2 : h''.get? s.heap.objs.size = some { cls := .type "tuple", data := .seq #[.int i tk, x'] } := (sb.2 _ (Nat.ne_of_gt hel)).trans hT
    have new : ObjOk X.prog X.w (upd H s.heap.objs.size (.tup [.int (i : Nat), x])) h'' s.heap.objs.size (.tup [.int (i : Nat), x]) :=
      ⟨(by decide : 2 ≤ sizeLine), [.int i tk, x'], .cons ⟨_, rfl⟩ (.cons ru .nil), ⟨_, hT2, rfl, _, rfl⟩⟩
    have I1 : Inv X pins σ (upd H s.heap.objs.size (.tup [.int (i : Nat), x])) { s with heap := h'', toks := tk + 1 } := by
      refine I.turnedNew (ch := [e, it]) (fun b ob hb q => ?_) hf (Nat.le_refl _) new
      have n1 : b ≠ e := fun z => hb (by simp [z])
      have n2 : b ≠ it := fun z => hb (by simp [z])
      exact (sb.2 b n1).trans (hk b ob n1 n2 q)
    refine ⟨.ref s.heap.objs.size, _, I1, rfl, ⟨_, x, rfl, I.hok.fresh (Nat.le_refl _), rfl, fun ys hy => ?_⟩, ⟨⟨x', ?_⟩, hst'.1.at fun o q => (sb.2 it (Ne.symm hne)).trans q, hne⟩, fun b hb => ?_⟩
    · rw [I.tuple_inj hy hq]
      exact hx
    · have e1 : ((i + 1 : Nat) : Int) = (i : Int) + 1 := by omega
      rw [e1]
      exact he'
    · have hb' : b < s.heap.objs.size := by
        rcases List.mem_cons.mp hb with z | z
        · rw [z]
          exact hel
        · rw [List.mem_singleton.mp z]
          exact hitl
      rw [upd_ne (Nat.ne_of_lt hb')]
      exact (hf b hb).1
  done := by
    intro X hP hw hK hc i pins s σ H E I hf st hg
    subst hP hw hK
    obtain ⟨⟨old, he⟩, hit, hne⟩ := st
    obtain ⟨xs, hq, hx⟩ := hg
    obtain ⟨its, rv, p, hz⟩ := I.tuple hq
    obtain ⟨f0, f1, f2, f3, f4, f5⟩ := hf it (by simp)
    have hl := rv.length
    have ait : a ≠ it := fun z => by
      obtain ⟨o, ho, hco, _⟩ := p
      obtain ⟨o2, ho2, hc2, _⟩ := hit
      rw [z, ho2] at ho
      cases ho
      rw [hc2] at hco
      simp at hco
    have hT : s.TypeIs (.ref e) "enumerate" := ⟨_, he, rfl⟩
    unfold pyNext
    refine wpAny_bind (wpAny_attempt (wpAny_callSpecial?_slot (name := Str.ofString "__next__") hT F.slot_enumerate_next (wpAny_call_entry F.slot_enumerate_next hT F.entry_enumerate_next ?_ (F.args_enumerate_next_1 _))))
    show wpAny _ _ (field (.ref e) 2 >>= _) _ _ _
    refine wpAny_bind (wpAny_field he rfl (x := .ref it) rfl ?_)
    refine wpAny_bind (wpAny_nextOf_tuple_end (I.ok.hd hc) hit p (by simp; omega) fun h' x he' hx' => ?_)
    obtain ⟨o, ho, hc'⟩ := hx'
    refine wpAny_bind (wpAny_isInstance (T := "StopIteration") (b := true) ⟨o, ho, hc'⟩ isSubtype_stop ?_)
    exact wpAny_pure ⟨rfl, I.turned (t' := s.toks) (fun b o hb q => he' b o hb q) f0 f1 f3 f4 f5⟩
  self := fun A i s Q E st h => by
    obtain ⟨⟨_, he⟩, _⟩ := st
    exact wpAny_pyIter_enum he h
theorem walk_enumT {K : PySem.W.Frag} {a : Addr} {xs : List V} : Walk (IteT K a) xs.length (fun H => SqT K H a xs) (YPair (fun i => some (.int (i : Nat))) (fun i => xs[i]?)) := by
  refine ⟨fun i _ hi q => ⟨xs, xs[i], q, by simp [hi]⟩, fun _ q => ⟨xs, q, Nat.le_refl _⟩, fun i H v H' _ q y => ?_⟩
  obtain ⟨T, x, h1, h2, h3, h4⟩ := y
  exact ⟨T, .int (i : Nat), x, h1, h2, h3, rfl, h4 xs q⟩
def iEnumS (K : PySem.W.Frag) (ta : TA) : TI := fun σ H R => ta σ H fun vs H1 => ∃ (a : Addr) (b : Bool) (xs : List V), vs = [.ref a] ∧ SqB b K H1 a xs ∧
  ∀ J, Walk J xs.length (fun H => SqB b K H a xs) (YPair (fun i => some (.int (i : Nat))) (fun i => xs[i]?)) → R J H1
/-- enumerate of a list or a tuple -/
theorem pi_enumA {X : Cx} {e : Expr} {ta : TA} {p pos tpos : Pos} {elts : List Expr} {kk : Nat} (hg : Gl X "enumerate") (hm : X.mg "enumerate" = none) (ha : PA X [e] ta)
    (hs : starEach [e] X.env = [(false, eval e X.env)] := by rfl) : PI X (.Tuple elts kk tpos) (.Call (.Name "enumerate" p) [e] [] pos) (iEnumS X.K ta) := by
  constructor
  intro pins s σ H R I h
  refine Call_ (ld_blt I hg hm boot_enumerate (PyProof.Rows.callWith_type1 (thn (ha.run pos pins s σ H _ I h) fun us s1 q1 => ?_) hs rfl))
  obtain ⟨vs, H1, I1, r1, a, b, xs, ex, hq, q⟩ := q1
  subst ex
  cases r1 with
  | cons r rr =>
    cases rr
    cases r
    have fresh : ∀ b, b ∈ [s1.heap.objs.size + 1, s1.heap.objs.size] → FpOk X pins H1 b := fun b hb => by
      have hle : s1.heap.objs.size ≤ b := by
        rcases List.mem_cons.mp hb with z | z
        · rw [z]
          exact Nat.le_succ _
        · rw [List.mem_singleton.mp z]
          exact Nat.le_refl _
      exact I1.fpOk hle (I1.hok.fresh hle)
    cases b with
    | true =>
      obtain ⟨its, rv, p', hz⟩ := I1.list (show SqL X.K H1 a xs from hq)
      refine call_enumerate_list p'.isList fun h' he hit hsz hk => wpAny_pyIter_enum he ?_
      exact ⟨s1.heap.objs.size + 1, [s1.heap.objs.size + 1, s1.heap.objs.size], _, _, H1, rfl, I1.kept (t' := s1.toks) hk, turn_enum a (s1.heap.objs.size + 1) s1.heap.objs.size, ⟨⟨.none, he⟩, hit, Nat.succ_ne_self _⟩, fresh, q _ walk_enum⟩
    | false =>
      obtain ⟨its, rv, p', hz⟩ := I1.tuple (show SqT X.K H1 a xs from hq)
      refine call_enumT (show s1.heap.IsTuple a its.toArray from p') fun h' he hit hk => wpAny_pyIter_enum he ?_
      exact ⟨s1.heap.objs.size + 1, [s1.heap.objs.size + 1, s1.heap.objs.size], _, _, H1, rfl, I1.kept (t' := s1.toks) hk, turn_enumT a (s1.heap.objs.size + 1) s1.heap.objs.size, ⟨⟨.none, he⟩, hit, Nat.succ_ne_self _⟩, fresh, q _ walk_enumT⟩
end EV

/-! The package's errors: super().__init__('..'), then a field. -/
namespace EV
open PySem PySem.Spec PyProof.Rows L2
open PySem.W (ksFn ksEnv)
/-- the context of such an __init__, at its entry -/
def cxK (CX : CXT) (P : Program) (w : World) (K : PySem.W.Frag) (mg : Str → Option Value) (base : Heap) (N : List Str) (qual : Str) (scope : Scope) (f : Addr) (cd : Value) (cc : Addr) (A : Around) (outer : List Env) (s : Shared) (H : Hp) (E : XK) : Cx where
  prog := P
  w := w
  K := K
  mg := mg
  base := base
  A := A.deeper (ksEnv qual scope s.heap.objs.size f cd cc)
  N := N
  s_0 := s
  H_0 := H
  env := ksEnv qual scope s.heap.objs.size f cd cc
  outer := outer
  stack := ksEnv qual scope s.heap.objs.size f cd cc :: outer
  ex := []
  calm := true
  fn := fun _ => false
  pn := []
  xe := fun e s' => wpAny (model P w) (A.deeper (ksEnv qual scope s.heap.objs.size f cd cc)) (leaving (ksEnv qual scope s.heap.objs.size f cd cc) e) (fun _ s'' => CX outer H s E e s'') (fun e' s'' => CX outer H s E e' s'') s'
theorem lookup_mem {l : List (Str × Value)} {x : Str} {u : Value} (nd : (l.map Prod.fst).Nodup) (h : (x, u) ∈ l) : l.lookup x = some u := by
  induction l with
  | nil => cases h
  | cons p r ih =>
    obtain ⟨y, v⟩ := p
    rw [List.map_cons, List.nodup_cons] at nd
    rcases List.mem_cons.mp h with e | m
    · cases e
      simp [List.lookup]
    · have hne : x ≠ y := fun e => nd.1 (List.mem_map.mpr ⟨(x, u), m, e⟩)
      have e2 : (x == y) = false := by simpa using hne
      rw [List.lookup_cons, e2]
      exact ih nd.2 m
theorem inv_startK {CX : CXT} {P : Program} {w : World} {K : PySem.W.Frag} {mg : Str → Option Value} {base : Heap} {ps : List Str} {qual : Str} {scope : Scope} {f cc : Addr} {cd : Value} {A : Around} {outer : List Env} {s : Shared} {H : Hp} {E : XK} {us : List Value} {vs : List V} {h1 : Heap} {tk : Nat} {cv : Option Value}
    (nd : ps.Nodup) (par : ∀ x ∈ ps, scope.names.lookup x = some .local) (kind : scope.kind = .function) (only : ∀ x, scope.names.lookup x = some .cell ∨ scope.names.lookup x = some .free → x = "__class__")
    (hd : A.handled = none) (e0 : Env0 P w K mg base A outer s H) (hl : vs.length = ps.length) (r : Vals vs us) (hcc : base.IsCell cc cv)
    (hns : h1.Ns s.heap.objs.size (fun x => (ps.zip us).reverse.lookup x)) (hk : ∀ b o, s.heap.get? b = some o → h1.get? b = some o) :
    Inv (cxK CX P w K mg base ps qual scope f cd cc A outer s H E) [] (vs.map some) H { s with heap := h1, toks := tk } := by
  have hcl : ∀ (x : Str) (c : Addr), List.lookup x [(("__class__" : Str), cc)] = some c → c = cc ∧ x = "__class__" := fun x c h => by
    by_cases e : x = ("__class__" : Str)
    · subst e
      simp [List.lookup] at h
      exact ⟨h.symm, rfl⟩
    · have e2 : (x == ("__class__" : Str)) = false := by simpa using e
      simp [List.lookup, e2] at h
  obtain ⟨oc, hoc, hdc⟩ := hcc
  have noA : ∀ b : Addr, b ∉ (cxK CX P w K mg base ps qual scope f cd cc A outer s H E).ex := fun b z => absurd (show b ∈ ([] : List Addr) from z) (by simp)
  have hcs := e0.bs _ _ hoc
  refine ⟨⟨e0.mod, kind, rfl, rfl, Nat.le_refl _, fun x y c h1 h2 => (hcl x c h1).2.trans (hcl y c h2).2.symm, fun x hx => ?_, fun x c h _ => absurd (show false = true from h) (by simp), fun _ => hd, Around.frames_deeper e0.frames, .inr ⟨rfl, rfl⟩, fun b z => absurd z (noA b), e0.bs, e0.bsz, fun b _ _ => noA b, fun b z => absurd z (noA b), e0.funs, e0.frf⟩,
    rfl, e0.bare, Un.kept hk, ⟨_, hns, fun i x v h1 h2 h3 => ?_⟩, fun x c h => ?_, e0.hok.fresh (Nat.le_refl _), fun x c h => ?_, fun p hp => absurd (show p ∈ ([] : List (Addr × Obj)) from hp) (by simp), e0.hok.kept hk, ?_⟩
  · exact ⟨cc, by rw [only x hx]; rfl⟩
  · have hi : i < vs.length := by
      have := (List.getElem?_eq_some_iff.mp h2).1
      simpa using this
    have hv : vs[i]? = some v := by
      rw [List.getElem?_map] at h2
      obtain ⟨a, e, e2⟩ := Option.map_eq_some_iff.mp h2
      rw [e, Option.some.inj e2]
    obtain ⟨u, hu, rv⟩ := r.get hv
    refine ⟨u, rv, .inl ⟨par x (List.mem_of_getElem? h1), ?_⟩⟩
    have hz : (x, u) ∈ ps.zip us := by
      have : (ps.zip us)[i]? = some (x, u) := by
        rw [List.getElem?_zip_eq_some]
        exact ⟨h1, hu⟩
      exact List.mem_of_getElem? this
    have hl2 : us.length = ps.length := by rw [← r.length, hl]
    refine lookup_mem ?_ (List.mem_reverse.mpr hz)
    rw [List.map_reverse, List.map_fst_zip (by omega)]
    exact (List.reverse_perm ps).nodup_iff.mpr nd
  · obtain ⟨rfl, _⟩ := hcl x c h
    exact ⟨cv, oc, hk _ _ hcs.1, hdc⟩
  · obtain ⟨rfl, _⟩ := hcl x c h
    exact hcs.2
  · show (vs.map some).length = ps.length
    rw [List.length_map, hl]
/-- what the written part says of an own error's __init__ at fI: super() means what stands behind C -/
structure InitD (P : Program) (K : PySem.W.Frag) (C fI : Addr) (qual : Str) (params : Arguments) (body : List Stmt) (scope : Scope) (fd : FuncData) : Prop where
  ex : ∃ (oc : Value) (od : Option Addr) (osl : Array (Option Value)) (dV kV doc pm : Value) (an : Option Addr) (ct : Value) (cc cda : Addr) (cl : Value) (cld : Option Addr) (csl : Array (Option Value)) (cdd : Option Addr) (ccl : Value) (ccs : Array (Option Value)) (vs : Array Value) (file : Str) (tf : Tok) (cdD : ClassData),
    fd = ksFn "__init__" qual params body scope dV kV doc pm an (.ref cda) ct cc ∧ K.lookup fI = some ⟨oc, od, .func fd, osl⟩ ∧ PySem.W.codeIn K (.ref cda) qual = true ∧
    K.lookup cc = some ⟨cl, cld, .cell (some (.ref C)), csl⟩ ∧ K.lookup cda = some ⟨ccl, cdd, .fields vs, ccs⟩ ∧ vs[2]? = some (.str file tf) ∧ ((P.main.file : Str) == file) = true ∧ PySem.W.clsIn K C = some cdD
  oex : OexC K C
  sup : PySem.W.ks_superIn K C C "__init__" = some (some (.builtin "ValueError.__init__"))
  self_ : PySem.W.mroIn K C (.ref C) = some true
  ve : PySem.W.subIn K (.ref C) (.type "ValueError") = some true
  any_ : PySem.W.nsIn K cStatics "thirdparty.any" = some none
  noS : PySem.W.nsIn K mainGlobals "super" = some none
  topS : (P.main.scope.names.lookup ("super" : Str)).isSome = false
  dv : fd.defaults = .none
section
variable {prog : Program} {w : World} {A : Around} {E : Value → Shared → Prop} {h : Heap} {g : Array GenState} {d : Drawn} {t : Nat} {os : OsState}
variable {nm q : Str} {C N : Addr} {bs bm : List Value} {hdct : Bool} {sn : List Str} {sub : List Value} {ab : Bool} {col : Option Bool} {dd : Option Addr} {k0 k1 k2 k3 k5 : Option Value}
/-- the bound ValueError.__init__ is called: the exception holds a new tuple -/
theorem call_mw {u e t0 : Addr} {dv : Option Addr} {rest : List Value} {Q : Value → Shared → Prop}
    (hC : h.get? C = some (excClassObj nm q C N bs bm hdct sn sub ab col dd k0 k1 k2 k3 k5 "ValueError.__new__")) (he : h.get? e = some (PySem.W.excObj C t0 dv .none)) (hu : h.get? u = some (PySem.W.kxs_mw "ValueError.__init__" e)) (hz : rest.length ≤ sizeLine)
    (hq : ∀ h' t1, (∀ b o, b ≠ e → h.get? b = some o → h'.get? b = some o) → h'.get? e = some (PySem.W.excObj C t1 dv .none) → Q .none ⟨h', g, d, t, os⟩) :
    wpAny (model prog w) A (call (.ref u) rest) Q E ⟨h, g, d, t, os⟩ := by
  refine wpAny_call (codeAny_of_tree ?_)
  show wpAny _ A.in1 (callAny (.ref u) ⟨rest, []⟩) _ _ _
  simp only [callAny]
  refine wpAny_bind (wpAny_load hu ?_)
  simp only [PySem.W.kxs_mw, show (Value.type "method-wrapper" == Value.type "method" || Value.type "method-wrapper" == Value.type "builtin_function_or_method" || Value.type "method-wrapper" == Value.type "method-wrapper") = true by decide, if_true]
  refine PySem.W.KFB.if_so (by decide) ?_
  refine wpAny_bind (PySem.W.check_bound_init F.excBase_ValueError.toExcCallFacts hC he rfl ?_)
  refine wpAny_bind (wpAny_pure (wpAny_pure ?_))
  refine ⟨plainId_quiet F.excBase_ValueError.init.plain _, codeAny_builtin F.excBase_ValueError.initEntry ?_⟩
  exact PySem.W.exc_init_tree (cls := .ref C) (t0 := t0) (dv := dv) (c2 := .none) (c3 := .none) (b4 := .bool false) he hz fun h' k e' _ => hq h' h.objs.size k e'
end
theorem init_fn {P : Program} {w : World} {K : PySem.W.Frag} {mg : Str → Option Value} {base : Heap} {C fI : Addr} {qual : Str} {params : Arguments} {body rest : List Stmt} {scope : Scope} {fd : FuncData} {ps : List Str} {k : Nat} {sp : Sp} {msg : Str} {kk : Nat} {p0 p1 p2 p3 p4 p5 : Pos} {ar : Arg}
    (D : InitD P K C fI qual params body scope fd) (hbd : body = .Expr (.Call (.Attribute (.Call (.Name "super" p0) [] [] p1) "__init__" p2) [.Constant (.str msg) kk p3] [] p4) p5 :: rest)
    (nd : ps.Nodup) (par : ∀ x ∈ ps, scope.names.lookup x = some .local) (kind : scope.kind = .function) (only : ∀ x, scope.names.lookup x = some .cell ∨ scope.names.lookup x = some .free → x = "__class__")
    (co : scope.isCoroutine = false) (gen : scope.isGenerator = false) (noc : ∀ x ∈ scope.names, x.2 ≠ .cell) (hself : ps[0]? = some ("self" : Str)) (har : (params.posonlyargs ++ params.args).head? = some ar) (hars : ar.arg = "self")
    (hsn : scope.names.lookup ("super" : Str) = some .globalImplicit) (hcn : scope.names.lookup ("__class__" : Str) = some .free)
    {pl : Env → Sem Bool} (hev : ∀ env, eval (.Call (.Attribute (.Call (.Name "super" p0) [] [] p1) "__init__" p2) [.Constant (.str msg) kk p3] [] p4) env = (do
      let ov ← attributeBase (.Call (.Name "super" p0) [] [] p1) "__init__" env (eval (.Call (.Name "super" p0) [] [] p1) env)
      standAt p2.atName
      let (f, first) ← holding [ov] (getMethod ov "__init__" (pl env))
      callWith p4 f first (backTo p4 (starEach [.Constant (.str msg) kk p3] env)) []))
    (len : ∀ vs H Q E, sp vs H Q E → vs.length = ps.length)
    (hrest : ∀ X : Cx, (∃ cda cc A outer s H E, X = cxK (L2.CX P w) P w K mg base ps qual scope fI (.ref cda) cc A outer s H E) → ∃ t, PSs X rest t ∧ ∀ vs H Q E, sp vs H Q E →
      ∃ (a : Addr) (ws : List V), vs = .ref a :: ws ∧ H a = some (exo a C none) ∧ t { nx := fun _ H' => Q .non H', rt := Q } (vs.map some) H) :
    FnOk P w K mg base (L2.CX P w) (k + 1) fI fd ps sp := by
  obtain ⟨oc, od, osl, dV, kV, doc, pm, an, ct, cc, cda, cl, cld, csl, cdd, ccl, ccs, vsc, file, tf, cdD, rfl, lk, hcd, hcell, hcode, hv2, hfile, hclsD⟩ := D.ex
  refine ⟨len, fun A outer s H args us vs Q E hr e0 hb r hsp => ?_⟩
  have hl := len _ _ _ _ hsp
  have KX : K.In s.heap := e0.mod.kin.keeps fun b o e => (e0.bs b o e).1
  have lim : s.heap.NoLimit := e0.mod.nolimit.keeps fun b o e => (e0.bs b o e).1
  have hloc : ∀ y ∈ ps.zip us, scope.names.lookup y.1 = some .local := fun ⟨n, v⟩ hy => par n (List.of_mem_zip hy).1
  refine ks_codeAny_call_defAt (fd := ksFn "__init__" qual params body scope dV kV doc pm an (.ref cda) ct cc) (body := body) (binds := ps.zip us) hr.depth (KX _ _ lk) rfl lim (PySem.W.codeRec_of KX hcd) rfl hb noc hloc (fun h₁ hns hk₁ => ?_) co gen kind
  have hcc : base.IsCell cc (some (.ref C)) := ⟨_, e0.mod.kin _ _ hcell, rfl⟩
  have I := inv_startK (CX := L2.CX P w) (qual := qual) (f := fI) (cd := .ref cda) (E := E) (tk := s.toks + (ps.zip us).length) nd par kind only hr.hd e0 hl r hcc hns hk₁
  obtain ⟨t, ht, hq⟩ := hrest _ ⟨cda, cc, A, outer, s, H, E, rfl⟩
  obtain ⟨a, ws, rfl, ea, hq⟩ := hq _ _ _ _ hsp
  subst hbd
  obtain ⟨hp, g, dr, tk0, os⟩ := s
  have bk : ∀ b o, base.get? b = some o → h₁.get? b = some o := fun b o e => hk₁ b o (e0.bs b o e).1
  have K1 : K.In h₁ := e0.mod.kin.keeps bk
  obtain ⟨t1, hx⟩ := exo_at I.hok ea
  have IA : PySem.W.InstAt h₁ a (PySem.W.excObj C t1 none .none) C none := ⟨hx, rfl, rfl, trivial⟩
  obtain ⟨mb, hmb, hboot⟩ := e0.mod.blt
  obtain ⟨oD, hD1, hD2⟩ : ∃ oD, h₁.get? C = some oD ∧ oD.data = .cls cdD := by
    unfold PySem.W.clsIn at hclsD
    split at hclsD
    · rename_i c d cd' sl ho
      cases hclsD
      exact ⟨_, K1 _ _ ho, rfl⟩
    · cases hclsD
  obtain ⟨u0, us', hus, hu0⟩ : ∃ u0 us', us = u0 :: us' ∧ u0 = Value.ref a := by
    cases r with
    | @cons _ u0 _ us' ra _ => exact ⟨u0, us', rfl, ra⟩
  have hvs : (ps.zip us).reverse.lookup ar.arg = some (.ref a) := by
    rw [hars]
    have hz : (("self" : Str), u0) ∈ ps.zip us := by
      have : (ps.zip us)[0]? = some (("self" : Str), u0) := by
        rw [List.getElem?_zip_eq_some]
        exact ⟨hself, by rw [hus]; rfl⟩
      exact List.mem_of_getElem? this
    have hl2 : us.length = ps.length := by rw [← r.length, hl]
    rw [← hu0]
    refine lookup_mem ?_ (List.mem_reverse.mpr hz)
    rw [List.map_reverse, List.map_fst_zip (by omega)]
    exact (List.reverse_perm ps).nodup_iff.mpr nd
  refine ks_wpAt_execs_cons (ks_wpAt_Expr_any (ks_wpAt_MethodCall ?_ (hev _)) (by simp [interactive, callEnv, newEnv, kind]) rfl)
  refine ks_wpAt_super_base hsn hcn (by decide) rfl (K1 _ _ lk) rfl har rfl (K1 _ _ hcode) rfl hv2 hfile D.topS ?_
  refine PySem.W.ks_loadName_global kind hsn (Calls.loadGlobal_builtin (mg := mg) (mb := mb) (e0.mod.glob.keeps bk) (PySem.W.mg_none_of e0.mod.kin e0.mod.glob D.noS) (hmb.keeps bk) (by rw [hboot _ (by decide)]; kernel_rfl) ⟨rfl, ?_⟩)
  refine wpAny_loadName_free kind hcn rfl ⟨_, K1 _ _ hcell, rfl⟩ ?_
  refine wpAny_loadName_local kind (by rw [hars]; exact par _ (List.mem_of_getElem? hself)) hns hvs ?_
  refine ks_wpAny_isType_cls hD1 hD2 ⟨rfl, ?_⟩
  refine ks_wpAny_call_super hD1 hD2 IA.at_ IA.cls (fun c e => by cases e) (PySem.W.looks_mroIn K1 D.self_) (fun h2 so2 k2 => ?_)
  have K2 : K.In h2 := PySem.W.Frag.In.keeps K1 k2
  have IA2 : PySem.W.InstAt h2 a (PySem.W.excObj C t1 none .none) C none := ⟨k2 _ _ hx, rfl, rfl, trivial⟩
  have hs := D.sup
  unfold PySem.W.ks_superIn at hs
  rw [hclsD] at hs
  refine PySem.W.kxs_getMethod PySem.W.kxs_ValueError so2 (PySem.W.looks_opaque K2 D.any_) (l₀ := cdD.mro) (fun A Q E s k q => wpAny_bind ((PySem.W.looks_clsIn K2 hclsD) A _ E s k (wpAny_pure q))) rfl K2 hs (IA2.type.andThen (PySem.W.looks_subIn K2 D.ve)) (PySem.W.ks_ne K2 IA2 hclsD) (by decide) ?_
  have kP : ∀ b o, h2.get? b = some o → (h2.push (PySem.W.kxs_mw "ValueError.__init__" a)).get? b = some o := fun b o e => Heap.get?_push_of_some _ e
  have hmw : (h2.push (PySem.W.kxs_mw "ValueError.__init__" a)).get? h2.objs.size = some (PySem.W.kxs_mw "ValueError.__init__" a) := Heap.get?_push_size _ rfl
  refine PySem.W.kxs_callWith (i := "ValueError.__init__") (x := a) (by rfl) (Calls.evalArgs_plain (rest := []) (Calls.spliced_cons (Calls.Constant_str (x := msg) (k := kk) (pos := p3) (Calls.spliced_nil ⟨hmw, ?_⟩))))
  obtain ⟨nm, q0, N0, bs0, bm0, sn0, sub0, ab0, col0, dd0, k00, k10, k20, k30, k50, hC0, hbm0⟩ := D.oex.cls
  refine call_mw (kP _ _ (K2 _ _ hC0)) (kP _ _ IA2.at_) hmw (Nat.le_trans (m := 1) (Nat.le_refl 1) (by decide)) fun h3 t3 k3 e3 => ?_
  have I2 := I.kept (t' := 0) fun b o e => kP b o (k2 b o e)
  have eu : upd H a (exo a C none) = H := by
    funext b
    by_cases hb : b = a
    · rw [hb, upd_same, ea]
    · rw [upd_ne hb]
  have J := fun t' => I2.write (t' := t') (x := a) (e := a) (o := exo a C none) (by rw [ea]; exact True.intro) (.inl rfl) k3 ⟨_, e3⟩ (exo_ok e3)
  rw [eu] at J
  refine wpAt_of_wpAny (wpAny_mono (ht.run [] _ ((V.ref a :: ws).map some) H _ (J _) hq) (fun fl s' hs => ?_) fun e s' hs => hs)
  cases fl with
  | ret u =>
    obtain ⟨v, σ', H', J, rv, q⟩ := hs
    exact ⟨v, H', J.os, J.bare, J.base, J.hok, rv, q⟩
  | next =>
    obtain ⟨σ', H', J, q⟩ := hs
    exact ⟨V.non, H', J.os, J.bare, J.base, J.hok, rfl, q⟩
  | brk =>
    obtain ⟨_, _, _, q⟩ := hs
    exact False.elim q
  | cont =>
    obtain ⟨_, _, _, q⟩ := hs
    exact False.elim q
/-! ### what the top's end shows of an error class -/
def oexB (K : PySem.W.Frag) (C : Addr) : Bool := (match K.lookup C with
  | some ⟨.type "type", _, .cls cd, sl⟩ => (match cd.mro, sl.toList with
    | .ref C' :: bm, [_, _, _, _, some (.builtin n), _] => C' == C && n == "ValueError.__new__" && !cd.hasDel && cd.hasDict && PySem.HandSPX.refsVE bm
    | _, _ => false)
  | _ => false) && (decide (PySem.W.findIn K (.ref C) "__setattr__" = some (some (.builtin "object.__setattr__"))) && (decide (PySem.W.subIn K (.ref C) (.type "BaseException") = some true) && (decide (PySem.W.typeIn K (.ref C) = some (.type "type")) && PySem.W.keepIn K (.ref C))))
theorem oexB_ok {K : PySem.W.Frag} {C : Addr} (e : oexB K C = true) : OexC K C := by
  unfold oexB at e
  simp only [Bool.and_eq_true, decide_eq_true_eq] at e
  obtain ⟨e1, e2, e3, e4, e5⟩ := e
  refine ⟨?_, e2, e3, e4, e5⟩
  split at e1
  · rename_i dd cd sl ho
    split at e1
    · rename_i C' bm k0 k1 k2 k3 n k5 hm hs
      simp only [Bool.and_eq_true, beq_iff_eq, Bool.not_eq_true'] at e1
      obtain ⟨⟨⟨⟨rfl, rfl⟩, hdel⟩, hdi⟩, ht⟩ := e1
      obtain ⟨nm, bs, mro, ns, qn, hd, sn, sb, ab, col, del⟩ := cd
      dsimp only at hm hdel hdi
      subst hm hdel hdi
      refine ⟨nm, qn, ns, bs, bm, sn, sb, ab, col, dd, k0, k1, k2, k3, k5, ?_, ht⟩
      rw [ho]
      have esl : sl = #[k0, k1, k2, k3, some (.builtin "ValueError.__new__"), k5] := by
        rw [← Array.toArray_toList (xs := sl), hs]
      rw [esl]
    · cases e1
  · cases e1
def fnEV (qual : Str) (params : Arguments) (body : List Stmt) (scope : Scope) : Option (Str × Str × Arguments × FuncBody × Scope × Addr × List Str × Addr) := some (("__init__" : Str), qual, params, FuncBody.stmts body, scope, mainGlobals, [("__class__" : Str)], builtinsNs)
open He (ga ma) in
/-- an error's __init__ as it stands, its closure by names -/
def fnE (K : PySem.W.Frag) (x : Str) : Option (Str × Str × Arguments × FuncBody × Scope × Addr × List Str × Addr) := match K.lookup (ma K (ga K x) "__init__") with
  | some ⟨_, _, .func fd, _⟩ => some (fd.name, fd.qualname, fd.params, fd.body, fd.scope, fd.globals, fd.closure.map Prod.fst, fd.builtins)
  | _ => none
def supB (P : Program) (K : PySem.W.Frag) (C fI : Addr) : Bool := match K.lookup fI with
  | some ⟨_, _, .func fd, _⟩ => decide (fd.defaults = .none) && (match fd.closure, fd.code with
    | [(_, cc)], .ref cda => PySem.W.codeIn K (.ref cda) fd.qualname && ((match K.lookup cc with
      | some ⟨_, _, .cell (some (.ref D)), _⟩ => decide (D = C)
      | _ => false) && (match K.lookup cda with
      | some ⟨_, _, .fields vs, _⟩ => (match (vs[2]? : Option Value) with
        | some (Value.str file _) => ((P.main.file : Str) == file)
        | _ => false)
      | _ => false))
    | _, _ => false)
  | _ => false
def initB (P : Program) (K : PySem.W.Frag) (C fI : Addr) : Bool := supB P K C fI && (oexB K C && ((PySem.W.clsIn K C).isSome && (decide (PySem.W.ks_superIn K C C "__init__" = some (some (.builtin "ValueError.__init__"))) && (decide (PySem.W.mroIn K C (.ref C) = some true) && (decide (PySem.W.subIn K (.ref C) (.type "ValueError") = some true) &&
  (decide (PySem.W.nsIn K cStatics "thirdparty.any" = some none) && (decide (PySem.W.nsIn K mainGlobals "super" = some none) && !(P.main.scope.names.lookup ("super" : Str)).isSome)))))))
open He (ga ma) in
theorem initD_of {P : Program} {K : PySem.W.Frag} {x qual : Str} {params : Arguments} {body : List Stmt} {scope : Scope} (e : fnE K x = fnEV qual params body scope)
    (b : initB P K (ga K x) (ma K (ga K x) "__init__") = true) : ∃ fd, InitD P K (ga K x) (ma K (ga K x) "__init__") qual params body scope fd := by
  unfold initB at b
  simp only [Bool.and_eq_true, decide_eq_true_eq, Bool.not_eq_true'] at b
  obtain ⟨b1, b2, b3, b4, b5, b6, b7, b8, b9⟩ := b
  unfold fnE at e
  unfold supB at b1
  cases q : K.lookup (ma K (ga K x) "__init__") with
  | none =>
    rw [q] at e
    cases e
  | some o =>
    obtain ⟨oc, od, dt, osl⟩ := o
    rw [q] at e b1
    cases dt with
    | func fd =>
      rw [Bool.and_eq_true, decide_eq_true_eq] at b1
      obtain ⟨b0, b1⟩ := b1
      refine ⟨fd, ?_, oexB_ok b2, b4, b5, b6, b7, b8, b9, b0⟩
      obtain ⟨cdD, hcd⟩ := Option.isSome_iff_exists.mp b3
      obtain ⟨n1, n2, n3, n4, n5, n6, n7, n8, n9, n10, n11, n12, n13, n14, n15⟩ := fd
      have e2 := Option.some.inj e
      simp only [Prod.mk.injEq] at e2
      obtain ⟨rfl, rfl, rfl, rfl, rfl, rfl, hcl, rfl⟩ := e2
      obtain ⟨cc, rfl⟩ : ∃ cc, n7 = [(("__class__" : Str), cc)] := by
        match n7, hcl with
        | [(nm, cc)], h =>
          have h2 := (List.cons.inj h).1
          exact ⟨cc, by rw [← h2]⟩
      dsimp only at b1
      cases n13 with
      | ref cda =>
        dsimp only at b1
        rw [Bool.and_eq_true, Bool.and_eq_true] at b1
        obtain ⟨c1, c2, c3⟩ := b1
        cases q2 : K.lookup cc with
        | none =>
          rw [q2] at c2
          cases c2
        | some oc2 =>
          cases q3 : K.lookup cda with
          | none =>
            rw [q3] at c3
            cases c3
          | some oc3 =>
            rw [q2] at c2
            rw [q3] at c3
            obtain ⟨l1, l2, l3, l4⟩ := oc2
            obtain ⟨m1, m2, m3, m4⟩ := oc3
            split at c2
            · rename_i D heq
              have hD := of_decide_eq_true c2
              split at c3
              · rename_i vs heq3
                split at c3
                · rename_i file tf hv
                  cases heq
                  cases heq3
                  subst hD
                  exact ⟨oc, od, osl, n8, n9, n10, n11, n12, n14, cc, cda, _, _, _, _, _, _, _, file, tf, cdD, rfl, q, c1, q2, q3, hv, c3, hcd⟩
                · cases c3
              · cases c3
            · cases c2
      | _ => cases b1
    | _ => cases e
/-! ### the Hook: the defs, a test, the errors' __init__s -/
abbrev FnE : Type := Option (Str × Str × Arguments × FuncBody × Scope × Addr × List Str × Addr)
abbrev AlE : Type := He.AlD × Bool × List FnE
/-- what one looks at: from the globals on, and the model's own table -/
def stepM (g : Addr → Option Obj) (as : List Addr) : List Addr := as.flatMap fun a => match g a with
  | some o => (match o.data with
    | .func fd => He.refV fd.code ++ fd.closure.map (·.2)
    | .cls cd => [cd.ns]
    | .dict es _ => es.toList.flatMap fun e => He.refV e.val
    | .seq its _ => its.toList.flatMap He.refV
    | _ => [])
  | none => []
def lvM (g : Addr → Option Obj) : Nat → List Addr → List Addr
  | 0, as => as
  | n + 1, as => as ++ lvM g n (stepM g as)
def frE (n : Nat) (g : Addr → Option Obj) : PySem.W.Frag := He.frT g (cStatics :: lvM g n [mainGlobals])
def obsE (n : Nat) (fn : List He.DefD) (ex : PySem.W.Frag → Bool) (xs : List Str) (g : Addr → Option Obj) : AlE :=
  (He.obsD [] fn (frE n g), ex (frE n g), xs.map fun x => fnE (frE n g) x)
structure SaysE (fn : List He.DefD) (ex : PySem.W.Frag → Bool) (xs : List Str) (es : List FnE) (K : PySem.W.Frag) : Prop where
  d : He.SaysD [] fn K
  more : ex K = true
  fn : (xs.map fun x => fnE K x) = es
def hookE (n : Nat) (fn : List He.DefD) (ex : PySem.W.Frag → Bool) (xs : List Str) (es : List FnE) : PySem.W.Hook where
  α := AlE
  obs := fun s => obsE n fn ex xs s.heap.get?
  val := fun _ => (He.valD fn, true, es)
  says := fun _ h => ∃ K : PySem.W.Frag, K.In h ∧ SaysE fn ex xs es K
  of := fun w s e => ⟨_, He.frT_in, congrArg (fun z : AlE => z.1) e, congrArg (fun z : AlE => z.2.1) e, congrArg (fun z : AlE => z.2.2) e⟩
  keeps := fun _ _ _ ⟨K, hK, c⟩ k => ⟨K, PySem.W.Frag.In.keeps hK k, c⟩
theorem obsE_eq {n : Nat} {fn : List He.DefD} {ex : PySem.W.Frag → Bool} {xs : List Str} {es : List FnE} {g : Addr → Option Obj} {s : Shared} (h : ∀ a, g a = s.heap.get? a) : obsE n fn ex xs g = (hookE n fn ex xs es).obs s := by
  have e : g = s.heap.get? := funext h
  rw [e] <;> rfl
end EV

/-! A small Python: data, expressions, statements, and what they do (a total function). -/
namespace MP
open PySem PySem.Spec PyProof.Rows L2

/-- data: what a value is worth; ref: a mutable object of the store -/
inductive D where
  | non | bl (b : Bool) | int (i : Int) | str (x : Str) | ty (n : String)
  | lst (xs : List D) | tup (xs : List D) | scr (ns : List Int)
  | obj (c : Str) (ns : List Str) (ds : List D)
  | ref (i : Nat)
deriving Inhabited
/-- a mutable object -/
inductive MO where
  | lst (xs : List D) | dct (kvs : List (Key × D)) | ins (c : Str) (ns : List Str) (ds : List D) | gone
abbrev Mem := List MO
abbrev Rho := List (Option D)
/-- how a part ends -/
inductive Rs (α : Type) where
  | ok (a : α) (m : Mem) | exc (c : Str) (ns : List Str) (ds : List D) (m : Mem) | bad
def Rs.bind {α β : Type} (r : Rs α) (f : α → Mem → Rs β) : Rs β := match r with
  | .ok a m => f a m
  | .exc c ns ds m => .exc c ns ds m
  | .bad => .bad
/-- how a statement ends -/
inductive RS where
  | nx (r : Rho) (m : Mem) | rt (d : D) (m : Mem) | bk (r : Rho) (m : Mem) | ct (r : Rho) (m : Mem) | exc (c : Str) (ns : List Str) (ds : List D) (r : Rho) (m : Mem) | bad
/-- an expression's result within a statement at the slots r -/
def Rs.go {α : Type} (x : Rs α) (r : Rho) (f : α → Mem → RS) : RS := match x with
  | .ok a m => f a m
  | .exc c ns ds m => .exc c ns ds r m
  | .bad => .bad
def RS.go (x : RS) (f : Rho → Mem → RS) : RS := match x with
  | .nx r m => f r m
  | y => y

inductive BO where | add | sub | mul | fdiv | mod | pow
inductive CO where | eq | ne | lt | le | gt | ge | in_ | notin | is_ | isnot
/-- built-in functions by name; m: the new list is laid in the store -/
inductive Bn where | len | abs | int | str | list (m : Bool) | tuple | max | min | sum | sorted (m : Bool) | divmod
/-- methods of built-in types -/
inductive Mn where | append | pop | popAt | clear | extend | reverse | insert | index | count | join | split (m : Bool) | startswith | get1 | get2
inductive SG where | nm (i : Nat) | tp (is : List Nat)

/-- a part of what an except suite hands back: a constant, a field of the error, whether it is of a class -/
inductive HP where | int (i : Int) | str (x : Str) | bl (b : Bool) | non | fld (f : Str) | isi (c : Str)
/-- an except suite: return p; return (p, ..) -/
inductive HB where | ret (p : HP) | rtup (ps : List HP)
mutual
inductive SE where
  | int (i : Int) | str (x : Str) | bl (b : Bool) | non
  | var (i : Nat) | cst (x : Str)
  | bin (m : Bool) (o : BO) (a b : SE) | neg (a : SE) | not (a : SE)
  | cmp (o : CO) (a b : SE) | cmp2 (o p : CO) (a b c : SE)
  | and (a b : SE) | or (a b : SE) | ife (c : ST) (a b : SE)
  | tup (es : SEs) | lst (m : Bool) (es : SEs)
  | ix (a i : SE) | sl (m : Bool) (a : SE) (lo hi : SO) | rev (m : Bool) (a : SE)
  | call (f : Str) (es : SEs) | make (m : Bool) (c : Str) (es : SEs) | cm (f : Str) (o : SE) (es : SEs)
  | blt (f : Bn) (es : SEs) | meth (f : Mn) (o : SE) (es : SEs)
  | fld (o : SE) (f : Str)
  | lc (m : Bool) (own : List Nat) (g : SG) (it : SI) (c : SC) (e : SE)
  | dct (kvs : SEs)
  | isi (a : SE) (t : String) | isc (a : SE) (c : Str) | eqo (a b : SE)
  | lrg (m : Bool) (a b : SE)
inductive SEs where | nil | cons (e : SE) (r : SEs) | star (e : SE) (r : SEs)
inductive SO where | none | some (e : SE)
/-- a test -/
inductive ST where | val (e : SE) | tru (e : SE) | and (a b : ST) | or (a b : ST) | not (a : ST)
/-- a comprehension's if -/
inductive SC where | yes | one (t : ST)
/-- what is walked -/
inductive SI where | seq (e : SE) | rng1 (a : SE) | rng2 (a b : SE) | rng3 (a b c : SE) | enum (e : SE) | zip (a b : SE) | chars (e : SE)
end
mutual
inductive SS where
  | set (i : Nat) (e : SE) | par (is : List Nat) (es : SEs) | unp (is : List Nat) (e : SE)
  | sub (o i e : SE) | sub2 (o i p j e : SE) | fset (o : SE) (f : Str) (e : SE)
  | aug (i : Nat) (o : BO) (e : SE)
  | ex (e : SE) | ret (e : SE) | ret0
  | ife (c : ST) (a b : SSs) | for_ (g : SG) (it : SI) (b : SSs) | whl (c : ST) (b : SSs)
  | brk | cnt | pas | rai (c : Str) (es : SEs)
  | try_ (b : SSs) (hs : List (Str × Option Nat × HB))
inductive SSs where | nil | cons (s : SS) (r : SSs) | gc (dead : List Nat) (b : SSs)
end

/-- the calls of the program's own, by names -/
structure Calls where
  f : Str → List D → Mem → Rs D
/-- the program's top: constants, error classes with their one field, the class above them, defs, built-in names that are free, own classes (their fields, their methods) -/
structure Glob where
  csts : List (Str × D)
  excs : List (Str × Str)
  root : Str
  fns : List Str
  free : List Str
  clss : List (Str × List Str × List Str)
/-- what the evaluator asks of the program besides -/
structure Env where
  g : Glob
  cs : Calls
def Glob.sub (g : Glob) (c c' : Str) : Option Bool := match g.excs.lookup c with
  | none => none
  | some _ => if c = c' ∨ c' = g.root ∨ c' = "ValueError" then some true else match g.excs.lookup c' with
    | some _ => some false
    | none => none
def Env.cst (Γ : Env) (x : Str) : Option D := Γ.g.csts.lookup x
def Env.exc (Γ : Env) (c : Str) : Option (List Str) := (Γ.g.excs.lookup c).map fun f => [f]
def Env.sub (Γ : Env) (c c' : Str) : Option Bool := Γ.g.sub c c'
/-- what an except clause asks -/
def Env.csub (Γ : Env) (c c' : Str) : Option Bool := if c' = "ValueError" then none else Γ.g.sub c c'

def Glob.fok (G : Glob) (c f : Str) : Bool := match G.clss.lookup c with
  | some d => decide (f ∈ d.1)
  | none => false
def Glob.mok (G : Glob) (c m : Str) : Bool := match G.clss.lookup c with
  | some d => decide (m ∈ d.2)
  | none => false
/-- a method's name among the defs -/
def mkey (c m : Str) : Str := c ++ ("." ++ m)
/-! ### the store -/
def Mem.get (M : Mem) (i : Nat) : Option MO := M[i]?
/-- the items of a list or a tuple: true for a list -/
def seqOf (M : Mem) : D → Option (Bool × List D)
  | .lst xs => some (true, xs)
  | .tup xs => some (false, xs)
  | .ref i => (match M[i]? with
    | some (.lst xs) => some (true, xs)
    | _ => none)
  | _ => none
def lstOf (M : Mem) : D → Option (List D)
  | .lst xs => some xs
  | .ref i => (match M[i]? with
    | some (.lst xs) => some xs
    | _ => none)
  | _ => none
/-- a new list -/
def mkL (m : Bool) (xs : List D) (M : Mem) : Rs D := match m with
  | true => .ok (.ref M.length) (M ++ [.lst xs])
  | false => .ok (.lst xs) M
def opt {α : Type} (o : Option α) (f : α → Rs D) : Rs D := match o with
  | some a => f a
  | none => .bad
def kOf : D → Option Key
  | .int i => some (.inl i)
  | .str x => some (.inr x)
  | _ => none
section
variable {κ α : Type} [DecidableEq κ]
def lookK (kvs : List (κ × α)) (k : κ) : Option α := (kvs.find? fun kv => decide (kv.1 = k)).map (·.2)
def storeK (kvs : List (κ × α)) (k : κ) (v : α) : List (κ × α) := if (kvs.any fun kv => decide (kv.1 = k)) = true then kvs.map (fun kv => if kv.1 = k then (kv.1, v) else kv) else kvs ++ [(k, v)]
end
/-! ### operators -/
/-- two numbers whose product is of an ordinary size -/
def mulOk (i j : Int) : Bool := decide (i.natAbs.log2 + j.natAbs.log2 < 1000000)
def divOk (j : Int) : Bool := decide (0 < j) && decide (j.natAbs.log2 < 9000)
def powOk (i j : Int) : Bool := decide (0 ≤ j) && (decide (j ≤ 1000000) && decide (i.natAbs < 2 ^ 64))
def repOk (n : Nat) (k : Int) : Bool := decide (-(2 ^ 63) ≤ k) && (decide (k < 2 ^ 63) && decide (n * k.toNat ≤ sizeLine))
def binD (m : Bool) : BO → D → D → Mem → Rs D
  | .add, .int i, .int j, M => .ok (.int (i + j)) M
  | .add, .str x, .str y, M => if x.length + y.length ≤ sizeLine then .ok (.str (x ++ y)) M else .bad
  | .add, .tup xs, .tup ys, M => if xs.length + ys.length ≤ sizeLine then .ok (.tup (xs ++ ys)) M else .bad
  | .add, a, b, M => opt (lstOf M a) fun xs => opt (lstOf M b) fun ys => if xs.length + ys.length ≤ sizeLine then mkL m (xs ++ ys) M else .bad
  | .sub, .int i, .int j, M => .ok (.int (i - j)) M
  | .mul, .int i, .int j, M => if mulOk i j = true then .ok (.int (i * j)) M else .bad
  | .mul, a, .int k, M => opt (lstOf M a) fun xs => if repOk xs.length k = true then mkL m (List.replicate k.toNat xs).flatten M else .bad
  | .fdiv, .int i, .int j, M => if divOk j = true then .ok (.int (i / j)) M else .bad
  | .mod, .int i, .int j, M => if 0 < j then .ok (.int (i % j)) M else .bad
  | .pow, .int i, .int j, M => if powOk i j = true then .ok (.int (i ^ j.toNat)) M else .bad
  | _, _, _, _ => .bad
def negD : D → Mem → Rs D
  | .int i, M => .ok (.int (-i)) M
  | _, _ => .bad
def notD : D → Mem → Rs D
  | .bl b, M => .ok (.bl !b) M
  | _, _ => .bad
mutual
/-- as data for == -/
def toP (M : Mem) : D → Option PyData
  | .non => some .none
  | .bl b => some (.bool b)
  | .int i => some (.int i)
  | .str x => some (.str x)
  | .lst xs => (toPs M xs).map .list
  | .tup xs => (toPs M xs).map .tuple
  | _ => none
def toPs (M : Mem) : List D → Option (List PyData)
  | [] => some []
  | d :: r => match toP M d, toPs M r with
    | some p, some q => some (p :: q)
    | _, _ => none
end
/-- a mutable list is looked at, too -/
def toP1 (M : Mem) : D → Option PyData
  | .ref i => (match M[i]? with
    | some (.lst xs) => (toPs M xs).map .list
    | _ => none)
  | d => toP M d
def eqD (M : Mem) (a b : D) : Option Bool := match toP1 M a, toP1 M b with
  | some p, some q => if SeqAt.shaped p = true ∧ SeqAt.shaped q = true then some (PyData.eqv p q) else none
  | _, _ => none
def flatD : D → Bool
  | .non => true
  | .bl _ => true
  | .int _ => true
  | .str _ => true
  | _ => false
def eqF : D → D → Bool
  | .non, .non => true
  | .bl a, .bl b => a == b
  | .bl a, .int b => (if a then 1 else 0) == b
  | .int a, .bl b => a == (if b then 1 else 0)
  | .int a, .int b => a == b
  | .str a, .str b => a == b
  | _, _ => false
def inD (x : D) (xs : List D) : Bool := xs.any fun y => eqF y x
def blD (b : Bool) (M : Mem) : Rs D := .ok (.bl b) M
def sqP (b : Bool) (ds : List PyData) : PyData := match b with
  | true => .list ds
  | false => .tuple ds
/-- x in y -/
def memD (M : Mem) (x y : D) : Option Bool := match seqOf M y with
  | some (b, xs) => if flatD x = true ∧ xs.all flatD = true then some (inD x xs) else match toP1 M x, toPs M xs with
    | some d, some ds => if SeqAt.shaped d = true ∧ SeqAt.shaped (sqP b ds) = true then some (ds.any fun z => PyData.eqv z d) else none
    | _, _ => none
  | none => (match y with
    | .ref i => (match M[i]?, kOf x with
      | some (.dct kvs), some k => some (lookK kvs k).isSome
      | _, _ => none)
    | _ => none)
def isNon : D → Bool
  | .non => true
  | _ => false
def cmpD : CO → D → D → Mem → Rs D
  | .eq, a, b, M => opt (eqD M a b) fun k => blD k M
  | .ne, a, b, M => opt (eqD M a b) fun k => blD (!k) M
  | .lt, .int i, .int j, M => blD (decide (i < j)) M
  | .le, .int i, .int j, M => blD (decide (i ≤ j)) M
  | .gt, .int i, .int j, M => blD (decide (j < i)) M
  | .ge, .int i, .int j, M => blD (decide (j ≤ i)) M
  | .in_, a, b, M => opt (memD M a b) fun k => blD k M
  | .notin, a, b, M => opt (memD M a b) fun k => blD (!k) M
  | .is_, a, .non, M => blD (isNon a) M
  | .isnot, a, .non, M => blD (!isNon a) M
  | _, _, _, _ => .bad
/-- a[i] -/
def ixD (M : Mem) (a i : D) : Rs D := match seqOf M a, i with
  | some (_, xs), .int k => opt (atI xs k) fun d => .ok d M
  | none, i => (match a with
    | .str z => (match i with
      | .int k => if z.length ≤ sizeLine then opt (atI z.cps.toList k) fun c => .ok (.str ⟨#[c]⟩) M else .bad
      | _ => .bad)
    | .ref j => (match M[j]?, kOf i with
      | some (.dct kvs), some k => opt (lookK kvs k) fun d => .ok d M
      | _, _ => .bad)
    | _ => .bad)
  | _, _ => .bad
def cutG {α : Type} (xs : List α) (lo hi : Option Int) : List α := (xs.drop (HT.sIx xs.length 0 lo)).take (HT.sIx xs.length xs.length hi - HT.sIx xs.length 0 lo)
def slD (m : Bool) (M : Mem) (a : D) (lo hi : Option Int) : Rs D := match a with
  | .scr ns => mkL m ((cutG ns lo hi).map D.int) M
  | .str z => if z.length ≤ sizeLine then .ok (.str (cutS z lo hi)) M else .bad
  | .tup xs => .ok (.tup (cutG xs lo hi)) M
  | a => opt (lstOf M a) fun xs => mkL m (cutG xs lo hi) M
def revD (m : Bool) (M : Mem) (a : D) : Rs D := opt (lstOf M a) fun xs => mkL m xs.reverse M
/-- truth of a value -/
def truD (M : Mem) : D → Option Bool
  | .bl b => some b
  | .non => some false
  | .int i => some (i != 0)
  | .lst xs => some !xs.isEmpty
  | .tup xs => some !xs.isEmpty
  | .ref i => (match M[i]? with
    | some (.lst xs) => some !xs.isEmpty
    | _ => none)
  | _ => none
/-! ### built-in functions, methods -/
def intsD : List D → Option (List Int)
  | [] => some []
  | .int i :: r => (intsD r).map (i :: ·)
  | _ :: _ => none
def strsD : List D → Option (List Str)
  | [] => some []
  | .str x :: r => (strsD r).map (x :: ·)
  | _ :: _ => none
/-- sorted whole numbers -/
def insI (x : Int) : List Int → List Int
  | [] => [x]
  | y :: r => if x ≤ y then x :: y :: r else y :: insI x r
def sortI : List Int → List Int
  | [] => []
  | x :: r => insI x (sortI r)
def rngD (n : Nat) (lo : Int) : List D := (List.range n).map fun (i : Nat) => .int (lo + (i : Int))
def rngOk (i j : Int) : Bool := decide (-(2 ^ 62) ≤ i) && (decide (i < 2 ^ 62) && (decide (-(2 ^ 62) ≤ j) && decide (j < 2 ^ 62)))
def lenD (M : Mem) : D → Rs D
  | .str z => if z.length ≤ sizeLine then .ok (.int z.length) M else .bad
  | .scr ns => .ok (.int ns.length) M
  | .ref i => (match M[i]? with
    | some (.lst xs) => .ok (.int xs.length) M
    | some (.dct kvs) => .ok (.int kvs.length) M
    | _ => .bad)
  | .lst xs => .ok (.int xs.length) M
  | .tup xs => .ok (.int xs.length) M
  | _ => .bad
def bltD (M : Mem) : Bn → List D → Rs D
  | .len, [d] => lenD M d
  | .abs, [.int i] => .ok (.int (if i < 0 then -i else i)) M
  | .int, [.int i] => .ok (.int i) M
  | .int, [.bl b] => .ok (.int (if b then 1 else 0)) M
  | .int, [.str x] => if x.length ≤ 640 then opt (PySem.intText? x) fun n => .ok (.int n) M else .bad
  | .str, [.int i] => if i.natAbs.log2 < 1920 then .ok (.str (toString i)) M else .bad
  | .list m, [d] => (match d with
    | .scr ns => mkL m (ns.map D.int) M
    | d => opt (seqOf M d) fun p => mkL m p.2 M)
  | .tuple, [d] => opt (seqOf M d) fun p => .ok (.tup p.2) M
  | .max, [.int i, .int j] => .ok (.int (if j > i then j else i)) M
  | .min, [.int i, .int j] => .ok (.int (if j < i then j else i)) M
  | .sum, [d] => opt (lstOf M d) fun xs => opt (intsD xs) fun ns => .ok (.int ns.sum) M
  | .sorted m, [d] => opt (lstOf M d) fun xs => opt (intsD xs) fun ns => mkL m ((sortI ns).map D.int) M
  | _, _ => .bad
/-- list(range(i, j)) -/
def lrgD (m : Bool) (M : Mem) : D → D → Rs D
  | .int i, .int j => if rngOk i j = true ∧ (j - i).toNat ≤ sizeLine then mkL m (rngD (j - i).toNat i) M else .bad
  | _, _ => .bad
/-- the list at d changes -/
def updL (M : Mem) (d : D) (f : List D → Option (List D × D)) : Rs D := match d with
  | .ref i => (match M[i]? with
    | some (.lst xs) => opt (f xs) fun p => .ok p.2 (M.set i (.lst p.1))
    | _ => .bad)
  | _ => .bad
def methD (M : Mem) : Mn → D → List D → Rs D
  | .append, o, [d] => updL M o fun xs => if xs.length < sizeLine then some (xs ++ [d], .non) else none
  | .pop, o, [] => updL M o fun xs => (xs[xs.length - 1]?).map fun y => (xs.dropLast, y)
  | .popAt, o, [.int i] => updL M o fun xs => if -(2 ^ 63) ≤ i ∧ i < 2 ^ 63 then (seqIndex? i xs.length).bind fun k => (xs[k]?).map fun y => (xs.eraseIdx k, y) else none
  | .insert, o, [.int i, d] => updL M o fun xs => if xs.length < sizeLine ∧ 0 ≤ i ∧ i < 2 ^ 63 then some (xs.take i.toNat ++ [d] ++ xs.drop i.toNat, .non) else none
  | .clear, o, [] => updL M o fun _ => some ([], .non)
  | .reverse, o, [] => updL M o fun xs => some (xs.reverse, .non)
  | .extend, o, [d] => opt (lstOf M d) fun ys => updL M o fun xs => if xs.length + ys.length ≤ sizeLine then some (xs ++ ys, .non) else none
  | .startswith, .str z, [.str y] => .ok (.bl (Txt.startswith z y)) M
  | .join, .str z, [d] => opt (seqOf M d) fun p => opt (strsD p.2) fun zs => if (zs.map (·.length)).sum + zs.length * z.length ≤ 16777216 then .ok (.str (Txt.join z zs)) M else .bad
  | .split m, .str z, [.str y] => if (y.length == 0) = false ∧ z.length + 2 ≤ sizeLine then mkL m ((Txt.split z y).map D.str) M else .bad
  | _, _, _ => .bad
/-- the method's receiver -/
def tyD (M : Mem) (f : Mn) (x : D) : Bool := match f with
  | .append | .pop | .popAt | .clear | .extend | .reverse | .insert | .index | .count => (lstOf M x).isSome
  | .join | .split _ | .startswith => (match x with
    | .str _ => true
    | _ => false)
  | .get1 | .get2 => false
mutual
/-- without references from a number on -/
def lowD (n : Nat) : D → Bool
  | .ref i => decide (i < n)
  | .lst xs => lowDs n xs
  | .tup xs => lowDs n xs
  | .obj _ _ ds => lowDs n ds
  | _ => true
def lowDs (n : Nat) : List D → Bool
  | [] => true
  | d :: r => lowD n d && lowDs n r
end
def lowM (n : Nat) : MO → Bool
  | .lst xs => lowDs n xs
  | .dct kvs => lowDs n (kvs.map (·.2))
  | .ins _ _ ds => lowDs n ds
  | .gone => true
mutual
/-- objects of the store become data: r tells of a reference -/
def frzD (r : Nat → Option D) : D → Option D
  | .ref i => r i
  | .lst xs => (frzDs r xs).map .lst
  | .tup xs => (frzDs r xs).map .tup
  | .obj c ns ds => (frzDs r ds).map (.obj c ns)
  | .non => some .non
  | .bl b => some (.bl b)
  | .int i => some (.int i)
  | .str x => some (.str x)
  | .ty n => some (.ty n)
  | .scr ns => some (.scr ns)
def frzDs (r : Nat → Option D) : List D → Option (List D)
  | [] => some []
  | d :: ds => match frzD r d, frzDs r ds with
    | some e, some es => some (e :: es)
    | _, _ => none
end
def frzR (M : Mem) (n : Nat) : Nat → Nat → Option D
  | 0, _ => none
  | k + 1, i => if i < n then some (.ref i) else match M[i]? with
    | some (.lst xs) => (frzDs (frzR M n k) xs).map .lst
    | some (.ins c ns ds) => (frzDs (frzR M n k) ds).map (.obj c ns)
    | _ => none
def cutM (n : Nat) (M : Mem) : Option Mem := if M.length = n then some M else if (M.take n).all (lowM n) = true ∧ n ≤ M.length then some (M.take n) else none
/-- an instance that was made at the store's no. n; m: it stays in the store -/
def mkI (m : Bool) (n : Nat) : Rs D → Rs D
  | .ok .non M => if m = true then .ok (.ref n) M else match frzR M n 64 n, cutM n M with
    | some d', some M' => .ok d' M'
    | _, _ => .bad
  | .exc c ns ds M => (match frzDs (frzR M n 64) ds, cutM n M with
    | some d', some M' => .exc c ns d' M'
    | _, _ => .bad)
  | _ => .bad
/-- an instance's class, its fields' names -/
def insD (M : Mem) : D → Option (Str × List Str)
  | .obj c ns _ => some (c, ns)
  | .ref i => (match M[i]? with
    | some (.ins c ns _) => some (c, ns)
    | _ => none)
  | _ => none
/-- the class whose method o.m is -/
def mclsD (G : Glob) (M : Mem) (o : D) (m : Str) : Option Str := match insD M o with
  | some (c, ns) => if G.mok c m = true ∧ m ∉ ns then some c else none
  | none => none
/-- isinstance of an own class -/
def iscD (G : Glob) (M : Mem) (d : D) (c : Str) : Option Bool := match d with
  | .int _ => some false
  | .bl _ => some false
  | .str _ => some false
  | .non => some false
  | .lst _ => some false
  | .tup _ => some false
  | d => match insD M d with
    | some (c', _) => if (G.clss.lookup c').isSome = true then some (decide (c' = c)) else none
    | none => none
/-! ### expressions -/
def get (r : Rho) (i : Nat) : Option D := match r[i]? with
  | some (some d) => some d
  | _ => none
/-- the slots of a comprehension's names, forgotten -/
def wipeD (r : Rho) : List Nat → Rho
  | [] => r
  | v :: vs => (wipeD r vs).set v none
def setAll : Rho → List Nat → List D → Option Rho
  | r, [], [] => some r
  | r, i :: is, d :: ds => setAll (r.set i (some d)) is ds
  | _, _, _ => none
def asg (M : Mem) (g : SG) (d : D) (r : Rho) : Option Rho := match g with
  | .nm i => some (r.set i (some d))
  | .tp is => (match d with
    | .tup xs => setAll r is xs
    | _ => none)
def fldD (G : Glob) (M : Mem) (o : D) (f : Str) : Rs D := match o with
  | .obj c ns ds => if G.fok c f = true then opt ((ns.zip ds).lookup f) fun d => .ok d M else .bad
  | .ref i => (match M[i]? with
    | some (.ins c ns ds) => if G.fok c f = true then opt ((ns.zip ds).lookup f) fun d => .ok d M else .bad
    | _ => .bad)
  | _ => .bad
def isiD (d : D) (t : String) : Option Bool := match d with
  | .int _ => some (t == "int")
  | .bl _ => some (t == "int" || t == "bool")
  | .str _ => some (t == "str")
  | .non => some false
  | .lst _ => some (t == "list")
  | .tup _ => some (t == "tuple")
  | _ => none
/-- what is walked: items that do not change, or the list no. i of the store -/
inductive Its where | vals (xs : List D) | at_ (i : Nat) (n : Nat) (en : Bool)
def itSeq (M : Mem) : D → Option Its
  | .lst xs => some (.vals xs)
  | .tup xs => some (.vals xs)
  | .ref i => (match M[i]? with
    | some (.lst xs) => some (.at_ i xs.length false)
    | _ => none)
  | _ => none
def numbered (xs : List D) : List D := xs.zipIdx.map fun p => .tup [.int (p.2 : Int), p.1]
def itEnum (M : Mem) : D → Option Its
  | .lst xs => some (.vals (numbered xs))
  | .tup xs => some (.vals (numbered xs))
  | .ref i => (match M[i]? with
    | some (.lst xs) => some (.at_ i xs.length true)
    | _ => none)
  | _ => none
def itemAt (en : Bool) (k : Nat) (d : D) : D := match en with
  | true => .tup [.int (k : Int), d]
  | false => d
def lcGo (g : D → Rho → Mem → Option Rho) (t : Rho → Mem → Rs Bool) (e : Rho → Mem → Rs D) (r : Rho) : List D → List D → Mem → Rs (List D)
  | [], acc, M => .ok acc M
  | d :: ds, acc, M => match g d r M with
    | none => .bad
    | some r' => (t r' M).bind fun b M => match b with
      | true => (e r' M).bind fun y M => lcGo g t e r ds (acc ++ [y]) M
      | false => lcGo g t e r ds acc M
/-- over the list no. i of the store, as it stands at each turn -/
def lcAt (g : D → Rho → Mem → Option Rho) (t : Rho → Mem → Rs Bool) (e : Rho → Mem → Rs D) (r : Rho) (i : Nat) (en : Bool) : Nat → Nat → List D → Mem → Rs (List D)
  | 0, k, acc, M => (match M[i]? with
    | some (.lst xs) => if xs.length ≤ k then .ok acc M else .bad
    | _ => .bad)
  | n + 1, k, acc, M => (match M[i]? with
    | some (.lst xs) => (match xs[k]? with
      | none => .ok acc M
      | some d => (match g (itemAt en k d) r M with
        | none => .bad
        | some r' => (t r' M).bind fun b M => match b with
          | true => (e r' M).bind fun y M => lcAt g t e r i en n (k + 1) (acc ++ [y]) M
          | false => lcAt g t e r i en n (k + 1) acc M))
    | _ => .bad)
def noExc {α : Type} (x : Rs α) : Rs α := match x with
  | .exc _ _ _ _ => .bad
  | y => y
def pairs2 : List D → Option (List (Key × D))
  | [] => some []
  | k :: v :: r => match kOf k, pairs2 r with
    | some k, some q => some ((k, v) :: q)
    | _, _ => none
  | _ => none
/-- what an own == may be asked about -/
def eqTy (M : Mem) (c : Str) (y : D) : Bool := match y with
  | .str _ => true
  | .int _ => true
  | .bl _ => true
  | .non => true
  | y => match insD M y with
    | some (c', _) => decide (c' = c)
    | none => false
def blD1 (d : D) (M : Mem) : Rs D := match d with
  | .bl b => .ok (.bl b) M
  | _ => .bad
/-- x == y by an own __eq__ -/
def eqoD (Γ : Env) (x y : D) (M : Mem) : Rs D := match insD M x with
  | some (c, _) => if Γ.g.mok c "__eq__" = true ∧ eqTy M c y = true then (noExc (Γ.cs.f (mkey c "__eq__") [x, y] M)).bind blD1 else .bad
  | none => .bad
mutual
def evE (Γ : Env) : SE → Rho → Mem → Rs D
  | .int i, _, M => .ok (.int i) M
  | .str x, _, M => .ok (.str x) M
  | .bl b, _, M => .ok (.bl b) M
  | .non, _, M => .ok .non M
  | .var i, r, M => opt (get r i) fun d => .ok d M
  | .cst x, _, M => opt (Γ.cst x) fun d => .ok d M
  | .bin m o a b, r, M => (evE Γ a r M).bind fun x M => (evE Γ b r M).bind fun y M => binD m o x y M
  | .neg a, r, M => (evE Γ a r M).bind negD
  | .not a, r, M => (evE Γ a r M).bind notD
  | .cmp o a b, r, M => (evE Γ a r M).bind fun x M => (evE Γ b r M).bind fun y M => cmpD o x y M
  | .cmp2 o p a b c, r, M => (evE Γ a r M).bind fun x M => (evE Γ b r M).bind fun y M => (cmpD o x y M).bind fun k M => match k with
    | .bl true => (evE Γ c r M).bind fun z M => cmpD p y z M
    | .bl false => .ok (.bl false) M
    | _ => .bad
  | .and a b, r, M => (evE Γ a r M).bind fun x M => match x with
    | .bl true => evE Γ b r M
    | .bl false => .ok (.bl false) M
    | _ => .bad
  | .or a b, r, M => (evE Γ a r M).bind fun x M => match x with
    | .bl true => .ok (.bl true) M
    | .bl false => evE Γ b r M
    | _ => .bad
  | .ife c a b, r, M => (evT Γ c r M).bind fun k M => match k with
    | true => evE Γ a r M
    | false => evE Γ b r M
  | .tup es, r, M => (evEs Γ es r M).bind fun xs M => if xs.length ≤ sizeLine then .ok (.tup xs) M else .bad
  | .lst m es, r, M => (evEs Γ es r M).bind fun xs M => if xs.length ≤ sizeLine then mkL m xs M else .bad
  | .ix a i, r, M => (evE Γ a r M).bind fun x M => (evE Γ i r M).bind fun y M => ixD M x y
  | .sl m a lo hi, r, M => (evE Γ a r M).bind fun x M => (evO Γ lo r M).bind fun l M => (evO Γ hi r M).bind fun h M => slD m M x l h
  | .rev m a, r, M => (evE Γ a r M).bind fun x M => revD m M x
  | .call f es, r, M => (evEs Γ es r M).bind fun xs M => Γ.cs.f f xs M
  | .make m c es, r, M => (evEs Γ es r M).bind fun xs M => mkI m M.length (Γ.cs.f (mkey c "__init__") (.ref M.length :: xs) (M ++ [.ins c [] []]))
  | .cm f o es, r, M => (evE Γ o r M).bind fun x M => opt (mclsD Γ.g M x f) fun c => (evEs Γ es r M).bind fun xs M => Γ.cs.f (mkey c f) (x :: xs) M
  | .blt f es, r, M => (evEs Γ es r M).bind fun xs M => bltD M f xs
  | .meth f o es, r, M => (evE Γ o r M).bind fun x M => if tyD M f x = true then (evEs Γ es r M).bind fun xs M => methD M f x xs else .bad
  | .fld o f, r, M => (evE Γ o r M).bind fun x M => fldD Γ.g M x f
  | .lc m own g it c e, r, M => (evI Γ it r M).bind fun js M => match js with
    | .vals xs => if xs.length ≤ sizeLine then (noExc (lcGo (fun d r M => asg M g d r) (evC Γ c) (evE Γ e) (wipeD r own) xs [] M)).bind fun ys M => mkL m ys M else .bad
    | .at_ i n en => if n ≤ sizeLine then (noExc (lcAt (fun d r M => asg M g d r) (evC Γ c) (evE Γ e) (wipeD r own) i en n 0 [] M)).bind fun ys M => mkL m ys M else .bad
  | .dct kvs, r, M => (evEs Γ kvs r (M ++ [.dct []])).bind fun xs M1 => opt (pairs2 xs) fun ps => match M1[M.length]? with
    | some (.dct []) => if ps.length ≤ 15 then .ok (.ref M.length) (M1.set M.length (.dct (ps.foldl (fun acc kv => storeK acc kv.1 kv.2) []))) else .bad
    | _ => .bad
  | .isi a t, r, M => (evE Γ a r M).bind fun x M => opt (isiD x t) fun b => .ok (.bl b) M
  | .isc a c, r, M => (evE Γ a r M).bind fun x M => opt (iscD Γ.g M x c) fun b => .ok (.bl b) M
  | .eqo a b, r, M => (evE Γ a r M).bind fun x M => (evE Γ b r M).bind fun y M => eqoD Γ x y M
  | .lrg m a b, r, M => (evE Γ a r M).bind fun x M => (evE Γ b r M).bind fun y M => lrgD m M x y
def evEs (Γ : Env) : SEs → Rho → Mem → Rs (List D)
  | .nil, _, M => .ok [] M
  | .cons e es, r, M => (evE Γ e r M).bind fun x M => (evEs Γ es r M).bind fun xs M => .ok (x :: xs) M
  | .star e es, r, M => (evE Γ e r M).bind fun x M => match seqOf M x with
    | some p => (evEs Γ es r M).bind fun xs M => .ok (p.2 ++ xs) M
    | none => .bad
def evO (Γ : Env) : SO → Rho → Mem → Rs (Option Int)
  | .none, _, M => .ok none M
  | .some e, r, M => (evE Γ e r M).bind fun x M => match x with
    | .int i => .ok (some i) M
    | _ => .bad
def evT (Γ : Env) : ST → Rho → Mem → Rs Bool
  | .val e, r, M => (evE Γ e r M).bind fun x M => match x with
    | .bl b => .ok b M
    | _ => .bad
  | .tru e, r, M => (evE Γ e r M).bind fun x M => match truD M x with
    | some b => .ok b M
    | none => .bad
  | .and a b, r, M => (evT Γ a r M).bind fun k M => match k with
    | true => evT Γ b r M
    | false => .ok false M
  | .or a b, r, M => (evT Γ a r M).bind fun k M => match k with
    | true => .ok true M
    | false => evT Γ b r M
  | .not a, r, M => (evT Γ a r M).bind fun k M => .ok (!k) M
def evC (Γ : Env) : SC → Rho → Mem → Rs Bool
  | .yes, _, M => .ok true M
  | .one t, r, M => evT Γ t r M
def evI (Γ : Env) : SI → Rho → Mem → Rs Its
  | .seq e, r, M => (evE Γ e r M).bind fun x M => match itSeq M x with
    | some j => .ok j M
    | none => .bad
  | .rng1 a, r, M => (evE Γ a r M).bind fun x M => match x with
    | .int j => if rngOk 0 j = true then .ok (.vals (rngD j.toNat 0)) M else .bad
    | _ => .bad
  | .rng2 a b, r, M => (evE Γ a r M).bind fun x M => (evE Γ b r M).bind fun y M => match x, y with
    | .int i, .int j => if rngOk i j = true then .ok (.vals (rngD (j - i).toNat i)) M else .bad
    | _, _ => .bad
  | .enum e, r, M => (evE Γ e r M).bind fun x M => match itEnum M x with
    | some j => .ok j M
    | none => .bad
  | _, _, _ => .bad
end
/-! ### statements -/
def forGo (step : D → Rho → Mem → RS) : List D → Rho → Mem → RS
  | [], r, M => .nx r M
  | d :: ds, r, M => match step d r M with
    | .nx r M => forGo step ds r M
    | .ct r M => forGo step ds r M
    | .bk r M => .nx r M
    | y => y
/-- over the list no. i of the store, as it stands at each turn -/
def forAt (step : D → Rho → Mem → RS) (i : Nat) (en : Bool) : Nat → Nat → Rho → Mem → RS
  | 0, k, r, M => (match M[i]? with
    | some (.lst xs) => if xs.length ≤ k then .nx r M else .bad
    | _ => .bad)
  | n + 1, k, r, M => (match M[i]? with
    | some (.lst xs) => (match xs[k]? with
      | none => .nx r M
      | some d => (match step (itemAt en k d) r M with
        | .nx r M => forAt step i en n (k + 1) r M
        | .ct r M => forAt step i en n (k + 1) r M
        | .bk r M => .nx r M
        | y => y))
    | _ => .bad)
def whlGo (c : Rho → Mem → Rs Bool) (b : Rho → Mem → RS) : Nat → Rho → Mem → RS
  | 0, _, _ => .bad
  | n + 1, r, M => (c r M).go r fun k M => match k with
    | false => .nx r M
    | true => (match b r M with
      | .nx r M => whlGo c b n r M
      | .ct r M => whlGo c b n r M
      | .bk r M => .nx r M
      | y => y)
/-- a while's turns, at most -/
def whlMax : Nat := 2 ^ 60
def subD (M : Mem) (o i v : D) : Option Mem := match o with
  | .ref j => (match M[j]? with
    | some (.lst xs) => (match i with
      | .int k => (ixN xs.length k).map fun n => M.set j (.lst (xs.set n v))
      | _ => none)
    | some (.dct kvs) => (match kOf i with
      | some k => if kvs.length < sizeLine then some (M.set j (.dct (storeK kvs k v))) else none
      | none => none)
    | _ => none)
  | _ => none
/-- an item of a list is stored -/
def subL (M : Mem) (o i v : D) : Option Mem := match o, i with
  | .ref j, .int k => (match M[j]? with
    | some (.lst xs) => (ixN xs.length k).map fun n => M.set j (.lst (xs.set n v))
    | _ => none)
  | _, _ => none
def putN (f : Str) (v : D) : List Str → List D → List Str × List D
  | n :: ns, d :: ds => if n = f then (n :: ns, v :: ds) else ((n :: (putN f v ns ds).1), (d :: (putN f v ns ds).2))
  | _, _ => ([f], [v])
def fsetD (G : Glob) (M : Mem) (o : D) (f : Str) (v : D) : Option Mem := match o with
  | .ref j => (match M[j]? with
    | some (.ins c ns ds) => if ns.length < 1000 ∧ ns.length = ds.length ∧ G.fok c f = true then some (M.set j (.ins c (putN f v ns ds).1 (putN f v ns ds).2)) else none
    | _ => none)
  | _ => none
def two : D → Option (D × D)
  | .tup [a, b] => some (a, b)
  | _ => none
def optS {α : Type} (o : Option α) (f : α → RS) : RS := match o with
  | some a => f a
  | none => .bad
/-- what an except clause's part is worth; own: the clause holds the error by a name, and is of its own class -/
def hpD (Γ : Env) (own : Bool) (c : Str) (ns : List Str) (ds : List D) : HP → Option D
  | .int i => some (.int i)
  | .str x => some (.str x)
  | .bl b => some (.bl b)
  | .non => some .non
  | .fld f => if own = true then (ns.zip ds).lookup f else none
  | .isi c' => if own = true ∧ ns ≠ [] then (Γ.sub c c').map .bl else none
def hpsD (Γ : Env) (own : Bool) (c : Str) (ns : List Str) (ds : List D) : List HP → Option (List D)
  | [] => some []
  | p :: r => match hpD Γ own c ns ds p, hpsD Γ own c ns ds r with
    | some d, some q => some (d :: q)
    | _, _ => none
def slotOk (n : Option Nat) (r : Rho) : Bool := match n with
  | none => true
  | some i => decide (i < r.length)
def evH (Γ : Env) : List (Str × Option Nat × HB) → Str → List Str → List D → Rho → Mem → RS
  | [], c, ns, ds, r, M => .exc c ns ds r M
  | (c', n, b) :: hs, c, ns, ds, r, M => match Γ.csub c c' with
    | some true => if slotOk n r = true then (match b with
      | .ret p => optS (hpD Γ (c == c' && n.isSome) c ns ds p) fun d => .rt d M
      | .rtup ps => optS (hpsD Γ (c == c' && n.isSome) c ns ds ps) fun xs => if xs.length ≤ sizeLine then .rt (.tup xs) M else .bad) else .bad
    | some false => evH Γ hs c ns ds r M
    | none => .bad
/-- slots without references from a number on -/
def lowR (n : Nat) (r : Rho) : Bool := r.all fun o => match o with
  | some d => lowD n d
  | none => true
/-- behind a block its new objects and the dead slots are forgotten -/
def gcR (dead : List Nat) (n : Nat) : RS → RS
  | .nx r M => if lowR n (wipeD r dead) = true then (match cutM n M with
    | some M' => .nx (wipeD r dead) M'
    | none => .bad) else .bad
  | .ct r M => if lowR n (wipeD r dead) = true then (match cutM n M with
    | some M' => .ct (wipeD r dead) M'
    | none => .bad) else .bad
  | y => y
mutual
def evS (Γ : Env) : SS → Rho → Mem → RS
  | .set i e, r, M => (evE Γ e r M).go r fun x M => .nx (r.set i (some x)) M
  | .par is es, r, M => (evEs Γ es r M).go r fun xs M => optS (setAll r is xs) fun r => .nx r M
  | .unp is e, r, M => (evE Γ e r M).go r fun x M => optS (asg M (.tp is) x r) fun r => .nx r M
  | .sub o i e, r, M => (evE Γ e r M).go r fun v M => (evE Γ o r M).go r fun x M => (evE Γ i r M).go r fun y M => optS (subD M x y v) fun M => .nx r M
  | .fset o f e, r, M => (evE Γ e r M).go r fun v M => (evE Γ o r M).go r fun x M => optS (fsetD Γ.g M x f v) fun M => .nx r M
  | .sub2 o i p j e, r, M => (evE Γ e r M).go r fun v M => optS (two v) fun ab => (evE Γ o r M).go r fun x M => (evE Γ i r M).go r fun y M => optS (subL M x y ab.1) fun M => (evE Γ p r M).go r fun x M => (evE Γ j r M).go r fun y M => optS (subL M x y ab.2) fun M => .nx r M
  | .aug i o e, r, M => optS (get r i) fun x => (evE Γ e r M).go r fun y M => (match x, y with
    | .int _, .int _ => (binD false o x y M).go r fun z M => .nx (r.set i (some z)) M
    | _, _ => .bad)
  | .ex e, r, M => (evE Γ e r M).go r fun _ M => .nx r M
  | .ret e, r, M => (evE Γ e r M).go r fun x M => .rt x M
  | .ret0, _, M => .rt .non M
  | .ife c a b, r, M => (evT Γ c r M).go r fun k M => match k with
    | true => evSs Γ a r M
    | false => evSs Γ b r M
  | .for_ g it b, r, M => (evI Γ it r M).go r fun js M => match js with
    | .vals xs => forGo (fun d r M => optS (asg M g d r) fun r => evSs Γ b r M) xs r M
    | .at_ i n en => forAt (fun d r M => optS (asg M g d r) fun r => evSs Γ b r M) i en n 0 r M
  | .whl c b, r, M => whlGo (evT Γ c) (evSs Γ b) whlMax r M
  | .brk, r, M => .bk r M
  | .cnt, r, M => .ct r M
  | .pas, r, M => .nx r M
  | .rai c es, r, M => (evEs Γ es r M).go r fun xs M => optS (Γ.exc c) fun ns => if xs.length = ns.length then .exc c ns xs r M else .bad
  | .try_ b hs, r, M => match evSs Γ b r M with
    | .exc c ns ds r M => evH Γ hs c ns ds r M
    | y => y
def evSs (Γ : Env) : SSs → Rho → Mem → RS
  | .nil, r, M => .nx r M
  | .cons s ss, r, M => (evS Γ s r M).go fun r M => evSs Γ ss r M
  | .gc dead b, r, M => gcR dead M.length (evSs Γ b r M)
end
/-! ### defs -/
/-- a def: its parameters, its slots, its body; keep: the new objects of the store stay -/
structure FnD where
  ps : List Str
  N : List Str
  body : SSs
  keep : Bool
def finE (keep : Bool) (n : Nat) : RS → Rs D
  | .rt d M => if keep = true then .ok d M else match frzD (frzR M n 64) d, cutM n M with
    | some d', some M' => .ok d' M'
    | _, _ => .bad
  | .nx _ M => if keep = true then .ok .non M else match cutM n M with
    | some M' => .ok .non M'
    | none => .bad
  | .exc c ns ds _ M => match frzDs (frzR M n 64) ds, cutM n M with
    | some d', some M' => .exc c ns d' M'
    | _, _ => .bad
  | _ => .bad
def startD (N : List Str) (ds : List D) : Rho := ds.map some ++ List.replicate (N.length - ds.length) none
def callF (Γ : Env) (fd : FnD) (ds : List D) (M : Mem) : Rs D := if ds.length = fd.ps.length then finE fd.keep M.length (evSs Γ fd.body (startD fd.N ds) M) else .bad
def badCalls : Calls := ⟨fun _ _ _ => .bad⟩
def callsN (G : Glob) (tab : List (Str × FnD)) : Nat → Calls
  | 0 => badCalls
  | k + 1 => ⟨fun f ds M => match tab.lookup f with
    | some fd => callF ⟨G, callsN G tab k⟩ fd ds M
    | none => .bad⟩
end MP

/-! What data means in the heap; what an expression's result promises. -/
namespace MP
open PySem PySem.Spec PyProof.Rows L2 EV
open He (ga)

mutual
/-- the value v is worth d: F what does not change, π where the store's objects lie -/
inductive RelD (K : PySem.W.Frag) (F : Hp) (π : List Addr) : D → V → Prop
  | non : RelD K F π .non .non
  | bl (b : Bool) : RelD K F π (.bl b) (.bl b)
  | int (i : Int) : RelD K F π (.int i) (.int i)
  | str (x : Str) : RelD K F π (.str x) (.str x)
  | ty (n : String) : RelD K F π (.ty n) (.ty n)
  | lst {a : Addr} {xs : List D} {vs : List V} : F a = some (.lst vs) → RelDs K F π xs vs → RelD K F π (.lst xs) (.ref a)
  | tup {a : Addr} {xs : List D} {vs : List V} : SqT K F a vs → RelDs K F π xs vs → RelD K F π (.tup xs) (.ref a)
  | scr {a : Addr} {ns : List Int} : SqL K F a (ns.map V.int) → RelD K F π (.scr ns) (.ref a)
  | obj {a dx : Addr} {c : Str} {ns : List Str} {ds : List D} {fs : List (Str × V)} : F a = some (.ins (ga K c) dx fs) → fs.map Prod.fst = ns → RelDs K F π ds (fs.map Prod.snd) → RelD K F π (.obj c ns ds) (.ref a)
  | ref {a : Addr} {i : Nat} : π[i]? = some a → RelD K F π (.ref i) (.ref a)
inductive RelDs (K : PySem.W.Frag) (F : Hp) (π : List Addr) : List D → List V → Prop
  | nil : RelDs K F π [] []
  | cons {d : D} {v : V} {ds : List D} {vs : List V} : RelD K F π d v → RelDs K F π ds vs → RelDs K F π (d :: ds) (v :: vs)
end
/-- an object of the store -/
inductive RelM (K : PySem.W.Frag) (F : Hp) (π : List Addr) : MO → Option HO → Prop
  | lst {xs : List D} {vs : List V} : RelDs K F π xs vs → RelM K F π (.lst xs) (some (.lst vs))
  | dct {kvs : List (Key × D)} {us : List (Key × V)} : kvs.map Prod.fst = us.map Prod.fst → RelDs K F π (kvs.map Prod.snd) (us.map Prod.snd) → RelM K F π (.dct kvs) (some (.dK us))
  | ins {c : Str} {ns : List Str} {ds : List D} {dx : Addr} {fs : List (Str × V)} : fs.map Prod.fst = ns → RelDs K F π ds (fs.map Prod.snd) → RelM K F π (.ins c ns ds) (some (.ins (ga K c) dx fs))
  | gone {o : Option HO} : RelM K F π .gone o
structure Rep (K : PySem.W.Frag) (F : Hp) (π : List Addr) (M : Mem) (H : Hp) : Prop where
  same : Same F H
  len : π.length = M.length
  nd : π.Nodup
  free : ∀ a ∈ π, F a = none
  trk : ∀ a ∈ π, H a ≠ none
  at_ : ∀ (i : Nat) (m : MO) (a : Addr), M[i]? = some m → π[i]? = some a → RelM K F π m (H a)
def EnvR (K : PySem.W.Frag) (F : Hp) (π : List Addr) (ρ : Rho) (σ : L2.St) : Prop := ρ.length = σ.length ∧ ∀ (i : Nat) (d : D), ρ[i]? = some (some d) → ∃ v, σ[i]? = some (some v) ∧ RelD K F π d v
/-- the state grows -/
structure Ext (F : Hp) (π : List Addr) (H F' : Hp) (π' : List Addr) (H' : Hp) : Prop where
  fle : Same F F'
  pre : ∃ t, π' = π ++ t ∧ ∀ a ∈ t, H a = none
  keep : ∀ a o, H a = some o → a ∉ π → H' a = some o
  trk : ∀ a, H a ≠ none → H' a ≠ none
  new : ∀ a o, F' a = some o → F a = some o ∨ H a = none

section
variable {K : PySem.W.Frag} {F F' F1 H H' H1 : Hp} {π π' π1 : List Addr} {M M' : Mem} {ρ : Rho} {σ : L2.St}
mutual
theorem RelD.mono (hF : Same F F') (hp : ∃ t, π' = π ++ t) : ∀ {d : D} {v : V}, RelD K F π d v → RelD K F' π' d v
  | _, _, .non => .non
  | _, _, .bl b => .bl b
  | _, _, .int i => .int i
  | _, _, .str x => .str x
  | _, _, .ty n => .ty n
  | _, _, .lst h r => .lst (hF _ _ h) (RelDs.mono hF hp r)
  | _, _, .tup h r => .tup (Same.sqt hF h) (RelDs.mono hF hp r)
  | _, _, .scr h => .scr (hF.seq h)
  | _, _, .obj h e r => .obj (hF _ _ h) e (RelDs.mono hF hp r)
  | _, _, .ref h => .ref (by
    obtain ⟨t, rfl⟩ := hp
    rw [List.getElem?_append_left (List.getElem?_eq_some_iff.mp h).1]
    exact h)
theorem RelDs.mono (hF : Same F F') (hp : ∃ t, π' = π ++ t) : ∀ {ds : List D} {vs : List V}, RelDs K F π ds vs → RelDs K F' π' ds vs
  | _, _, .nil => .nil
  | _, _, .cons r q => .cons (RelD.mono hF hp r) (RelDs.mono hF hp q)
end
theorem RelM.mono (hF : Same F F') (hp : ∃ t, π' = π ++ t) {m : MO} {o : Option HO} (r : RelM K F π m o) : RelM K F' π' m o := by
  cases r with
  | lst r => exact .lst (r.mono hF hp)
  | dct e r => exact .dct e (r.mono hF hp)
  | ins e r => exact .ins e (r.mono hF hp)
  | gone => exact .gone
theorem RelDs.length : ∀ {ds : List D} {vs : List V}, RelDs K F π ds vs → ds.length = vs.length
  | _, _, .nil => rfl
  | _, _, .cons _ q => congrArg (· + 1) (RelDs.length q)
theorem RelDs.get : ∀ {ds : List D} {vs : List V} {i : Nat} {d : D}, RelDs K F π ds vs → ds[i]? = some d → ∃ v, vs[i]? = some v ∧ RelD K F π d v
  | _, _, _, _, .nil, e => by simp at e
  | _, _, 0, _, .cons r _, e => by simp at e; subst e; exact ⟨_, rfl, r⟩
  | _, _, i + 1, _, .cons _ q, e => by
    obtain ⟨v, h1, h2⟩ := RelDs.get q (show _ = _ by simpa using e)
    exact ⟨v, by simpa using h1, h2⟩
theorem RelDs.getV : ∀ {ds : List D} {vs : List V} {i : Nat} {v : V}, RelDs K F π ds vs → vs[i]? = some v → ∃ d, ds[i]? = some d ∧ RelD K F π d v
  | _, _, _, _, .nil, e => by simp at e
  | _, _, 0, _, .cons r _, e => by simp at e; subst e; exact ⟨_, rfl, r⟩
  | _, _, i + 1, _, .cons _ q, e => by
    obtain ⟨v, h1, h2⟩ := RelDs.getV q (show _ = _ by simpa using e)
    exact ⟨v, by simpa using h1, h2⟩
theorem RelDs.append : ∀ {ds es : List D} {vs ws : List V}, RelDs K F π ds vs → RelDs K F π es ws → RelDs K F π (ds ++ es) (vs ++ ws)
  | _, _, _, _, .nil, q => q
  | _, _, _, _, .cons r t, q => .cons r (RelDs.append t q)
theorem RelDs.take : ∀ {ds : List D} {vs : List V} (n : Nat), RelDs K F π ds vs → RelDs K F π (ds.take n) (vs.take n)
  | _, _, 0, _ => .nil
  | _, _, _ + 1, .nil => .nil
  | _, _, n + 1, .cons r t => .cons r (RelDs.take n t)
theorem RelDs.drop : ∀ {ds : List D} {vs : List V} (n : Nat), RelDs K F π ds vs → RelDs K F π (ds.drop n) (vs.drop n)
  | _, _, 0, r => r
  | _, _, _ + 1, .nil => .nil
  | _, _, n + 1, .cons _ t => RelDs.drop n t
theorem RelDs.set {d : D} {v : V} (r : RelD K F π d v) : ∀ {ds : List D} {vs : List V} (i : Nat), RelDs K F π ds vs → RelDs K F π (ds.set i d) (vs.set i v)
  | _, _, _, .nil => .nil
  | _, _, 0, .cons _ t => .cons r t
  | _, _, i + 1, .cons q t => .cons q (RelDs.set r i t)
theorem RelDs.eraseIdx : ∀ {ds : List D} {vs : List V} (i : Nat), RelDs K F π ds vs → RelDs K F π (ds.eraseIdx i) (vs.eraseIdx i)
  | _, _, _, .nil => .nil
  | _, _, 0, .cons _ t => t
  | _, _, i + 1, .cons q t => .cons q (RelDs.eraseIdx i t)
theorem RelDs.reverse : ∀ {ds : List D} {vs : List V}, RelDs K F π ds vs → RelDs K F π ds.reverse vs.reverse
  | _, _, .nil => .nil
  | _, _, .cons r t => by
    rw [List.reverse_cons, List.reverse_cons]
    exact RelDs.append (RelDs.reverse t) (.cons r .nil)
theorem RelDs.dropLast {ds : List D} {vs : List V} (r : RelDs K F π ds vs) : RelDs K F π ds.dropLast vs.dropLast := by
  rw [List.dropLast_eq_take, List.dropLast_eq_take, r.length]
  exact r.take _
theorem RelDs.replicate {ds : List D} {vs : List V} (r : RelDs K F π ds vs) : ∀ n : Nat, RelDs K F π (List.replicate n ds).flatten (List.replicate n vs).flatten
  | 0 => .nil
  | n + 1 => by
    rw [List.replicate_succ, List.replicate_succ, List.flatten_cons, List.flatten_cons]
    exact r.append (RelDs.replicate r n)
theorem RelDs.ints : ∀ ns : List Int, RelDs K F π (ns.map D.int) (ns.map V.int)
  | [] => .nil
  | n :: r => .cons (.int n) (RelDs.ints r)
theorem EnvR.mono (hF : Same F F') (hp : ∃ t, π' = π ++ t) (e : EnvR K F π ρ σ) : EnvR K F' π' ρ σ := ⟨e.1, fun i d h => by
  obtain ⟨v, h1, h2⟩ := e.2 i d h
  exact ⟨v, h1, h2.mono hF hp⟩⟩
theorem EnvR.set {d : D} {v : V} (e : EnvR K F π ρ σ) (r : RelD K F π d v) (i : Nat) : EnvR K F π (ρ.set i (some d)) (σ.set i (some v)) := by
  refine ⟨by rw [List.length_set, List.length_set, e.1], fun j x h => ?_⟩
  by_cases hj : i = j
  · subst hj
    have hl : i < ρ.length := by
      have := (List.getElem?_eq_some_iff.mp h).1
      rwa [List.length_set] at this
    rw [List.getElem?_set_self hl] at h
    cases h
    exact ⟨v, by rw [List.getElem?_set_self (by rw [← e.1]; exact hl)], r⟩
  · rw [List.getElem?_set_ne hj] at h
    obtain ⟨w, h1, h2⟩ := e.2 j x h
    exact ⟨w, by rw [List.getElem?_set_ne hj]; exact h1, h2⟩
theorem EnvR.unset (e : EnvR K F π ρ σ) (i : Nat) (o : Option V) : EnvR K F π (ρ.set i none) (σ.set i o) := by
  refine ⟨by rw [List.length_set, List.length_set, e.1], fun j x h => ?_⟩
  by_cases hj : i = j
  · subst hj
    have hl : i < ρ.length := by
      have := (List.getElem?_eq_some_iff.mp h).1
      rwa [List.length_set] at this
    rw [List.getElem?_set_self hl] at h
    cases h
  · rw [List.getElem?_set_ne hj] at h
    obtain ⟨w, h1, h2⟩ := e.2 j x h
    exact ⟨w, by rw [List.getElem?_set_ne hj]; exact h1, h2⟩
theorem EnvR.wipe (e : EnvR K F π ρ σ) : ∀ vs : List Nat, EnvR K F π (wipeD ρ vs) (L2.wipe σ vs)
  | [] => e
  | v :: vs => (EnvR.wipe e vs).unset v none

theorem Ext.refl : Ext F π H F π H := ⟨fun _ _ h => h, ⟨[], by simp, by simp⟩, fun _ _ h _ => h, fun _ h => h, fun _ _ h => .inl h⟩
theorem Ext.trans (a : Ext F π H F1 π1 H1) (b : Ext F1 π1 H1 F' π' H') : Ext F π H F' π' H' := by
  obtain ⟨t, rfl, ht⟩ := a.pre
  obtain ⟨u, rfl, hu⟩ := b.pre
  refine ⟨a.fle.trans b.fle, ⟨t ++ u, by simp, fun x hx => ?_⟩, fun x o h n => ?_, fun x h => b.trk x (a.trk x h), fun x o h => ?_⟩
  · rcases List.mem_append.mp hx with h | h
    · exact ht x h
    · cases q : H x with
      | none => rfl
      | some o => exact absurd (hu x h) (a.trk x (by rw [q]; simp))
  · refine b.keep x o (a.keep x o h n) fun m => ?_
    rcases List.mem_append.mp m with z | z
    · exact n z
    · rw [ht x z] at h
      cases h
  · rcases b.new x o h with z | z
    · exact a.new x o z
    · right
      cases q : H x with
      | none => rfl
      | some o => exact absurd z (a.trk x (by rw [q]; simp))
theorem Ext.pre' (a : Ext F π H F' π' H') : ∃ t, π' = π ++ t := let ⟨t, e, _⟩ := a.pre; ⟨t, e⟩
theorem RelD.ext (a : Ext F π H F' π' H') {d : D} {v : V} (r : RelD K F π d v) : RelD K F' π' d v := r.mono a.fle a.pre'
theorem RelDs.ext (a : Ext F π H F' π' H') {d : List D} {v : List V} (r : RelDs K F π d v) : RelDs K F' π' d v := r.mono a.fle a.pre'
theorem EnvR.ext (a : Ext F π H F' π' H') (r : EnvR K F π ρ σ) : EnvR K F' π' ρ σ := r.mono a.fle a.pre'
/-- a new object that does not change -/
theorem Rep.frz (R : Rep K F π M H) {p : Addr} {o : HO} (hp : H p = none) : Rep K (upd F p o) π M (upd H p o) ∧ Ext F π H (upd F p o) π (upd H p o) := by
  have fp : F p = none := by
    cases q : F p with
    | none => rfl
    | some u =>
      rw [R.same _ _ q] at hp
      cases hp
  have np : p ∉ π := fun m => R.trk p m hp
  have sF : Same F (upd F p o) := Same.new fp
  refine ⟨⟨fun b u e => ?_, R.len, R.nd, fun a ha => ?_, fun a ha => ?_, fun i m a h1 h2 => ?_⟩, ⟨sF, ⟨[], by simp, by simp⟩, fun a u h _ => Same.new hp a u h, fun a h => ?_, fun a u h => ?_⟩⟩
  · by_cases hb : b = p
    · rw [hb, upd_same] at e ⊢
      exact e
    · rw [upd_ne hb] at e ⊢
      exact R.same b u e
  · rw [upd_ne (show a ≠ p from fun z => np (z ▸ ha))]
    exact R.free a ha
  · rw [upd_ne (show a ≠ p from fun z => np (z ▸ ha))]
    exact R.trk a ha
  · rw [upd_ne (show a ≠ p from fun z => np (z ▸ List.mem_of_getElem? h2))]
    exact (R.at_ i m a h1 h2).mono sF ⟨[], by simp⟩
  · by_cases hb : a = p
    · exact absurd (hb ▸ hp) h
    · rw [upd_ne hb]
      exact h
  · by_cases hb : a = p
    · exact .inr (hb ▸ hp)
    · rw [upd_ne hb] at h
      exact .inl h
/-- a new object of the store -/
theorem Rep.mut (R : Rep K F π M H) {p : Addr} {o : HO} {m : MO} (hp : H p = none) (r : RelM K F (π ++ [p]) m (some o)) : Rep K F (π ++ [p]) (M ++ [m]) (upd H p o) ∧ Ext F π H F (π ++ [p]) (upd H p o) := by
  have fp : F p = none := by
    cases q : F p with
    | none => rfl
    | some u =>
      rw [R.same _ _ q] at hp
      cases hp
  have np : p ∉ π := fun m => R.trk p m hp
  refine ⟨⟨fun b u e => by rw [upd_ne (show b ≠ p from fun z => by rw [z, fp] at e; cases e)]; exact R.same b u e, by simp [R.len], ?_, fun a ha => ?_, fun a ha => ?_, fun i m' a h1 h2 => ?_⟩, ⟨fun _ _ h => h, ⟨[p], rfl, by simp [hp]⟩, fun a u h _ => Same.new hp a u h, fun a h => ?_, fun a u h => .inl h⟩⟩
  · rw [List.nodup_append]
    exact ⟨R.nd, by simp, fun a ha b hb e => np (by rw [← List.mem_singleton.mp hb, ← e]; exact ha)⟩
  · rcases List.mem_append.mp ha with z | z
    · exact R.free a z
    · rw [List.mem_singleton.mp z]
      exact fp
  · rcases List.mem_append.mp ha with z | z
    · rw [upd_ne (show a ≠ p from fun e => np (e ▸ z))]
      exact R.trk a z
    · rw [List.mem_singleton.mp z, upd_same]
      simp
  · by_cases hi : i < M.length
    · rw [List.getElem?_append_left hi] at h1
      rw [List.getElem?_append_left (by rw [R.len]; exact hi)] at h2
      rw [upd_ne (show a ≠ p from fun z => np (z ▸ List.mem_of_getElem? h2))]
      exact (R.at_ i m' a h1 h2).mono (fun _ _ h => h) ⟨[p], rfl⟩
    · have hl := (List.getElem?_eq_some_iff.mp h1).1
      have e : i = M.length := by simp at hl; omega
      subst e
      rw [List.getElem?_append_right (Nat.le_refl _)] at h1
      rw [← R.len, List.getElem?_append_right (Nat.le_refl _)] at h2
      simp at h1 h2
      subst h1 h2
      rw [upd_same]
      exact r
  · by_cases hb : a = p
    · exact absurd (hb ▸ hp) h
    · rw [upd_ne hb]
      exact h
/-- an object of the store is changed -/
theorem Rep.put (R : Rep K F π M H) {i : Nat} {a : Addr} {o : HO} {m : MO} (ha : π[i]? = some a) (r : RelM K F π m (some o)) : Rep K F π (M.set i m) (upd H a o) ∧ Ext F π H F π (upd H a o) := by
  have ma := List.mem_of_getElem? ha
  refine ⟨⟨fun b u e => ?_, by rw [List.length_set, R.len], R.nd, R.free, fun b hb => ?_, fun j m' b h1 h2 => ?_⟩, ⟨fun _ _ h => h, ⟨[], by simp, by simp⟩, fun b u h n => ?_, fun b h => ?_, fun _ _ h => .inl h⟩⟩
  · rw [upd_ne (fun z => by rw [z, R.free a ma] at e; cases e)]
    exact R.same b u e
  · by_cases hb' : b = a
    · rw [hb', upd_same]
      simp
    · rw [upd_ne hb']
      exact R.trk b hb
  · by_cases hj : i = j
    · subst hj
      rw [ha] at h2
      cases h2
      have hl : i < M.length := by
        have := (List.getElem?_eq_some_iff.mp h1).1
        rwa [List.length_set] at this
      rw [List.getElem?_set_self hl] at h1
      cases h1
      rw [upd_same]
      exact r
    · rw [List.getElem?_set_ne hj] at h1
      have ne : b ≠ a := fun z => hj (nd_ix R.nd ha (z ▸ h2))
      rw [upd_ne ne]
      exact R.at_ j m' b h1 h2
  · rw [upd_ne (show b ≠ a from fun z => n (z ▸ ma))]
    exact h
  · by_cases hb : b = a
    · rw [hb, upd_same]
      simp
    · rw [upd_ne hb]
      exact h
theorem Rep.look (R : Rep K F π M H) {i : Nat} {m : MO} (h : M[i]? = some m) : ∃ a, π[i]? = some a ∧ RelM K F π m (H a) := by
  have hi : i < π.length := by rw [R.len]; exact (List.getElem?_eq_some_iff.mp h).1
  exact ⟨π[i], by simp [hi], R.at_ i m _ h (by simp [hi])⟩
theorem Rep.get (R : Rep K F π M H) {i : Nat} {a : Addr} {m : MO} (h : M[i]? = some m) (ha : π[i]? = some a) : RelM K F π m (H a) := R.at_ i m a h ha
end

/-! ### what a result promises -/
/-- an exception of the class c: its fields stand in its own dict (if it has fields) -/
inductive ExR (K : PySem.W.Frag) (F : Hp) (π : List Addr) (H : Hp) : List Str → List D → Option Addr → Prop
  | none {dd : Option Addr} : ExR K F π H [] [] dd
  | some {d : Addr} {fs : List (Str × V)} {ns : List Str} {ds : List D} : F d = some (.xd fs) → fs.map Prod.fst = ns → RelDs K F π ds (fs.map Prod.snd) → ExR K F π H ns ds (some d)
def Post {α : Type} (K : PySem.W.Frag) (F : Hp) (π : List Addr) (H : Hp) (E : XK) (k : Hp → List Addr → Mem → Hp → α → Prop) : Rs α → Prop
  | .ok a M' => ∀ F' π' H', Ext F π H F' π' H' → Rep K F' π' M' H' → k F' π' M' H' a
  | .exc c ns ds M' => ∀ F' π' H' dd, Ext F π H F' π' H' → Rep K F' π' M' H' → ExR K F' π' H' ns ds dd → E (.ref (ga K c)) dd H'
  | .bad => False
section
variable {α β : Type} {K : PySem.W.Frag} {F F' F1 H H' H1 : Hp} {π π' π1 : List Addr} {M M' : Mem} {ρ : Rho} {σ : L2.St} {E : XK} {k k' : Hp → List Addr → Mem → Hp → α → Prop}
theorem Post.shift (a : Ext F π H F1 π1 H1) : ∀ {r : Rs α}, Post K F π H E k r → Post K F1 π1 H1 E k r
  | .ok _ _, h => fun F' π' H' b R => h F' π' H' (a.trans b) R
  | .exc _ _ _ _, h => fun F' π' H' dd b R x => h F' π' H' dd (a.trans b) R x
  | .bad, h => h
theorem Post.imp : ∀ {r : Rs α}, Post K F π H E k r → (∀ F' π' M' H' a, r = .ok a M' → Ext F π H F' π' H' → Rep K F' π' M' H' → k F' π' M' H' a → k' F' π' M' H' a) → Post K F π H E k' r
  | .ok _ _, h, f => fun F' π' H' b R => f F' π' _ H' _ rfl b R (h F' π' H' b R)
  | .exc _ _ _ _, h, _ => h
  | .bad, h, _ => h
theorem Post.then {k : Hp → List Addr → Mem → Hp → β → Prop} {f : α → Mem → Rs β} : ∀ {r : Rs α}, Post K F π H E k (r.bind f) → Post K F π H E (fun F' π' M' H' a => Post K F' π' H' E k (f a M')) r
  | .ok a M', h => fun F' π' H' b R => Post.shift (r := f a M') b h
  | .exc _ _ _ _, h => h
  | .bad, h => h
theorem Post.now {a : α} (h : Post K F π H E k (.ok a M)) (R : Rep K F π M H) : k F π M H a := h F π H .refl R
end
/-- an expression's reading by its result -/
def TD (K : PySem.W.Frag) (r : Rs D) (ρ : Rho) (M : Mem) (W : WX) : TE := fun σ H Q => ∃ F π, Rep K F π M H ∧ EnvR K F π ρ σ ∧ Post K F π H (WE W σ) (fun F' π' _ H' d => ∀ v, RelD K F' π' d v → Q v H') r
def TDs (K : PySem.W.Frag) (r : Rs (List D)) (ρ : Rho) (M : Mem) (W : WX) : TA := fun σ H Q => ∃ F π, Rep K F π M H ∧ EnvR K F π ρ σ ∧ Post K F π H (WE W σ) (fun F' π' _ H' d => ∀ v, RelDs K F' π' d v → Q v H') r
def TB (K : PySem.W.Frag) (r : Rs Bool) (ρ : Rho) (M : Mem) (W : WX) : TT := fun σ H Q => ∃ F π, Rep K F π M H ∧ EnvR K F π ρ σ ∧ Post K F π H (WE W σ) (fun _ _ _ H' b => Q b H') r
def TOo (K : PySem.W.Frag) (r : Rs (Option Int)) (ρ : Rho) (M : Mem) (W : WX) : TO := fun σ H Q => ∃ F π, Rep K F π M H ∧ EnvR K F π ρ σ ∧ Post K F π H (WE W σ) (fun _ _ _ H' b => Q b H') r
/-- the store behind r (the store ahead of it, if r is no result) -/
def Rs.mem {α : Type} (r : Rs α) (M : Mem) : Mem := match r with
  | .ok _ m => m
  | _ => M
section
variable {α β : Type} {K : PySem.W.Frag} {F H : Hp} {π : List Addr} {M : Mem} {ρ : Rho} {σ : L2.St} {W : WX}
theorem TD.then {r : Rs D} {k : Hp → List Addr → Mem → Hp → β → Prop} {f : D → Mem → Rs β} (R : Rep K F π M H) (e : EnvR K F π ρ σ) (h : Post K F π H (WE W σ) k (r.bind f)) {Q : VK}
    (q : ∀ d M1 F1 π1 H1 v, r = .ok d M1 → Ext F π H F1 π1 H1 → Rep K F1 π1 M1 H1 → EnvR K F1 π1 ρ σ → RelD K F1 π1 d v → Post K F1 π1 H1 (WE W σ) k (f d M1) → Q v H1) : TD K r ρ M W σ H Q :=
  ⟨F, π, R, e, (Post.then h).imp fun F1 π1 M1 H1 d er x R1 p v rv => q d M1 F1 π1 H1 v er x R1 (e.ext x) rv p⟩
theorem TDs.then {r : Rs (List D)} {k : Hp → List Addr → Mem → Hp → β → Prop} {f : List D → Mem → Rs β} (R : Rep K F π M H) (e : EnvR K F π ρ σ) (h : Post K F π H (WE W σ) k (r.bind f)) {Q : List V → Hp → Prop}
    (q : ∀ d M1 F1 π1 H1 v, r = .ok d M1 → Ext F π H F1 π1 H1 → Rep K F1 π1 M1 H1 → EnvR K F1 π1 ρ σ → RelDs K F1 π1 d v → Post K F1 π1 H1 (WE W σ) k (f d M1) → Q v H1) : TDs K r ρ M W σ H Q :=
  ⟨F, π, R, e, (Post.then h).imp fun F1 π1 M1 H1 d er x R1 p v rv => q d M1 F1 π1 H1 v er x R1 (e.ext x) rv p⟩
theorem TB.then {r : Rs Bool} {k : Hp → List Addr → Mem → Hp → β → Prop} {f : Bool → Mem → Rs β} (R : Rep K F π M H) (e : EnvR K F π ρ σ) (h : Post K F π H (WE W σ) k (r.bind f)) {Q : Bool → Hp → Prop}
    (q : ∀ d M1 F1 π1 H1, r = .ok d M1 → Ext F π H F1 π1 H1 → Rep K F1 π1 M1 H1 → EnvR K F1 π1 ρ σ → Post K F1 π1 H1 (WE W σ) k (f d M1) → Q d H1) : TB K r ρ M W σ H Q :=
  ⟨F, π, R, e, (Post.then h).imp fun F1 π1 M1 H1 d er x R1 p => q d M1 F1 π1 H1 er x R1 (e.ext x) p⟩
theorem TOo.then {r : Rs (Option Int)} {k : Hp → List Addr → Mem → Hp → β → Prop} {f : Option Int → Mem → Rs β} (R : Rep K F π M H) (e : EnvR K F π ρ σ) (h : Post K F π H (WE W σ) k (r.bind f)) {Q : Option Int → Hp → Prop}
    (q : ∀ d M1 F1 π1 H1, r = .ok d M1 → Ext F π H F1 π1 H1 → Rep K F1 π1 M1 H1 → EnvR K F1 π1 ρ σ → Post K F1 π1 H1 (WE W σ) k (f d M1) → Q d H1) : TOo K r ρ M W σ H Q :=
  ⟨F, π, R, e, (Post.then h).imp fun F1 π1 M1 H1 d er x R1 p => q d M1 F1 π1 H1 er x R1 (e.ext x) p⟩
end
theorem _root_.L2.PE.mono {X : Cx} {e : Expr} {t t' : TE} (h : PE X e t) (i : ∀ σ H Q, t' σ H Q → t σ H Q) : PE X e t' := ⟨fun pins s σ H Q I q => h.run pins s σ H Q I (i σ H Q q)⟩
theorem _root_.L2.PT.mono {X : Cx} {e : Expr} {t t' : TT} (h : PT X e t) (i : ∀ σ H Q, t' σ H Q → t σ H Q) : PT X e t' := ⟨fun pins s σ H Q I q => h.run pins s σ H Q I (i σ H Q q)⟩
theorem _root_.L2.PA.mono {X : Cx} {e : List Expr} {t t' : TA} (h : PA X e t) (i : ∀ σ H Q, t' σ H Q → t σ H Q) : PA X e t' := ⟨fun pos pins s σ H Q I q => h.run pos pins s σ H Q I (i σ H Q q)⟩
theorem _root_.L2.PS.mono {X : Cx} {e : Stmt} {t t' : TS} (h : PS X e t) (i : ∀ D σ H, t' D σ H → t D σ H) : PS X e t' := ⟨fun pins s σ H D I q => h.run pins s σ H D I (i D σ H q)⟩
theorem _root_.L2.PSs.mono {X : Cx} {e : List Stmt} {t t' : TS} (h : PSs X e t) (i : ∀ D σ H, t' D σ H → t D σ H) : PSs X e t' := ⟨fun pins s σ H D I q => h.run pins s σ H D I (i D σ H q)⟩
theorem _root_.L2.PO.mono {X : Cx} {e : Option Expr} {t t' : TO} (h : PO X e t) (i : ∀ σ H Q, t' σ H Q → t σ H Q) : PO X e t' := ⟨fun pins s σ H Q I q => h.run pins s σ H Q I (i σ H Q q)⟩
end MP

/-! The data's operations and what the machine does: operators, comparisons, subscripts, built-ins. -/
namespace MP
open PySem PySem.Spec PyProof.Rows L2 EV
open He (ga)

/-- behind an expression: the value is worth d -/
abbrev kD (K : PySem.W.Frag) (Q : VK) : Hp → List Addr → Mem → Hp → D → Prop := fun F' π' _ H' d => ∀ v, RelD K F' π' d v → Q v H'
section
variable {K : PySem.W.Frag} {F H : Hp} {π : List Addr} {M : Mem} {E : XK} {Q : VK}
theorem mkL_new {m : Bool} {xs : List D} {vs : List V} {l : Addr} (p : Post K F π H E (kD K Q) (mkL m xs M)) (R : Rep K F π M H) (r : RelDs K F π xs vs) (hl : H l = none) : Q (.ref l) (upd H l (.lst vs)) := by
  cases m with
  | false =>
    obtain ⟨R1, x1⟩ := R.frz (o := .lst vs) hl
    exact p _ _ _ x1 R1 _ (.lst upd_same (r.ext x1))
  | true =>
    obtain ⟨R1, x1⟩ := R.mut (o := .lst vs) (m := .lst xs) hl (.lst (r.mono (fun _ _ h => h) ⟨[l], rfl⟩))
    refine p _ _ _ x1 R1 _ (.ref ?_)
    rw [List.getElem?_append_right (by rw [R.len]; exact Nat.le_refl _), ← R.len]
    simp
theorem tup_new {xs : List D} {vs : List V} {l : Addr} (p : Post K F π H E (kD K Q) (.ok (.tup xs) M)) (R : Rep K F π M H) (r : RelDs K F π xs vs) (hl : H l = none) : Q (.ref l) (upd H l (.tup vs)) := by
  obtain ⟨R1, x1⟩ := R.frz (o := .tup vs) hl
  exact p _ _ _ x1 R1 _ (.tup (SqT.of upd_same) (r.ext x1))
theorem lst_of {d : D} {xs : List D} {v : V} (e : lstOf M d = some xs) (R : Rep K F π M H) (r : RelD K F π d v) : ∃ a vs, v = .ref a ∧ RelDs K F π xs vs ∧ H a = some (.lst vs) := by
  cases r with
  | lst h q =>
    cases e
    exact ⟨_, _, rfl, q, R.same _ _ h⟩
  | @ref a i h =>
    unfold lstOf at e
    dsimp only at e
    split at e
    · rename_i ys hm
      cases e
      have q := R.get hm h
      generalize ho : H a = o at q
      cases q with
      | lst q => exact ⟨_, _, rfl, q, ho⟩
    · cases e
  | _ => cases e
theorem seq_of {d : D} {b : Bool} {xs : List D} {v : V} (e : seqOf M d = some (b, xs)) (R : Rep K F π M H) (r : RelD K F π d v) : ∃ a vs, v = .ref a ∧ RelDs K F π xs vs ∧ SqB b K H a vs := by
  cases r with
  | lst h q =>
    cases e
    exact ⟨_, _, rfl, q, SqL.of (R.same _ _ h)⟩
  | tup h q =>
    cases e
    exact ⟨_, _, rfl, q, Same.sqt R.same h⟩
  | @ref a i h =>
    unfold seqOf at e
    dsimp only at e
    split at e
    · rename_i ys hm
      cases e
      have q := R.get hm h
      generalize ho : H a = o at q
      cases q with
      | lst q => exact ⟨_, _, rfl, q, SqL.of ho⟩
    · cases e
  | _ => cases e
mutual
theorem toP_dp (R : Same F H) : ∀ {d : D} {p : PyData} {v : V}, toP M d = some p → RelD K F π d v → Dp K H v p
  | .non, _, _, e, .non => by cases e; exact .non
  | .bl b, _, _, e, .bl _ => by cases e; exact .bl b
  | .int b, _, _, e, .int _ => by cases e; exact .int b
  | .str b, _, _, e, .str _ => by cases e; exact .str b
  | .lst xs, p, _, e, .lst h r => by
    have e : (toPs M xs).map PyData.list = some p := e
    cases q : toPs M xs with
    | none => rw [q] at e; cases e
    | some ps =>
      rw [q] at e
      cases e
      exact .lst (SqL.of (R _ _ h)) (toPs_dp R q r)
  | .tup xs, p, _, e, .tup h r => by
    have e : (toPs M xs).map PyData.tuple = some p := e
    cases q : toPs M xs with
    | none => rw [q] at e; cases e
    | some ps =>
      rw [q] at e
      cases e
      exact .tup (Same.sqt R h) (toPs_dp R q r)
  | .ty _, _, _, e, _ => by cases e
  | .scr _, _, _, e, _ => by cases e
  | .obj _ _ _, _, _, e, _ => by cases e
  | .ref _, _, _, e, _ => by cases e
theorem toPs_dp (R : Same F H) : ∀ {ds : List D} {ps : List PyData} {vs : List V}, toPs M ds = some ps → RelDs K F π ds vs → DpAll K H vs ps
  | [], _, _, e, .nil => by cases e; exact .nil
  | d :: ds, ps, _, e, .cons r rs => by
    unfold toPs at e
    split at e
    · rename_i p q h1 h2
      cases e
      exact .cons (toP_dp R h1 r) (toPs_dp R h2 rs)
    · cases e
end
theorem toP1_dp {d : D} {p : PyData} {v : V} (e : toP1 M d = some p) (R : Rep K F π M H) (r : RelD K F π d v) : Dp K H v p := by
  cases r with
  | @ref a i h =>
    unfold toP1 at e
    dsimp only at e
    split at e
    · rename_i ys hm
      have q := R.get hm h
      generalize ho : H a = o at q
      cases q with
      | lst q =>
        cases q2 : toPs M ys with
        | none => rw [q2] at e; cases e
        | some ps =>
          rw [q2] at e
          cases e
          exact .lst (SqL.of ho) (toPs_dp R.same q2 q)
    · cases e
  | lst h q => exact toP_dp R.same e (.lst h q)
  | tup h q => exact toP_dp R.same e (.tup h q)
  | scr h => exact toP_dp (F := F) (π := π) R.same e (.scr h)
  | obj h h2 q => exact toP_dp R.same e (.obj h h2 q)
  | non => exact toP_dp (F := F) (π := π) R.same e .non
  | bl b => exact toP_dp (F := F) (π := π) R.same e (.bl b)
  | int b => exact toP_dp (F := F) (π := π) R.same e (.int b)
  | str b => exact toP_dp (F := F) (π := π) R.same e (.str b)
  | ty b => exact toP_dp (F := F) (π := π) R.same e (.ty b)
theorem flat_of {d : D} {v : V} (h : flatD d = true) (r : RelD K F π d v) : flatV v = true := by
  cases r <;> first | rfl | cases h
theorem flat_all {ds : List D} {vs : List V} (h : ds.all flatD = true) (r : RelDs K F π ds vs) : vs.all flatV = true := by
  induction ds generalizing vs with
  | nil => cases r; rfl
  | cons d ds ih =>
    cases r with
    | cons r rs =>
      rw [List.all_cons, Bool.and_eq_true] at h ⊢
      exact ⟨flat_of h.1 r, ih h.2 rs⟩
theorem eqF_of {d d' : D} {v v' : V} (h : flatD d = true) (h' : flatD d' = true) (r : RelD K F π d v) (r' : RelD K F π d' v') : eqV v v' = eqF d d' := by
  cases r <;> first | (cases h; done) | (cases r' <;> first | rfl | (cases h'; done))
theorem inD_of {d : D} {v : V} {ds : List D} {vs : List V} (h : flatD d = true) (ha : ds.all flatD = true) (r : RelD K F π d v) (rs : RelDs K F π ds vs) : inV v vs = inD d ds := by
  induction ds generalizing vs with
  | nil => cases rs; rfl
  | cons e ds ih =>
    cases rs with
    | cons q qs =>
      rw [List.all_cons, Bool.and_eq_true] at ha
      have := ih ha.2 qs
      unfold inV inD at this ⊢
      rw [List.any_cons, List.any_cons, this, eqF_of ha.1 h q r]
theorem key_of {d : D} {k : Key} {v : V} (e : kOf d = some k) (r : RelD K F π d v) : v = kV k := by
  cases r <;> first | (cases e; rfl) | (cases e; done)
theorem lookK_map {kvs : List (Key × D)} {us : List (Key × V)} (hk : kvs.map Prod.fst = us.map Prod.fst) (r : RelDs K F π (kvs.map Prod.snd) (us.map Prod.snd)) (k : Key) :
    (lookK kvs k).isSome = (valV us k).isSome ∧ ∀ d, lookK kvs k = some d → ∃ v, valV us k = some v ∧ RelD K F π d v := by
  induction kvs generalizing us with
  | nil =>
    cases us with
    | nil => exact ⟨rfl, fun d e => by cases e⟩
    | cons u us => cases hk
  | cons p kvs ih =>
    cases us with
    | nil => cases hk
    | cons u us =>
      rw [List.map_cons, List.map_cons] at hk r
      injection hk with h1 h2
      cases r with
      | cons r rs =>
        have := ih h2 rs
        unfold lookK valV at this ⊢
        rw [List.find?_cons, List.find?_cons, ← h1]
        by_cases e : p.1 = k
        · simp only [e, decide_true, Option.map_some, Option.isSome_some, true_and]
          intro d hd
          cases hd
          exact ⟨u.2, rfl, r⟩
        · simp only [e, decide_false]
          exact this
theorem storeK_map {kvs : List (Key × D)} {us : List (Key × V)} (hk : kvs.map Prod.fst = us.map Prod.fst) (r : RelDs K F π (kvs.map Prod.snd) (us.map Prod.snd)) (k : Key) {d : D} {v : V} (rv : RelD K F π d v) :
    (storeK kvs k d).map Prod.fst = (putK us k v).map Prod.fst ∧ RelDs K F π ((storeK kvs k d).map Prod.snd) ((putK us k v).map Prod.snd) := by
  have hany : ∀ {kvs : List (Key × D)} {us : List (Key × V)}, kvs.map Prod.fst = us.map Prod.fst → (kvs.any fun kv => decide (kv.1 = k)) = (us.any fun kv => decide (kv.1 = k)) := by
    intro kvs
    induction kvs with
    | nil => intro us e; cases us with
      | nil => rfl
      | cons _ _ => cases e
    | cons p kvs ih => intro us e; cases us with
      | nil => cases e
      | cons u us =>
        rw [List.map_cons, List.map_cons] at e
        injection e with e1 e2
        rw [List.any_cons, List.any_cons, ih e2, e1]
  have hmap : ∀ {kvs : List (Key × D)} {us : List (Key × V)}, kvs.map Prod.fst = us.map Prod.fst → RelDs K F π (kvs.map Prod.snd) (us.map Prod.snd) →
      (kvs.map (fun kv => if kv.1 = k then (kv.1, d) else kv)).map Prod.fst = (us.map (fun kv => if kv.1 = k then (kv.1, v) else kv)).map Prod.fst ∧
      RelDs K F π ((kvs.map (fun kv => if kv.1 = k then (kv.1, d) else kv)).map Prod.snd) ((us.map (fun kv => if kv.1 = k then (kv.1, v) else kv)).map Prod.snd) := by
    intro kvs
    induction kvs with
    | nil => intro us e q; cases us with
      | nil => exact ⟨rfl, .nil⟩
      | cons _ _ => cases e
    | cons p kvs ih => intro us e q; cases us with
      | nil => cases e
      | cons u us =>
        rw [List.map_cons, List.map_cons] at e q
        injection e with e1 e2
        cases q with
        | cons q qs =>
          obtain ⟨h1, h2⟩ := ih e2 qs
          simp only [List.map_cons]
          by_cases c : p.1 = k
          · have c2 : u.1 = k := e1 ▸ c
            rw [if_pos c, if_pos c2]
            exact ⟨by rw [h1, e1], .cons rv h2⟩
          · have c2 : ¬ u.1 = k := e1 ▸ c
            rw [if_neg c, if_neg c2]
            exact ⟨by rw [h1, e1], .cons q h2⟩
  unfold storeK putK
  rw [hany hk]
  split
  · exact hmap hk r
  · rw [List.map_append, List.map_append, List.map_append, List.map_append, hk]
    exact ⟨rfl, r.append (.cons rv .nil)⟩
end
/-! ### operators -/
section
variable {X : Cx}
/-- the rule r does what f does -/
def Does2 (X : Cx) (f : D → D → Mem → Rs D) (d1 d2 : D) (M : Mem) (r : R2) : Prop := ∀ (F : Hp) (π : List Addr) (H : Hp) (E : XK) (v1 v2 : V) (Q : VK), Rep X.K F π M H → RelD X.K F π d1 v1 → RelD X.K F π d2 v2 → Post X.K F π H E (kD X.K Q) (f d1 d2 M) → r v1 v2 H Q
theorem Does2.bad {f : D → D → Mem → Rs D} {d1 d2 : D} {M : Mem} {r : R2} (h : f d1 d2 M = .bad) : Does2 X f d1 d2 M r := fun F π H E v1 v2 Q _ _ _ p => by
  rw [h] at p
  exact p.elim
theorem op_mulW' : OpR X (binaryOp .Mult) (rI CMulW fun i j => .int (i * j)) := op_mulW
/-- Python's operators -/
def BO.py : BO → Operator
  | .add => .Add
  | .sub => .Sub
  | .mul => .Mult
  | .fdiv => .FloorDiv
  | .mod => .Mod
  | .pow => .Pow
theorem Post.opt {K : PySem.W.Frag} {F H : Hp} {π : List Addr} {E : XK} {k : Hp → List Addr → Mem → Hp → D → Prop} {α : Type} {o : Option α} {f : α → Rs D} (p : Post K F π H E k (opt o f)) : ∃ a, o = some a ∧ Post K F π H E k (f a) := by
  cases o with
  | none => exact p.elim
  | some a => exact ⟨a, rfl, p⟩
theorem Post.ite {K : PySem.W.Frag} {F H : Hp} {π : List Addr} {E : XK} {α : Type} {k : Hp → List Addr → Mem → Hp → α → Prop} {c : Prop} [Decidable c] {x : Rs α} (p : Post K F π H E k (if c then x else .bad)) : c ∧ Post K F π H E k x := by
  by_cases h : c
  · rw [if_pos h] at p
    exact ⟨h, p⟩
  · rw [if_neg h] at p
    exact p.elim
theorem add_list (m : Bool) (d1 d2 : D) (M : Mem) (h : binD m .add d1 d2 M = opt (lstOf M d1) fun xs => opt (lstOf M d2) fun ys => if xs.length + ys.length ≤ sizeLine then mkL m (xs ++ ys) M else .bad) : Does2 X (binD m .add) d1 d2 M rCat := by
  intro F π H E v1 v2 Q R r1 r2 p
  rw [h] at p
  obtain ⟨xs, e1, p⟩ := p.opt
  obtain ⟨ys, e2, p⟩ := p.opt
  obtain ⟨hz, p⟩ := p.ite
  obtain ⟨a, vs, rfl, q1, h1⟩ := lst_of e1 R r1
  obtain ⟨b, ws, rfl, q2, h2⟩ := lst_of e2 R r2
  exact ⟨a, b, vs, ws, rfl, rfl, h1, h2, by rw [← q1.length, ← q2.length]; exact hz, fun l hl => mkL_new p R (q1.append q2) hl⟩
theorem mul_list (m : Bool) (d1 : D) (k : Int) (M : Mem) (h : binD m .mul d1 (.int k) M = opt (lstOf M d1) fun xs => if repOk xs.length k = true then mkL m (List.replicate k.toNat xs).flatten M else .bad) : Does2 X (binD m .mul) d1 (.int k) M rRep := by
  intro F π H E v1 v2 Q R r1 r2 p
  rw [h] at p
  obtain ⟨xs, e1, p⟩ := p.opt
  obtain ⟨hz, p⟩ := p.ite
  obtain ⟨a, vs, rfl, q1, h1⟩ := lst_of e1 R r1
  cases r2
  unfold repOk at hz
  simp only [Bool.and_eq_true, decide_eq_true_eq] at hz
  rw [q1.length] at hz
  exact ⟨a, k, vs, rfl, rfl, h1, hz.1, hz.2.1, hz.2.2, fun l hl => mkL_new p R (q1.replicate _) hl⟩
theorem bin_ok (m : Bool) (o : BO) (d1 d2 : D) (M : Mem) : ∃ r, OpR X (binaryOp o.py) r ∧ Does2 X (binD m o) d1 d2 M r := by
  cases o with
  | add =>
    match d1, d2 with
    | .int i, .int j =>
      refine ⟨_, op_add, fun F π H E v1 v2 Q R r1 r2 p => ?_⟩
      cases r1; cases r2
      exact ⟨i, j, rfl, rfl, p.now R _ (.int _)⟩
    | .str x, .str y =>
      refine ⟨_, op_add_str, fun F π H E v1 v2 Q R r1 r2 p => ?_⟩
      cases r1; cases r2
      obtain ⟨hz, p⟩ := Post.ite p
      exact ⟨x, y, rfl, rfl, hz, p.now R _ (.str _)⟩
    | .tup xs, .tup ys =>
      refine ⟨_, op_catA, fun F π H E v1 v2 Q R r1 r2 p => ?_⟩
      obtain ⟨hz, p⟩ := Post.ite p
      cases r1 with
      | tup h1 q1 =>
        cases r2 with
        | tup h2 q2 =>
          have e1 := q1.length
          have e2 := q2.length
          refine ⟨_, _, _, _, rfl, rfl, Same.sqt R.same h1, Same.sqt R.same h2, by rw [← e1, ← e2]; exact hz, fun h => ?_, fun _ h => ?_, fun _ _ l hl => tup_new p R (q1.append q2) hl⟩
          · subst h
            cases q1
            exact p.now R _ (.tup h2 q2)
          · subst h
            cases q2
            rw [List.append_nil] at p
            exact p.now R _ (.tup h1 q1)
    | .lst _, d2 => exact ⟨_, op_cat, add_list m _ d2 M (by cases d2 <;> rfl)⟩
    | .ref _, d2 => exact ⟨_, op_cat, add_list m _ d2 M (by cases d2 <;> rfl)⟩
    | .non, d2 => exact ⟨_, op_cat, add_list m _ d2 M (by cases d2 <;> rfl)⟩
    | .bl _, d2 => exact ⟨_, op_cat, add_list m _ d2 M (by cases d2 <;> rfl)⟩
    | .ty _, d2 => exact ⟨_, op_cat, add_list m _ d2 M (by cases d2 <;> rfl)⟩
    | .scr _, d2 => exact ⟨_, op_cat, add_list m _ d2 M (by cases d2 <;> rfl)⟩
    | .obj _ _ _, d2 => exact ⟨_, op_cat, add_list m _ d2 M (by cases d2 <;> rfl)⟩
    | .int _, .str _ | .int _, .tup _ | .int _, .lst _ | .int _, .ref _ | .int _, .non | .int _, .bl _ | .int _, .ty _ | .int _, .scr _ | .int _, .obj _ _ _ => exact ⟨_, op_cat, add_list m _ _ M rfl⟩
    | .str _, .int _ | .str _, .tup _ | .str _, .lst _ | .str _, .ref _ | .str _, .non | .str _, .bl _ | .str _, .ty _ | .str _, .scr _ | .str _, .obj _ _ _ => exact ⟨_, op_cat, add_list m _ _ M rfl⟩
    | .tup _, .int _ | .tup _, .str _ | .tup _, .lst _ | .tup _, .ref _ | .tup _, .non | .tup _, .bl _ | .tup _, .ty _ | .tup _, .scr _ | .tup _, .obj _ _ _ => exact ⟨_, op_cat, add_list m _ _ M rfl⟩
  | sub =>
    refine ⟨_, op_sub, ?_⟩
    cases d1 <;> cases d2 <;> first
      | exact Does2.bad rfl
      | (intro F π H E v1 v2 Q R r1 r2 p; cases r1; cases r2; exact ⟨_, _, rfl, rfl, p.now R _ (.int _)⟩)
  | mul =>
    match d1, d2 with
    | .int i, .int j =>
      refine ⟨_, op_mulW, fun F π H E v1 v2 Q R r1 r2 p => ?_⟩
      cases r1; cases r2
      obtain ⟨hz, p⟩ := Post.ite p
      exact ⟨i, j, rfl, rfl, of_decide_eq_true (p := i.natAbs.log2 + j.natAbs.log2 < 1000000) hz, p.now R _ (.int _)⟩
    | .lst _, .int k | .ref _, .int k | .non, .int k | .bl _, .int k | .ty _, .int k | .scr _, .int k | .obj _ _ _, .int k | .str _, .int k | .tup _, .int k => exact ⟨_, op_rep, mul_list m _ k M rfl⟩
    | d1, .str _ | d1, .tup _ | d1, .lst _ | d1, .ref _ | d1, .non | d1, .bl _ | d1, .ty _ | d1, .scr _ | d1, .obj _ _ _ => exact ⟨_, op_rep, Does2.bad (by cases d1 <;> rfl)⟩
  | fdiv =>
    refine ⟨_, op_fdivW, ?_⟩
    cases d1 <;> cases d2 <;> first
      | exact Does2.bad rfl
      | (intro F π H E v1 v2 Q R r1 r2 p; cases r1; cases r2; obtain ⟨hz, p⟩ := Post.ite p; unfold divOk at hz; simp only [Bool.and_eq_true, decide_eq_true_eq] at hz; exact ⟨_, _, rfl, rfl, hz, p.now R _ (.int _)⟩)
  | mod =>
    refine ⟨_, op_mod, ?_⟩
    cases d1 <;> cases d2 <;> first
      | exact Does2.bad rfl
      | (intro F π H E v1 v2 Q R r1 r2 p; cases r1; cases r2; obtain ⟨hz, p⟩ := Post.ite p; exact ⟨_, _, rfl, rfl, hz, p.now R _ (.int _)⟩)
  | pow =>
    refine ⟨_, op_pow, ?_⟩
    cases d1 <;> cases d2 <;> first
      | exact Does2.bad rfl
      | (intro F π H E v1 v2 Q R r1 r2 p; cases r1; cases r2; obtain ⟨hz, p⟩ := Post.ite p; unfold powOk at hz; simp only [Bool.and_eq_true, decide_eq_true_eq] at hz; exact ⟨_, _, rfl, rfl, ⟨hz.1, hz.2.1, hz.2.2⟩, p.now R _ (.int _)⟩)
/-! ### comparisons -/
def CO.py : CO → CmpOp
  | .eq => .Eq
  | .ne => .NotEq
  | .lt => .Lt
  | .le => .LtE
  | .gt => .Gt
  | .ge => .GtE
  | .in_ => .In
  | .notin => .NotIn
  | .is_ => .Is
  | .isnot => .IsNot
theorem eqD_dp {K : PySem.W.Frag} {F H : Hp} {π : List Addr} {M : Mem} {d1 d2 : D} {k : Bool} {v1 v2 : V} (e : eqD M d1 d2 = some k) (R : Rep K F π M H) (r1 : RelD K F π d1 v1) (r2 : RelD K F π d2 v2) :
    ∃ p q, Dp K H v1 p ∧ Dp K H v2 q ∧ SeqAt.shaped p = true ∧ SeqAt.shaped q = true ∧ PyData.eqv p q = k := by
  unfold eqD at e
  split at e
  · rename_i p q h1 h2
    split at e
    · rename_i hs
      cases e
      exact ⟨p, q, toP1_dp h1 R r1, toP1_dp h2 R r2, hs.1, hs.2, rfl⟩
    · cases e
  · cases e
theorem isNon_of {K : PySem.W.Frag} {F : Hp} {π : List Addr} {d : D} {v : V} (r : RelD K F π d v) : decide (v = .non) = isNon d := by
  cases r <;> first | rfl | simp [isNon]
/-- x in y, of data of any depth -/
def rInX (K : PySem.W.Frag) (no : Bool) : R2 := fun x y H Q => ∃ d ds b, Dp K H x d ∧ Dp K H y (sqP b ds) ∧ SeqAt.shaped d = true ∧ SeqAt.shaped (sqP b ds) = true ∧ Q (.bl (if no = true then !(ds.any fun z => PyData.eqv z d) else ds.any fun z => PyData.eqv z d)) H
theorem op_inX (hu : X.A.units + 65 < cLine) : OpR X (compareOp .In) (rInX X.K false) := by
  intro pins s σ H x y v u Q I rx ry h
  obtain ⟨d, ds, b, hd, he, sd, se, q⟩ := h
  obtain ⟨as, r1⟩ := Dp.reads I d x v hd rx
  obtain ⟨bs, r2⟩ := Dp.reads I (sqP b ds) y u he ry
  cases b with
  | true => exact SeqAt.in_list_reads r2 r1 (SeqAt.canLay_of_shaped se) (SeqAt.canLay_of_shaped sd) (room_in_shaped sd hu) ⟨.bl _, H, I, rfl, q⟩
  | false => exact SeqAt.in_tuple_reads r2 r1 (SeqAt.canLay_of_shaped se) (SeqAt.canLay_of_shaped sd) (room_in_shaped sd hu) ⟨.bl _, H, I, rfl, q⟩
theorem op_notInX (hu : X.A.units + 65 < cLine) : OpR X (compareOp .NotIn) (rInX X.K true) := by
  intro pins s σ H x y v u Q I rx ry h
  obtain ⟨d, ds, b, hd, he, sd, se, q⟩ := h
  obtain ⟨as, r1⟩ := Dp.reads I d x v hd rx
  obtain ⟨bs, r2⟩ := Dp.reads I (sqP b ds) y u he ry
  cases b with
  | true => exact SeqAt.notIn_list_reads r2 r1 (SeqAt.canLay_of_shaped se) (SeqAt.canLay_of_shaped sd) (room_in_shaped sd hu) ⟨.bl _, H, I, rfl, q⟩
  | false => exact SeqAt.notIn_tuple_reads r2 r1 (SeqAt.canLay_of_shaped se) (SeqAt.canLay_of_shaped sd) (room_in_shaped sd hu) ⟨.bl _, H, I, rfl, q⟩
theorem seq_toP1 {M : Mem} {d : D} {b : Bool} {xs : List D} {ds : List PyData} (h : seqOf M d = some (b, xs)) (e : toPs M xs = some ds) : toP1 M d = some (sqP b ds) := by
  cases d with
  | lst ys =>
    cases h
    show Option.map PyData.list (toPs M xs) = _
    rw [e]
    rfl
  | tup ys =>
    cases h
    show Option.map PyData.tuple (toPs M xs) = _
    rw [e]
    rfl
  | ref i =>
    unfold seqOf at h
    unfold toP1
    dsimp only at h ⊢
    split at h
    · rename_i ys hm
      cases h
      rw [e]
      rfl
    · cases h
  | _ => cases h
def flatB (M : Mem) (d1 d2 : D) : Bool := flatD d1 && (match seqOf M d2 with
  | some (_, xs) => xs.all flatD
  | none => true)
/-- in of data that are not flat -/
theorem mem_deep {K : PySem.W.Frag} {F H : Hp} {π : List Addr} {M : Mem} {d1 d2 : D} {v1 v2 : V} {k : Bool} (hs : (seqOf M d2).isSome = true) (hf : flatB M d1 d2 = false) (e : memD M d1 d2 = some k) (R : Rep K F π M H) (r1 : RelD K F π d1 v1) (r2 : RelD K F π d2 v2) :
    ∃ d ds b, Dp K H v1 d ∧ Dp K H v2 (sqP b ds) ∧ SeqAt.shaped d = true ∧ SeqAt.shaped (sqP b ds) = true ∧ k = ds.any fun z => PyData.eqv z d := by
  unfold memD at e
  unfold flatB at hf
  cases q : seqOf M d2 with
  | none => rw [q] at hs; cases hs
  | some p =>
    obtain ⟨b, xs⟩ := p
    rw [q] at e hf
    dsimp only at e hf
    rw [if_neg (fun z => by rw [z.1, z.2] at hf; cases hf)] at e
    split at e
    · rename_i d ds h1 h2
      split at e
      · rename_i hsh
        cases e
        exact ⟨d, ds, b, toP1_dp h1 R r1, toP1_dp (seq_toP1 q h2) R r2, hsh.1, hsh.2, rfl⟩
      · cases e
    · cases e
/-- every comparison but in of a dict -/
theorem cmp_ok (hu : X.A.units + 65 < cLine) (o : CO) (d1 d2 : D) (M : Mem) (hd : (o = .in_ ∨ o = .notin) → (seqOf M d2).isSome = true ∨ cmpD o d1 d2 M = .bad) : ∃ r, OpR X (compareOp o.py) r ∧ Does2 X (cmpD o) d1 d2 M r := by
  cases o with
  | eq =>
    refine ⟨_, op_eqD (by omega), fun F π H E v1 v2 Q R r1 r2 p => ?_⟩
    obtain ⟨k, e, p⟩ := Post.opt p
    obtain ⟨a, b, h1, h2, h3, h4, rfl⟩ := eqD_dp e R r1 r2
    exact ⟨a, b, h1, h2, h3, h4, p.now R _ (.bl _)⟩
  | ne =>
    refine ⟨_, op_neD (by omega), fun F π H E v1 v2 Q R r1 r2 p => ?_⟩
    obtain ⟨k, e, p⟩ := Post.opt p
    obtain ⟨a, b, h1, h2, h3, h4, rfl⟩ := eqD_dp e R r1 r2
    exact ⟨a, b, h1, h2, h3, h4, p.now R _ (.bl _)⟩
  | lt =>
    refine ⟨_, op_lt, ?_⟩
    cases d1 <;> cases d2 <;> first
      | exact Does2.bad rfl
      | (intro F π H E v1 v2 Q R r1 r2 p; cases r1; cases r2; exact ⟨_, _, rfl, rfl, p.now R _ (.bl _)⟩)
  | le =>
    refine ⟨_, op_le, ?_⟩
    cases d1 <;> cases d2 <;> first
      | exact Does2.bad rfl
      | (intro F π H E v1 v2 Q R r1 r2 p; cases r1; cases r2; exact ⟨_, _, rfl, rfl, p.now R _ (.bl _)⟩)
  | gt =>
    refine ⟨_, op_gt, ?_⟩
    cases d1 <;> cases d2 <;> first
      | exact Does2.bad rfl
      | (intro F π H E v1 v2 Q R r1 r2 p; cases r1; cases r2; exact ⟨_, _, rfl, rfl, p.now R _ (.bl _)⟩)
  | ge =>
    refine ⟨_, op_ge, ?_⟩
    cases d1 <;> cases d2 <;> first
      | exact Does2.bad rfl
      | (intro F π H E v1 v2 Q R r1 r2 p; cases r1; cases r2; exact ⟨_, _, rfl, rfl, p.now R _ (.bl _)⟩)
  | is_ =>
    refine ⟨_, op_isN, ?_⟩
    cases d2 with
    | non =>
      intro F π H E v1 v2 Q R r1 r2 p
      cases r2
      have q := Post.now p R _ (.bl _)
      rw [← isNon_of r1] at q
      exact ⟨rfl, q⟩
    | _ => exact Does2.bad (by cases d1 <;> rfl)
  | isnot =>
    refine ⟨_, op_notN, ?_⟩
    cases d2 with
    | non =>
      intro F π H E v1 v2 Q R r1 r2 p
      cases r2
      have q := Post.now p R _ (.bl _)
      rw [← isNon_of r1] at q
      exact ⟨rfl, q⟩
    | _ => exact Does2.bad (by cases d1 <;> rfl)
  | in_ =>
    by_cases hfl : flatB M d1 d2 = false
    · refine ⟨_, op_inX hu, ?_⟩
      rcases hd (.inl rfl) with h | h
      · intro F π H E v1 v2 Q R r1 r2 p
        obtain ⟨k, e, p⟩ := Post.opt p
        obtain ⟨d, ds, b, h1, h2, h3, h4, rfl⟩ := mem_deep h hfl e R r1 r2
        exact ⟨d, ds, b, h1, h2, h3, h4, p.now R _ (.bl _)⟩
      · exact Does2.bad h
    refine ⟨_, op_in_seq, ?_⟩
    rcases hd (.inl rfl) with h | h
    · intro F π H E v1 v2 Q R r1 r2 p
      obtain ⟨k, e, p⟩ := Post.opt p
      unfold memD at e
      split at e
      · rename_i b xs hs
        split at e
        · rename_i hf
          cases e
          obtain ⟨a, vs, rfl, q, hq⟩ := seq_of hs R r2
          exact ⟨a, vs, rfl, hq.or, flat_of hf.1 r1, flat_all hf.2 q, by rw [if_neg Bool.false_ne_true, inD_of hf.1 hf.2 r1 q]; exact p.now R _ (.bl _)⟩
        · rename_i hf
          exact absurd (by
            have hfl := (Bool.not_eq_false _).mp hfl
            unfold flatB at hfl
            rw [hs] at hfl
            exact Bool.and_eq_true_iff.mp hfl) hf
      · rename_i hs
        rw [hs] at h
        cases h
    · exact Does2.bad h
  | notin =>
    by_cases hfl : flatB M d1 d2 = false
    · refine ⟨_, op_notInX hu, ?_⟩
      rcases hd (.inr rfl) with h | h
      · intro F π H E v1 v2 Q R r1 r2 p
        obtain ⟨k, e, p⟩ := Post.opt p
        obtain ⟨d, ds, b, h1, h2, h3, h4, rfl⟩ := mem_deep h hfl e R r1 r2
        exact ⟨d, ds, b, h1, h2, h3, h4, p.now R _ (.bl _)⟩
      · exact Does2.bad h
    refine ⟨_, op_notIn_seq, ?_⟩
    rcases hd (.inr rfl) with h | h
    · intro F π H E v1 v2 Q R r1 r2 p
      obtain ⟨k, e, p⟩ := Post.opt p
      unfold memD at e
      split at e
      · rename_i b xs hs
        split at e
        · rename_i hf
          cases e
          obtain ⟨a, vs, rfl, q, hq⟩ := seq_of hs R r2
          exact ⟨a, vs, rfl, hq.or, flat_of hf.1 r1, flat_all hf.2 q, by rw [if_pos rfl, inD_of hf.1 hf.2 r1 q]; exact p.now R _ (.bl _)⟩
        · rename_i hf
          exact absurd (by
            have hfl := (Bool.not_eq_false _).mp hfl
            unfold flatB at hfl
            rw [hs] at hfl
            exact Bool.and_eq_true_iff.mp hfl) hf
      · rename_i hs
        rw [hs] at h
        cases h
    · exact Does2.bad h
/-- a dict's key -/
theorem dget_of {K : PySem.W.Frag} {F H : Hp} {π : List Addr} {M : Mem} {i : Nat} {kvs : List (Key × D)} {d : D} {k : Key} {v w : V} (hm : M[i]? = some (.dct kvs)) (e : kOf d = some k) (R : Rep K F π M H) (r : RelD K F π (.ref i) w) (rk : RelD K F π d v) :
    ∃ a o, w = .ref a ∧ DGet H a v o ∧ (lookK kvs k).isSome = o.isSome ∧ ∀ x, lookK kvs k = some x → ∃ y, o = some y ∧ RelD K F π x y := by
  cases r with
  | @ref a _ h =>
    have q := R.get hm h
    generalize ho : H a = o at q
    cases q with
    | dct hk hr =>
      obtain ⟨h1, h2⟩ := lookK_map hk hr k
      exact ⟨a, _, rfl, by rw [key_of e rk]; exact DGet.k ho, h1, h2⟩
/-! ### subscripts -/
theorem atI_map {α β : Type} {xs : List α} {ys : List β} (hl : xs.length = ys.length) {k : Int} {x : α} (e : atI xs k = some x) : ∃ j : Nat, xs[j]? = some x ∧ ∀ y, ys[j]? = some y → atI ys k = some y := by
  unfold atI at e ⊢
  rw [hl] at e
  cases q : ixN ys.length k with
  | none => rw [q] at e; cases e
  | some j =>
    rw [q] at e
    exact ⟨j, e, fun y hy => hy⟩
theorem ix_ok (d1 d2 : D) (M : Mem) (h : (seqOf M d1).isSome = true ∨ (∃ z, d1 = .str z) ∨ ixD M d1 d2 = .bad) : Does2 X (fun a i M => ixD M a i) d1 d2 M (rIx X.K) := by
  intro F π H E v1 v2 Q R r1 r2 p
  have p : Post X.K F π H E (kD X.K Q) (ixD M d1 d2) := p
  rcases h with h | ⟨z, rfl⟩ | h
  · obtain ⟨⟨b, xs⟩, hs⟩ := Option.isSome_iff_exists.mp h
    unfold ixD at p
    rw [hs] at p
    obtain ⟨a, vs, rfl, q, hq⟩ := seq_of hs R r1
    cases r2 with
    | int k =>
      obtain ⟨d, e, p⟩ := Post.opt p
      obtain ⟨j, h1, h2⟩ := atI_map q.length e
      obtain ⟨v, h3, h4⟩ := q.get h1
      have q := p.now R _ h4
      cases b with
      | true => exact .inl ⟨a, vs, k, v, rfl, rfl, hq, h2 v h3, q⟩
      | false => exact .inr (.inl ⟨a, vs, k, v, rfl, rfl, hq, h2 v h3, q⟩)
    | _ => exact p.elim
  · cases r1
    unfold ixD seqOf at p
    cases r2 with
    | int k =>
      obtain ⟨hz, p⟩ := Post.ite p
      obtain ⟨c, e, p⟩ := Post.opt p
      exact .inr (.inr ⟨z, k, c, rfl, rfl, hz, e, p.now R _ (.str _)⟩)
    | _ => exact p.elim
  · rw [h] at p
    exact p.elim
theorem cutG_rel {K : PySem.W.Frag} {F : Hp} {π : List Addr} {xs : List D} {vs : List V} (q : RelDs K F π xs vs) (lo hi : Option Int) : RelDs K F π (cutG xs lo hi) (cutV vs lo hi) := by
  unfold cutG cutV
  rw [q.length]
  exact (q.drop _).take _
theorem cutG_map {α : Type} (f : α → V) (xs : List α) (lo hi : Option Int) : cutV (xs.map f) lo hi = (cutG xs lo hi).map f := by
  unfold cutG cutV
  rw [List.length_map, List.map_take, List.map_drop]
def Does3 (X : Cx) (m : Bool) (d : D) (lo hi : Option Int) (M : Mem) (r : V → Option Int → Option Int → Hp → VK → Prop) : Prop := ∀ (F : Hp) (π : List Addr) (H : Hp) (E : XK) (v : V) (Q : VK), Rep X.K F π M H → RelD X.K F π d v → Post X.K F π H E (kD X.K Q) (slD m M d lo hi) → r v lo hi H Q
theorem sl_ok (m : Bool) (d : D) (lo hi : Option Int) (M : Mem) : ∃ r, SlR X r ∧ Does3 X m d lo hi M r := by
  have hl : ∀ d, slD m M d lo hi = (opt (lstOf M d) fun xs => mkL m (cutG xs lo hi) M) → Does3 X m d lo hi M (rSlL X.K) := fun d h F π H E v Q R r p => by
    rw [h] at p
    obtain ⟨xs, e, p⟩ := p.opt
    obtain ⟨a, vs, rfl, q, ha⟩ := lst_of e R r
    exact ⟨a, vs, rfl, SqL.of ha, fun l hl => mkL_new p R (cutG_rel q lo hi) hl⟩
  cases d with
  | scr ns =>
    refine ⟨_, sl_list, fun F π H E v Q R r p => ?_⟩
    cases r with
    | scr h => exact ⟨_, _, rfl, R.same.seq h, fun l hl => by rw [cutG_map]; exact mkL_new p R (RelDs.ints _) hl⟩
  | str z =>
    refine ⟨_, sl_str, fun F π H E v Q R r p => ?_⟩
    cases r
    obtain ⟨hz, p⟩ := Post.ite p
    exact ⟨z, rfl, hz, p.now R _ (.str _)⟩
  | tup xs =>
    refine ⟨_, sl_tupA, fun F π H E v Q R r p => ?_⟩
    cases r with
    | @tup a _ vs h q =>
      have hl := q.length
      refine ⟨a, vs, rfl, Same.sqt R.same h, fun hw => ?_, fun _ l hl => tup_new p R (cutG_rel q lo hi) hl⟩
      have e : cutG xs lo hi = xs := by
        unfold cutG
        rw [hl, hw.1, hw.2, List.drop_zero, Nat.sub_zero, ← hl, List.take_length]
      have p : Post X.K F π H E (kD X.K Q) (.ok (.tup (cutG xs lo hi)) M) := p
      rw [e] at p
      exact p.now R _ (.tup h q)
  | _ => exact ⟨_, sl_list, hl _ rfl⟩
end
end MP

/-! Built-in functions and methods. -/
namespace MP
open PySem PySem.Spec PyProof.Rows L2 EV
open He (ga)
def Bn.name : Bn → Str
  | .len => "len" | .abs => "abs" | .int => "int" | .str => "str" | .list _ => "list" | .tuple => "tuple" | .max => "max" | .min => "min" | .sum => "sum" | .sorted _ => "sorted" | .divmod => "divmod"
def Bn.val : Bn → Value
  | .len => .builtin "len" | .abs => .builtin "abs" | .int => .type "int" | .str => .type "str" | .list _ => .type "list" | .tuple => .type "tuple" | .max => .builtin "max" | .min => .builtin "min" | .sum => .builtin "sum" | .sorted _ => .builtin "sorted" | .divmod => .builtin "divmod"
section
variable {X : Cx}
def DoesC (X : Cx) (f : List D → Mem → Rs D) (ds : List D) (M : Mem) (r : List V → Hp → VK → Prop) : Prop := ∀ (F : Hp) (π : List Addr) (H : Hp) (E : XK) (vs : List V) (Q : VK), Rep X.K F π M H → RelDs X.K F π ds vs → Post X.K F π H E (kD X.K Q) (f ds M) → r vs H Q
theorem DoesC.bad {f : List D → Mem → Rs D} {ds : List D} {M : Mem} {r : List V → Hp → VK → Prop} (h : f ds M = .bad) : DoesC X f ds M r := fun F π H E vs Q _ _ p => by
  rw [h] at p
  exact p.elim
theorem intsD_of {K : PySem.W.Frag} {F : Hp} {π : List Addr} {xs : List D} {ns : List Int} {vs : List V} (e : intsD xs = some ns) (r : RelDs K F π xs vs) : vs = ns.map V.int ∧ xs = ns.map D.int := by
  induction xs generalizing ns vs with
  | nil => cases r; cases e; exact ⟨rfl, rfl⟩
  | cons d xs ih =>
    cases r with
    | cons r rs =>
      cases d with
      | int i =>
        have e : (intsD xs).map (i :: ·) = some ns := e
        cases q : intsD xs with
        | none => rw [q] at e; cases e
        | some ms =>
          rw [q] at e
          cases e
          cases r
          obtain ⟨h1, h2⟩ := ih q rs
          exact ⟨by rw [h1]; rfl, by rw [h2]; rfl⟩
      | _ => cases e
theorem len_ok (ds : List D) (M : Mem) : ∃ r, CallR X (.builtin "len") r ∧ DoesC X (fun ds M => bltD M .len ds) ds M r := by
  match ds with
  | [] => exact ⟨_, call_len_seq, DoesC.bad rfl⟩
  | _ :: _ :: _ => exact ⟨_, call_len_seq, DoesC.bad (by rename_i a b c; cases a <;> rfl)⟩
  | [.str z] =>
    refine ⟨_, call_len_str, fun F π H E vs Q R r p => ?_⟩
    cases r with
    | cons r rs =>
      cases r; cases rs
      obtain ⟨hz, p⟩ := Post.ite p
      exact ⟨z, rfl, hz, p.now R _ (.int _)⟩
  | [.scr ns] =>
    refine ⟨_, call_len_seq, fun F π H E vs Q R r p => ?_⟩
    cases r with
    | cons r rs =>
      cases rs
      cases r with
      | scr h => exact ⟨_, _, rfl, .inl (R.same.seq h), by rw [List.length_map]; exact Post.now p R _ (.int _)⟩
  | [.lst xs] =>
    refine ⟨_, call_len_seq, fun F π H E vs Q R r p => ?_⟩
    cases r with
    | cons r rs =>
      cases rs
      cases r with
      | lst h q => exact ⟨_, _, rfl, .inl (SqL.of (R.same _ _ h)), by rw [← q.length]; exact Post.now p R _ (.int _)⟩
  | [.tup xs] =>
    refine ⟨_, call_len_seq, fun F π H E vs Q R r p => ?_⟩
    cases r with
    | cons r rs =>
      cases rs
      cases r with
      | tup h q => exact ⟨_, _, rfl, .inr (Same.sqt R.same h), by rw [← q.length]; exact Post.now p R _ (.int _)⟩
  | [.ref i] =>
    cases hm : M[i]? with
    | none => exact ⟨_, call_len_seq, DoesC.bad (by show lenD M (.ref i) = _; unfold lenD; simp only [hm])⟩
    | some mo =>
      cases mo with
      | lst xs =>
        refine ⟨_, call_len_seq, fun F π H E vs Q R r p => ?_⟩
        have p : Post X.K F π H E (kD X.K Q) (lenD M (.ref i)) := p
        unfold lenD at p
        simp only [hm] at p
        cases r with
        | cons r rs =>
          cases rs
          cases r with
          | @ref a _ h =>
            have q := R.get hm h
            generalize ho : H a = o at q
            cases q with
            | lst q => exact ⟨_, _, rfl, .inl (SqL.of ho), by rw [← q.length]; exact Post.now p R _ (.int _)⟩
      | dct kvs =>
        refine ⟨_, call_lenD, fun F π H E vs Q R r p => ?_⟩
        have p : Post X.K F π H E (kD X.K Q) (lenD M (.ref i)) := p
        unfold lenD at p
        simp only [hm] at p
        cases r with
        | cons r rs =>
          cases rs
          cases r with
          | @ref a _ h =>
            have q := R.get hm h
            generalize ho : H a = o at q
            cases q with
            | @dct _ us hk hr =>
              have hl : kvs.length = us.length := by
                have := congrArg List.length hk
                simpa using this
              exact ⟨_, _, rfl, ho, by rw [← hl]; exact Post.now p R _ (.int _)⟩
      | ins _ _ _ => exact ⟨_, call_len_seq, DoesC.bad (by show lenD M (.ref i) = _; unfold lenD; simp only [hm])⟩
      | gone => exact ⟨_, call_len_seq, DoesC.bad (by show lenD M (.ref i) = _; unfold lenD; simp only [hm])⟩
  | [.non] | [.bl _] | [.int _] | [.ty _] | [.obj _ _ _] => exact ⟨_, call_len_seq, DoesC.bad rfl⟩
theorem insI_perm (x : Int) : ∀ l : List Int, (insI x l).Perm (x :: l)
  | [] => .refl _
  | y :: r => by
    unfold insI
    split
    · exact .refl _
    · exact (List.Perm.cons y (insI_perm x r)).trans (.swap x y r)
theorem sortI_perm : ∀ l : List Int, (sortI l).Perm l
  | [] => .refl _
  | x :: r => (insI_perm x (sortI r)).trans (List.Perm.cons x (sortI_perm r))
theorem insI_sorted (x : Int) : ∀ l : List Int, l.Pairwise (· ≤ ·) → (insI x l).Pairwise (· ≤ ·)
  | [], _ => by
    unfold insI
    exact List.pairwise_singleton _ _
  | y :: r, h => by
    have h' := List.pairwise_cons.mp h
    unfold insI
    split
    · rename_i hxy
      refine List.pairwise_cons.mpr ⟨fun z hz => ?_, h⟩
      rcases List.mem_cons.mp hz with rfl | hz
      · exact hxy
      · have := h'.1 z hz
        omega
    · rename_i hxy
      refine List.pairwise_cons.mpr ⟨fun z hz => ?_, insI_sorted x r h'.2⟩
      rcases List.mem_cons.mp ((insI_perm x r).mem_iff.mp hz) with rfl | hz
      · omega
      · exact h'.1 z hz
theorem sortI_sorted : ∀ l : List Int, (sortI l).Pairwise (· ≤ ·)
  | [] => .nil
  | x :: r => insI_sorted x _ (sortI_sorted r)
theorem blt_ok (hc : X.calm = true) (f : Bn) (ds : List D) (M : Mem) : (∃ n, f.val = .builtin n ∧ ∃ r, CallR X (.builtin n) r ∧ DoesC X (fun ds M => bltD M f ds) ds M r) ∨ (∃ n, f.val = .type n ∧ ∃ r, CallR X (.type n) r ∧ DoesC X (fun ds M => bltD M f ds) ds M r) := by
  cases f with
  | len => exact .inl ⟨_, rfl, len_ok ds M⟩
  | abs =>
    refine .inl ⟨_, rfl, _, call_abs, ?_⟩
    match ds with
    | [.int i] =>
      intro F π H E vs Q R r p
      cases r with
      | cons r rs => cases r; cases rs; exact ⟨i, rfl, Post.now p R _ (.int _)⟩
    | [] | [.str _] | [.tup _] | [.lst _] | [.ref _] | [.non] | [.bl _] | [.ty _] | [.scr _] | [.obj _ _ _] => exact DoesC.bad rfl
    | a :: _ :: _ => exact DoesC.bad (by cases a <;> rfl)
  | int =>
    match ds with
    | [.int i] =>
      refine .inr ⟨_, rfl, _, call_int1, fun F π H E vs Q R r p => ?_⟩
      cases r with
      | cons r rs => cases r; cases rs; exact .inl ⟨i, rfl, Post.now p R _ (.int _)⟩
    | [.bl b] =>
      refine .inr ⟨_, rfl, _, call_int1, fun F π H E vs Q R r p => ?_⟩
      cases r with
      | cons r rs => cases r; cases rs; exact .inr ⟨b, rfl, Post.now p R _ (.int _)⟩
    | [.str x] =>
      refine .inr ⟨_, rfl, _, call_int_str, fun F π H E vs Q R r p => ?_⟩
      cases r with
      | cons r rs =>
        cases r; cases rs
        obtain ⟨hz, p⟩ := Post.ite p
        obtain ⟨n, e, p⟩ := Post.opt p
        exact ⟨x, n, rfl, e, hz, p.now R _ (.int _)⟩
    | [] | [.tup _] | [.lst _] | [.ref _] | [.non] | [.ty _] | [.scr _] | [.obj _ _ _] => exact .inr ⟨_, rfl, _, call_int1, DoesC.bad rfl⟩
    | a :: _ :: _ => exact .inr ⟨_, rfl, _, call_int1, DoesC.bad (by cases a <;> rfl)⟩
  | str =>
    refine .inr ⟨_, rfl, _, call_str_int, ?_⟩
    match ds with
    | [.int i] =>
      intro F π H E vs Q R r p
      cases r with
      | cons r rs =>
        cases r; cases rs
        obtain ⟨hz, p⟩ := Post.ite p
        exact ⟨i, rfl, hz, p.now R _ (.str _)⟩
    | [] | [.str _] | [.tup _] | [.lst _] | [.ref _] | [.non] | [.bl _] | [.ty _] | [.scr _] | [.obj _ _ _] => exact DoesC.bad rfl
    | a :: _ :: _ => exact DoesC.bad (by cases a <;> rfl)
  | list m =>
    refine .inr ⟨_, rfl, _, call_list_of, ?_⟩
    have hl : ∀ d, bltD M (.list m) [d] = (opt (seqOf M d) fun p => mkL m p.2 M) → DoesC X (fun ds M => bltD M (.list m) ds) [d] M (fun xs H Q => ∃ p ys, xs = [.ref p] ∧ (SqL X.K H p ys ∨ SqT X.K H p ys) ∧ ∀ l, H l = none → Q (.ref l) (upd H l (.lst ys))) := fun d h F π H E vs Q R r p => by
      have p : Post X.K F π H E (kD X.K Q) (bltD M (.list m) [d]) := p
      rw [h] at p
      obtain ⟨⟨b, xs⟩, e, p⟩ := p.opt
      cases r with
      | cons r rs =>
        cases rs
        obtain ⟨a, vs, rfl, q, hq⟩ := seq_of e R r
        exact ⟨a, vs, rfl, hq.or, fun l hl => mkL_new p R q hl⟩
    match ds with
    | [.scr ns] =>
      intro F π H E vs Q R r p
      cases r with
      | cons r rs =>
        cases rs
        cases r with
        | scr h => exact ⟨_, _, rfl, .inl (R.same.seq h), fun l hl => mkL_new p R (RelDs.ints _) hl⟩
    | [] => exact DoesC.bad rfl
    | a :: _ :: _ => exact DoesC.bad (by cases a <;> rfl)
    | [.int i] => exact hl _ rfl
    | [.str i] => exact hl _ rfl
    | [.tup i] => exact hl _ rfl
    | [.lst i] => exact hl _ rfl
    | [.ref i] => exact hl _ rfl
    | [.non] => exact hl _ rfl
    | [.bl i] => exact hl _ rfl
    | [.ty i] => exact hl _ rfl
    | [.obj i j k] => exact hl _ rfl
  | tuple =>
    refine .inr ⟨_, rfl, _, call_tuple_of, ?_⟩
    match ds with
    | [] => exact DoesC.bad rfl
    | a :: _ :: _ => exact DoesC.bad (by cases a <;> rfl)
    | [d] =>
      intro F π H E vs Q R r p
      obtain ⟨⟨b, xs⟩, e, p⟩ := Post.opt p
      cases r with
      | cons r rs =>
        cases rs
        obtain ⟨a, vs, rfl, q, hq⟩ := seq_of e R r
        cases b with
        | true => exact ⟨a, vs, rfl, .inl ⟨hq, fun l hl => tup_new p R q hl⟩⟩
        | false =>
          refine ⟨a, vs, rfl, .inr ⟨hq, ?_⟩⟩
          have e2 : d = .tup xs := by
            cases d with
            | tup ys => cases e; rfl
            | lst ys => cases e
            | ref i =>
              unfold seqOf at e
              dsimp only at e
              split at e <;> cases e
            | _ => cases e
          subst e2
          exact Post.now p R _ r
  | max =>
    refine .inl ⟨_, rfl, _, call_max2 hc, ?_⟩
    match ds with
    | [.int i, .int j] =>
      intro F π H E vs Q R r p
      cases r with
      | cons r rs =>
        cases rs with
        | cons r2 rs => cases r; cases r2; cases rs; exact ⟨i, j, rfl, Post.now p R _ (.int _)⟩
    | [] => exact DoesC.bad rfl
    | [a] => exact DoesC.bad (by cases a <;> rfl)
    | [.int _, .str _] | [.int _, .tup _] | [.int _, .lst _] | [.int _, .ref _] | [.int _, .non] | [.int _, .bl _] | [.int _, .ty _] | [.int _, .scr _] | [.int _, .obj _ _ _] => exact DoesC.bad rfl
    | [.str _, _] | [.tup _, _] | [.lst _, _] | [.ref _, _] | [.non, _] | [.bl _, _] | [.ty _, _] | [.scr _, _] | [.obj _ _ _, _] => exact DoesC.bad rfl
    | a :: b :: _ :: _ => exact DoesC.bad (by cases a <;> first | rfl | (cases b <;> rfl))
  | min =>
    refine .inl ⟨_, rfl, _, call_min2 hc, ?_⟩
    match ds with
    | [.int i, .int j] =>
      intro F π H E vs Q R r p
      cases r with
      | cons r rs =>
        cases rs with
        | cons r2 rs => cases r; cases r2; cases rs; exact ⟨i, j, rfl, Post.now p R _ (.int _)⟩
    | [] => exact DoesC.bad rfl
    | [a] => exact DoesC.bad (by cases a <;> rfl)
    | [.int _, .str _] | [.int _, .tup _] | [.int _, .lst _] | [.int _, .ref _] | [.int _, .non] | [.int _, .bl _] | [.int _, .ty _] | [.int _, .scr _] | [.int _, .obj _ _ _] => exact DoesC.bad rfl
    | [.str _, _] | [.tup _, _] | [.lst _, _] | [.ref _, _] | [.non, _] | [.bl _, _] | [.ty _, _] | [.scr _, _] | [.obj _ _ _, _] => exact DoesC.bad rfl
    | a :: b :: _ :: _ => exact DoesC.bad (by cases a <;> first | rfl | (cases b <;> rfl))
  | sum =>
    refine .inl ⟨_, rfl, _, cr_sum hc, ?_⟩
    match ds with
    | [] => exact DoesC.bad rfl
    | a :: _ :: _ => exact DoesC.bad (by cases a <;> rfl)
    | [d] =>
      intro F π H E vs Q R r p
      obtain ⟨xs, e, p⟩ := Post.opt p
      obtain ⟨ns, e2, p⟩ := Post.opt p
      cases r with
      | cons r rs =>
        cases rs
        obtain ⟨a, vs, rfl, q, hq⟩ := lst_of e R r
        obtain ⟨h1, h2⟩ := intsD_of e2 q
        subst h1
        exact ⟨a, ns, rfl, SqL.of hq, p.now R _ (.int _)⟩
  | sorted m =>
    refine .inl ⟨_, rfl, _, cr_sortedI, ?_⟩
    match ds with
    | [] => exact DoesC.bad rfl
    | a :: _ :: _ => exact DoesC.bad (by cases a <;> rfl)
    | [d] =>
      intro F π H E vs Q R r p
      obtain ⟨xs, e, p⟩ := Post.opt p
      obtain ⟨ns, e2, p⟩ := Post.opt p
      cases r with
      | cons r rs =>
        cases rs
        obtain ⟨a, vs, rfl, q, hq⟩ := lst_of e R r
        obtain ⟨h1, h2⟩ := intsD_of e2 q
        subst h1
        refine ⟨a, ns, rfl, SqL.of hq, fun ns' l pm so hl => ?_⟩
        have en : ns' = sortI ns := List.Perm.eq_of_pairwise (le := fun a b : Int => a ≤ b) (fun a b _ _ h1 h2 => by omega) so (sortI_sorted ns) (pm.trans (sortI_perm ns).symm)
        subst en
        exact mkL_new p R (.ints _) hl
  | divmod => exact .inl ⟨_, rfl, _, call_divmod, DoesC.bad (by cases ds <;> rfl)⟩
/-! ### methods -/
theorem strsD_of {K : PySem.W.Frag} {F : Hp} {π : List Addr} : ∀ {xs : List D} {vs : List V} {zs : List Str}, strsD xs = some zs → RelDs K F π xs vs → vs = zs.map V.str
  | [], _, _, e, .nil => by cases e; rfl
  | .str x :: r, _, zs, e, .cons rx q => by
    obtain ⟨ys, e1, rfl⟩ := Option.map_eq_some_iff.mp (show (strsD r).map (x :: ·) = some zs from e)
    cases rx
    rw [strsD_of e1 q]
    rfl
  | .int _ :: _, _, _, e, _ => by cases e
  | .non :: _, _, _, e, _ => by cases e
  | .bl _ :: _, _, _, e, _ => by cases e
  | .ty _ :: _, _, _, e, _ => by cases e
  | .lst _ :: _, _, _, e, _ => by cases e
  | .tup _ :: _, _, _, e, _ => by cases e
  | .scr _ :: _, _, _, e, _ => by cases e
  | .obj _ _ _ :: _, _, _, e, _ => by cases e
  | .ref _ :: _, _, _, e, _ => by cases e
theorem RelDs.strs {K : PySem.W.Frag} {F : Hp} {π : List Addr} : ∀ zs : List Str, RelDs K F π (zs.map D.str) (zs.map V.str)
  | [] => .nil
  | z :: r => .cons (.str z) (RelDs.strs r)
def DoesM (X : Cx) (f : Mn) (x : D) (ds : List D) (M : Mem) (r : V → List V → Hp → VK → Prop) : Prop := ∀ (F : Hp) (π : List Addr) (H : Hp) (E : XK) (v : V) (vs : List V) (Q : VK), Rep X.K F π M H → RelD X.K F π x v → RelDs X.K F π ds vs → Post X.K F π H E (kD X.K Q) (methD M f x ds) → r v vs H Q
theorem DoesM.bad {f : Mn} {x : D} {ds : List D} {M : Mem} {r : V → List V → Hp → VK → Prop} (h : methD M f x ds = .bad) : DoesM X f x ds M r := fun F π H E v vs Q _ _ _ p => by
  rw [h] at p
  exact p.elim
/-- the list at x is changed -/
theorem updL_of {K : PySem.W.Frag} {F H : Hp} {π : List Addr} {M : Mem} {E : XK} {Q : VK} {x : D} {v : V} {f : List D → Option (List D × D)} (p : Post K F π H E (kD K Q) (updL M x f)) (R : Rep K F π M H) (r : RelD K F π x v) :
    ∃ a xs vs ys d, v = .ref a ∧ H a = some (.lst vs) ∧ RelDs K F π xs vs ∧ f xs = some (ys, d) ∧ ∀ us w, RelDs K F π ys us → RelD K F π d w → Q w (upd H a (.lst us)) := by
  cases r with
  | @ref a i h =>
    unfold updL at p
    dsimp only at p
    split at p
    · rename_i xs hm
      obtain ⟨⟨ys, d⟩, e, p⟩ := p.opt
      have q := R.get hm h
      generalize ho : H a = o at q
      cases q with
      | @lst _ vs q =>
        refine ⟨a, xs, vs, ys, d, rfl, ho, q, e, fun us w ru rw' => ?_⟩
        obtain ⟨R1, x1⟩ := R.put (i := i) (a := a) (o := .lst us) (m := .lst ys) h (.lst ru)
        exact p _ _ _ x1 R1 _ (rw'.ext x1)
    · exact p.elim
  | _ => exact p.elim
def Mn.ty : Mn → String
  | .join | .split _ | .startswith => "str"
  | .get1 | .get2 => "dict"
  | _ => "list"
def Mn.name : Mn → Str
  | .append => "append" | .pop => "pop" | .popAt => "pop" | .clear => "clear" | .extend => "extend" | .reverse => "reverse" | .insert => "insert" | .index => "index" | .count => "count" | .join => "join" | .split _ => "split" | .startswith => "startswith" | .get1 => "get" | .get2 => "get"
theorem tyD_of {K : PySem.W.Frag} {F H : Hp} {π : List Addr} {M : Mem} {f : Mn} {x : D} {v : V} (h : tyD M f x = true) (R : Rep K F π M H) (r : RelD K F π x v) : tyV K f.ty v H := by
  have hl : ∀ {d : D} {v : V}, (lstOf M d).isSome = true → RelD K F π d v → tyV K "list" v H := fun {d v} h r => by
    obtain ⟨xs, e⟩ := Option.isSome_iff_exists.mp h
    obtain ⟨a, vs, rfl, q, ha⟩ := lst_of e R r
    exact .inl ⟨rfl, _, SqL.of ha⟩
  cases f <;> first
    | exact hl h r
    | (cases r <;> first | rfl | cases h)
    | cases h
/-- what the library has of the method -/
structure MnOk (X : Cx) (f : Mn) (x : D) (ds : List D) (M : Mem) : Prop where
  ex : ∃ id r, PlainAttrs f.ty ∧ Slot f.ty f.name id ∧ typeOf (.builtin id) = pure (.type "method_descriptor") ∧ MtR X id r ∧ DoesM X f x ds M r
theorem meth_ok (f : Mn) (x : D) (ds : List D) (M : Mem) (hf : (match f with | .append | .pop | .popAt | .insert | .clear | .extend | .reverse | .startswith | .join | .split _ => true | _ => false) = true) : MnOk X f x ds M := by
  cases f with
  | append =>
    refine ⟨_, _, PySem.F.plainAttrs_list, PySem.F.slot_list_append, PySem.F.type_list_append, mt_append, ?_⟩
    match ds with
    | [] | _ :: _ :: _ => exact DoesM.bad (by cases x <;> rfl)
    | [d] =>
      intro F π H E v vs Q R r rs p
      cases rs with
      | cons rd rs =>
        cases rs
        obtain ⟨a, xs, vs, ys, d', rfl, ha, q, e, fin⟩ := updL_of p R r
        by_cases hz : xs.length < sizeLine
        · rw [if_pos hz] at e
          cases e
          exact ⟨a, vs, _, rfl, rfl, ha, by rw [← q.length]; exact hz, fin _ _ (q.append (.cons rd .nil)) .non⟩
        · rw [if_neg hz] at e
          cases e
  | pop =>
    refine ⟨_, _, PySem.F.plainAttrs_list, PySem.F.slot_list_pop, PySem.F.type_list_pop, mt_pop, ?_⟩
    match ds with
    | _ :: _ => exact DoesM.bad (by cases x <;> rfl)
    | [] =>
      intro F π H E v vs Q R r rs p
      cases rs
      obtain ⟨a, xs, vs, ys, d', rfl, ha, q, e, fin⟩ := updL_of p R r
      cases hy : xs[xs.length - 1]? with
      | none => rw [hy] at e; cases e
      | some y =>
        rw [hy] at e
        cases e
        obtain ⟨w, h1, h2⟩ := q.get hy
        exact ⟨a, vs, w, rfl, rfl, ha, by rw [← q.length]; exact h1, fin _ _ q.dropLast h2⟩
  | popAt =>
    refine ⟨_, _, PySem.F.plainAttrs_list, PySem.F.slot_list_pop, PySem.F.type_list_pop, mt_popAt, ?_⟩
    match ds with
    | [] => exact DoesM.bad (by cases x <;> rfl)
    | [.int i] =>
      intro F π H E v vs Q R r rs p
      cases rs with
      | cons rd rs =>
        cases rd; cases rs
        obtain ⟨a, xs, vs, ys, d', rfl, ha, q, e, fin⟩ := updL_of p R r
        split at e
        · rename_i hi
          cases hk : seqIndex? i xs.length with
          | none => rw [hk] at e; cases e
          | some k =>
            rw [hk] at e
            have e : (xs[k]?).map (fun y => (xs.eraseIdx k, y)) = some (ys, d') := e
            cases hy : xs[k]? with
            | none => rw [hy] at e; cases e
            | some y =>
              rw [hy] at e
              cases e
              obtain ⟨w, h1, h2⟩ := q.get hy
              exact ⟨a, vs, i, k, w, rfl, rfl, ha, hi.1, hi.2, by rw [← q.length]; exact hk, h1, fin _ _ (q.eraseIdx k) h2⟩
        · cases e
    | [.str _] | [.tup _] | [.lst _] | [.ref _] | [.non] | [.bl _] | [.ty _] | [.scr _] | [.obj _ _ _] => exact DoesM.bad (by cases x <;> rfl)
    | d :: _ :: _ => exact DoesM.bad (by cases d <;> cases x <;> rfl)
  | insert =>
    refine ⟨_, _, PySem.F.plainAttrs_list, PySem.F.slot_list_insert, PySem.F.type_list_insert, mt_insert, ?_⟩
    match ds with
    | [] => exact DoesM.bad (by cases x <;> rfl)
    | [d] => exact DoesM.bad (by cases d <;> cases x <;> rfl)
    | d :: _ :: _ :: _ => exact DoesM.bad (by cases d <;> cases x <;> rfl)
    | [.int i, d] =>
      intro F π H E v vs Q R r rs p
      cases rs with
      | cons rd rs =>
        cases rd
        cases rs with
        | cons r2 rs =>
          cases rs
          obtain ⟨a, xs, vs, ys, d', rfl, ha, q, e, fin⟩ := updL_of p R r
          split at e
          · rename_i hi
            cases e
            exact ⟨a, vs, i, _, rfl, rfl, ha, by rw [← q.length]; exact hi.1, hi.2.1, hi.2.2, fin _ _ (((q.take i.toNat).append (.cons r2 .nil)).append (q.drop i.toNat)) .non⟩
          · cases e
    | [.str _, _] | [.tup _, _] | [.lst _, _] | [.ref _, _] | [.non, _] | [.bl _, _] | [.ty _, _] | [.scr _, _] | [.obj _ _ _, _] => exact DoesM.bad (by cases x <;> rfl)
  | clear =>
    refine ⟨_, _, PySem.F.plainAttrs_list, PySem.F.slot_list_clear, PySem.F.type_list_clear, mt_clear, ?_⟩
    match ds with
    | _ :: _ => exact DoesM.bad (by cases x <;> rfl)
    | [] =>
      intro F π H E v vs Q R r rs p
      cases rs
      obtain ⟨a, xs, vs, ys, d', rfl, ha, q, e, fin⟩ := updL_of p R r
      cases e
      exact ⟨a, vs, rfl, rfl, ha, fin _ _ .nil .non⟩
  | reverse =>
    refine ⟨_, _, PySem.F.plainAttrs_list, PySem.F.slot_list_reverse, PySem.F.type_list_reverse, mt_reverse, ?_⟩
    match ds with
    | _ :: _ => exact DoesM.bad (by cases x <;> rfl)
    | [] =>
      intro F π H E v vs Q R r rs p
      cases rs
      obtain ⟨a, xs, vs, ys, d', rfl, ha, q, e, fin⟩ := updL_of p R r
      cases e
      exact ⟨a, vs, rfl, rfl, ha, fin _ _ q.reverse .non⟩
  | extend =>
    refine ⟨_, _, PySem.F.plainAttrs_list, PySem.F.slot_list_extend, PySem.F.type_list_extend, mt_extend, ?_⟩
    match ds with
    | [] | _ :: _ :: _ => exact DoesM.bad (by cases x <;> rfl)
    | [d] =>
      intro F π H E v vs Q R r rs p
      cases rs with
      | cons rd rs =>
        cases rs
        obtain ⟨zs, ez, p⟩ := Post.opt p
        obtain ⟨b, ws, rfl, qz, hb⟩ := lst_of ez R rd
        obtain ⟨a, xs, vs, ys, d', rfl, ha, q, e, fin⟩ := updL_of p R r
        by_cases hz : xs.length + zs.length ≤ sizeLine
        · rw [if_pos hz] at e
          cases e
          exact ⟨a, b, vs, ws, rfl, rfl, ha, hb, by rw [← q.length, ← qz.length]; exact hz, fin _ _ (q.append qz) .non⟩
        · rw [if_neg hz] at e
          cases e
  | startswith =>
    refine ⟨_, _, PySem.F.plainAttrs_str, PySem.F.slot_str_startswith, PySem.F.type_str_startswith, mt_startswith, ?_⟩
    match x, ds with
    | .str z, [.str y] =>
      intro F π H E v vs Q R r rs p
      cases r
      cases rs with
      | cons rd rs => cases rd; cases rs; exact ⟨z, y, rfl, rfl, Post.now p R _ (.bl _)⟩
    | .str z, [] => exact DoesM.bad rfl
    | .str z, [.int _] | .str z, [.tup _] | .str z, [.lst _] | .str z, [.ref _] | .str z, [.non] | .str z, [.bl _] | .str z, [.ty _] | .str z, [.scr _] | .str z, [.obj _ _ _] => exact DoesM.bad rfl
    | .str z, d :: _ :: _ => exact DoesM.bad (by cases d <;> rfl)
    | .int _, ds | .tup _, ds | .lst _, ds | .ref _, ds | .non, ds | .bl _, ds | .ty _, ds | .scr _, ds | .obj _ _ _, ds => exact DoesM.bad rfl
  | join =>
    refine ⟨_, _, PySem.F.plainAttrs_str, PySem.F.slot_str_join, PySem.F.type_str_join, mt_join, ?_⟩
    match x, ds with
    | .str z, [d] =>
      intro F π H E v vs Q R r rs p
      cases r
      cases rs with
      | cons rd rs =>
        cases rs
        obtain ⟨⟨b, xs⟩, e, p⟩ := Post.opt p
        obtain ⟨zs, e2, p⟩ := Post.opt p
        obtain ⟨a, ws, rfl, q, hs⟩ := seq_of e R rd
        obtain rfl := strsD_of e2 q
        obtain ⟨hz, p⟩ := p.ite
        refine ⟨z, a, zs, rfl, rfl, ?_, hz, p.now R _ (.str _)⟩
        cases b with
        | true => exact .inl hs
        | false => exact .inr hs
    | .str z, [] => exact DoesM.bad rfl
    | .str z, d :: _ :: _ => exact DoesM.bad (by cases d <;> rfl)
    | .int _, ds | .tup _, ds | .lst _, ds | .ref _, ds | .non, ds | .bl _, ds | .ty _, ds | .scr _, ds | .obj _ _ _, ds => exact DoesM.bad rfl
  | split m =>
    refine ⟨_, _, PySem.F.plainAttrs_str, PySem.F.slot_str_split, PySem.F.type_str_split, mt_split, ?_⟩
    match x, ds with
    | .str z, [.str y] =>
      intro F π H E v vs Q R r rs p
      cases r
      cases rs with
      | cons rd rs =>
        cases rd; cases rs
        obtain ⟨hz, p⟩ := Post.ite p
        refine ⟨z, y, rfl, rfl, hz.1, hz.2, fun l hl => ?_⟩
        exact mkL_new p R (RelDs.strs _) hl
    | .str z, [] => exact DoesM.bad rfl
    | .str z, [.int _] | .str z, [.tup _] | .str z, [.lst _] | .str z, [.ref _] | .str z, [.non] | .str z, [.bl _] | .str z, [.ty _] | .str z, [.scr _] | .str z, [.obj _ _ _] => exact DoesM.bad rfl
    | .str z, d :: _ :: _ => exact DoesM.bad (by cases d <;> rfl)
    | .int _, ds | .tup _, ds | .lst _, ds | .ref _, ds | .non, ds | .bl _, ds | .ty _, ds | .scr _, ds | .obj _ _ _, ds => exact DoesM.bad rfl
  | _ => cases hf
end
end MP

/-! Expressions: the reading of a whole by its parts. -/
namespace MP
open PySem PySem.Spec PyProof.Rows L2 EV
open He (ga)

def Sx (X : Cx) (e : Expr) (ev : Rho → Mem → Rs D) : Prop := ∀ W, Takes X W → ∀ ρ M, PE X e (TD X.K (ev ρ M) ρ M W)
def Sa (X : Cx) (es : List Expr) (ev : Rho → Mem → Rs (List D)) : Prop := ∀ W, Takes X W → ∀ ρ M, PA X es (TDs X.K (ev ρ M) ρ M W)
def Sb (X : Cx) (e : Expr) (ev : Rho → Mem → Rs Bool) : Prop := ∀ W, Takes X W → ∀ ρ M, PT X e (TB X.K (ev ρ M) ρ M W)
def Sw (X : Cx) (e : Expr) (ev : Rho → Mem → Rs Bool) : Prop := ∀ W, Takes X W → ∀ ρ M, PW X e (TB X.K (ev ρ M) ρ M W)
def So (X : Cx) (e : Option Expr) (ev : Rho → Mem → Rs (Option Int)) : Prop := ∀ W, Takes X W → ∀ ρ M, PO X e (TOo X.K (ev ρ M) ρ M W)
theorem _root_.L2.PW.mono {X : Cx} {e : Expr} {t t' : TT} (h : PW X e t) (i : ∀ σ H Q, t' σ H Q → t σ H Q) : PW X e t' := ⟨fun w pins s σ H Q I q => h.run w pins s σ H Q I (i σ H Q q)⟩

/-- an untyped result's value -/
def Rs.val (r : Rs D) : D := match r with
  | .ok d _ => d
  | _ => .non
section
variable {X : Cx} {e a b c : Expr} {ea eb ec : Rho → Mem → Rs D}
/-- the evaluator's own words at a result -/
theorem s_pure {d : D} {v : V} (h : PE X e (tC v)) (r : ∀ F π, RelD X.K F π d v) : Sx X e (fun _ M => .ok d M) := fun W _ ρ M => h.mono fun σ H Q ⟨F, π, R, en, p⟩ => p.now R v (r F π)
theorem s_var {i : Nat} (h : PE X e (tVar i)) : Sx X e (fun r M => opt (get r i) fun d => .ok d M) := fun W _ ρ M => h.mono fun σ H Q ⟨F, π, R, en, p⟩ => by
  obtain ⟨d, e, p⟩ := p.opt
  unfold get at e
  split at e
  · rename_i d' hd
    cases e
    obtain ⟨v, h1, h2⟩ := en.2 i d hd
    exact ⟨v, h1, p.now R v h2⟩
  · cases e
/-- two values, then a rule that fits them; J: as a value, as a test -/
theorem s_twoJ {P : R2 → Prop} {J : TE → Prop} {f : D → D → Mem → Rs D} (Jm : ∀ t t', J t → (∀ σ H Q, t' σ H Q → t σ H Q) → J t') (ha : Sx X a ea) (hb : Sx X b eb) (mk : ∀ r ta tb, P r → PE X a ta → PE X b tb → J (tOp r ta tb))
    (hf : ∀ d1 d2 M, ∃ r, P r ∧ Does2 X f d1 d2 M r) : ∀ W, Takes X W → ∀ ρ M, J (TD X.K ((ea ρ M).bind fun x M => (eb ρ M).bind fun y M => f x y M) ρ M W) := fun W tk ρ M => by
  obtain ⟨r, pr, hr⟩ := hf (ea ρ M).val (eb ρ ((ea ρ M).mem M)).val ((eb ρ ((ea ρ M).mem M)).mem ((ea ρ M).mem M))
  refine Jm _ _ (mk r _ _ pr (ha W tk ρ M) (hb W tk ρ ((ea ρ M).mem M))) fun σ H Q ⟨F, π, R, en, p⟩ => ?_
  refine TD.then R en p fun d M1 F1 π1 H1 v er x1 R1 en1 rv p1 => ?_
  rw [er] at hr ⊢
  refine TD.then R1 en1 p1 fun d2 M2 F2 π2 H2 v2 er2 x2 R2 en2 rv2 p2 => ?_
  have hr : Does2 X f d (eb ρ M1).val ((eb ρ M1).mem M1) r := hr
  rw [er2] at hr
  exact hr F2 π2 H2 _ v v2 Q R2 (rv.ext x2) rv2 p2
theorem s_two {P : R2 → Prop} {f : D → D → Mem → Rs D} (ha : Sx X a ea) (hb : Sx X b eb) (mk : ∀ r ta tb, P r → PE X a ta → PE X b tb → PE X e (tOp r ta tb))
    (hf : ∀ d1 d2 M, ∃ r, P r ∧ Does2 X f d1 d2 M r) : Sx X e (fun r M => (ea r M).bind fun x M => (eb r M).bind fun y M => f x y M) :=
  s_twoJ (J := PE X e) (fun t t' h i => h.mono i) ha hb mk hf
/-- as a test -/
abbrev Jt (X : Cx) (e : Expr) : TE → Prop := fun t => PT X e (tB t)
theorem Jt.mono {X : Cx} {e : Expr} (t t' : TE) (h : Jt X e t) (i : ∀ σ H Q, t' σ H Q → t σ H Q) : Jt X e t' := PT.mono h fun σ H Q q => i σ H _ q
theorem sb_of {ev : Rho → Mem → Rs D} (h : ∀ W, Takes X W → ∀ ρ M, Jt X e (TD X.K (ev ρ M) ρ M W)) : Sb X e (fun r M => (ev r M).bind fun x M => match x with
    | .bl b => .ok b M
    | _ => .bad) := fun W tk ρ M => PT.mono (h W tk ρ M) fun σ H Q ⟨F, π, R, en, p⟩ => by
  refine TD.then R en p fun d M1 F1 π1 H1 v er x1 R1 en1 rv p1 => ?_
  cases d with
  | bl b =>
    cases rv
    exact ⟨b, rfl, p1.now R1⟩
  | _ => exact p1.elim
/-- one value, then a rule -/
theorem s_one {P : (V → Hp → VK → Prop) → Prop} {f : D → Mem → Rs D} (ha : Sx X a ea) (mk : ∀ r ta, P r → PE X a ta → PE X e (fun σ H Q => ta σ H fun v H1 => r v H1 Q))
    (hf : ∀ d M, ∃ r, P r ∧ ∀ F π H E v Q, Rep X.K F π M H → RelD X.K F π d v → Post X.K F π H E (kD X.K Q) (f d M) → r v H Q) : Sx X e (fun r M => (ea r M).bind f) := fun W tk ρ M => by
  obtain ⟨r, pr, hr⟩ := hf (ea ρ M).val ((ea ρ M).mem M)
  refine (mk r _ pr (ha W tk ρ M)).mono fun σ H Q ⟨F, π, R, en, p⟩ => ?_
  refine TD.then R en p fun d M1 F1 π1 H1 v er x1 R1 en1 rv p1 => ?_
  rw [er] at hr
  exact hr F1 π1 H1 _ v Q R1 rv p1
theorem s_bin {m : Bool} {o : BO} {pos : Pos} (ha : Sx X a ea) (hb : Sx X b eb) : Sx X (.BinOp a o.py b pos) (fun r M => (ea r M).bind fun x M => (eb r M).bind fun y M => binD m o x y M) :=
  s_two ha hb (fun r ta tb pr h1 h2 => pe_op pr h1 h2) (bin_ok m o)
theorem s_neg {pos : Pos} (ha : Sx X a ea) : Sx X (.UnaryOp .USub a pos) (fun r M => (ea r M).bind negD) :=
  s_one (P := fun r => UnR X (unaryOp .USub) r) ha (fun r ta pr h => pe_un pr h) fun d M => ⟨_, un_neg, fun F π H E v Q R r p => by
    cases d with
    | int i =>
      cases r
      exact ⟨i, rfl, Post.now p R _ (.int _)⟩
    | _ => exact p.elim⟩
theorem s_not {pos : Pos} (ha : Sx X a ea) : Sx X (.UnaryOp .Not a pos) (fun r M => (ea r M).bind notD) :=
  s_one (P := fun r => r = fun x H Q => ∃ c, x = V.bl c ∧ Q (.bl (!c)) H) ha (fun r ta pr h => by subst pr; exact pe_not h) fun d M => ⟨_, rfl, fun F π H E v Q R r p => by
    cases d with
    | bl i =>
      cases r
      exact ⟨i, rfl, Post.now p R _ (.bl _)⟩
    | _ => exact p.elim⟩
theorem s_ix {pos : Pos} (hu : X.A.units + 65 < cLine) (ha : Sx X a ea) (hb : Sx X b eb) (hs : PlainIx b) : Sx X (.Subscript a b pos) (fun r M => (ea r M).bind fun x M => (eb r M).bind fun y M => ixD M x y) := by
  refine s_two (P := fun r => r = rIx X.K ∨ r = fun x y H2 Q => ∃ a v, x = .ref a ∧ DGet H2 a y (some v) ∧ Q v H2) (f := fun x y M => ixD M x y) ha hb (fun r ta tb pr h1 h2 => ?_) fun d1 d2 M => ?_
  · rcases pr with rfl | rfl
    · exact pe_ix ix_seq h1 h2 hs
    · exact pe_dget (by omega) h1 h2 hs
  · by_cases h1 : (seqOf M d1).isSome = true
    · exact ⟨_, .inl rfl, ix_ok d1 d2 M (.inl h1)⟩
    cases d1 with
    | str z => exact ⟨_, .inl rfl, ix_ok _ d2 M (.inr (.inl ⟨z, rfl⟩))⟩
    | lst xs => exact absurd rfl h1
    | tup xs => exact absurd rfl h1
    | ref i =>
      refine ⟨_, .inr rfl, fun F π H E v1 v2 Q R r1 r2 p => ?_⟩
      have p : Post X.K F π H E (kD X.K Q) (ixD M (.ref i) d2) := p
      have hn : seqOf M (.ref i) = none := by
        cases q : seqOf M (.ref i) with
        | none => rfl
        | some z => rw [q] at h1; exact absurd rfl h1
      unfold ixD at p
      rw [hn] at p
      dsimp only at p
      split at p
      · rename_i kvs k hm hk
        obtain ⟨d, e, p⟩ := p.opt
        obtain ⟨a, o, rfl, hg, _, hv⟩ := dget_of hm hk R r1 r2
        obtain ⟨y, rfl, ry⟩ := hv d e
        exact ⟨a, y, rfl, hg, p.now R _ ry⟩
      · exact p.elim
    | _ => exact ⟨_, .inl rfl, ix_ok _ d2 M (.inr (.inr rfl))⟩
theorem s_cmpJ {o : CO} {J : TE → Prop} (Jm : ∀ t t', J t → (∀ σ H Q, t' σ H Q → t σ H Q) → J t') (hu : X.A.units + 65 < cLine) (ha : Sx X a ea) (hb : Sx X b eb) (j1 : ∀ r ta tb, OpR X (compareOp o.py) r → PE X a ta → PE X b tb → J (tOp r ta tb)) (j2 : ∀ t, PC X o.py a b t → J t) : ∀ W, Takes X W → ∀ ρ M, J (TD X.K ((ea ρ M).bind fun x M => (eb ρ M).bind fun y M => cmpD o x y M) ρ M W) := by
  refine s_twoJ Jm (P := fun r => OpR X (compareOp o.py) r ∨ (o = .in_ ∧ r = fun y x H2 Q => ∃ a o, x = .ref a ∧ DGet H2 a y o ∧ Q (.bl o.isSome) H2) ∨ (o = .notin ∧ r = fun y x H2 Q => ∃ a o, x = .ref a ∧ DGet H2 a y o ∧ Q (.bl !o.isSome) H2)) ha hb (fun r ta tb pr h1 h2 => ?_) fun d1 d2 M => ?_
  · rcases pr with h | ⟨rfl, rfl⟩ | ⟨rfl, rfl⟩
    · exact j1 _ _ _ h h1 h2
    · exact j2 _ (pc_din (by omega) h1 h2)
    · exact j2 _ (pc_dnotin (by omega) h1 h2)
  · by_cases hs : (o = .in_ ∨ o = .notin) → (seqOf M d2).isSome = true ∨ cmpD o d1 d2 M = .bad
    · obtain ⟨r, h1, h2⟩ := cmp_ok hu o d1 d2 M hs
      exact ⟨r, .inl h1, h2⟩
    · have hs' : (o = .in_ ∨ o = .notin) ∧ ¬ (seqOf M d2).isSome = true := by
        refine ⟨Classical.byContradiction fun h => hs fun z => absurd z h, fun h => hs fun _ => .inl h⟩
      have hn : seqOf M d2 = none := by
        cases q : seqOf M d2 with
        | none => rfl
        | some z => rw [q] at hs'; exact absurd rfl hs'.2
      have key : ∀ {F π H E v1 v2 Q} {k : Bool → D}, Rep X.K F π M H → RelD X.K F π d1 v1 → RelD X.K F π d2 v2 → ∀ {f : Bool → Rs D}, Post X.K F π H E (kD X.K Q) (opt (memD M d1 d2) f) → ∃ a o, v2 = .ref a ∧ DGet H a v1 o ∧ Post X.K F π H E (kD X.K Q) (f o.isSome) := by
        intro F π H E v1 v2 Q _ R r1 r2 f p
        obtain ⟨k, e, p⟩ := p.opt
        unfold memD at e
        rw [hn] at e
        cases d2 with
        | ref i =>
          dsimp only at e
          split at e
          · rename_i kvs kk hm hk
            cases e
            obtain ⟨a, o, rfl, hg, hi, _⟩ := dget_of hm hk R r2 r1
            exact ⟨a, o, rfl, hg, hi ▸ p⟩
          · cases e
        | _ => cases e
      rcases hs'.1 with rfl | rfl
      · refine ⟨_, .inr (.inl ⟨rfl, rfl⟩), fun F π H E v1 v2 Q R r1 r2 p => ?_⟩
        obtain ⟨a, o, rfl, hg, p⟩ := key (k := fun _ => .non) R r1 r2 p
        exact ⟨a, o, rfl, hg, Post.now p R _ (.bl _)⟩
      · refine ⟨_, .inr (.inr ⟨rfl, rfl⟩), fun F π H E v1 v2 Q R r1 r2 p => ?_⟩
        obtain ⟨a, o, rfl, hg, p⟩ := key (k := fun _ => .non) R r1 r2 p
        exact ⟨a, o, rfl, hg, Post.now p R _ (.bl _)⟩
theorem s_cmp {o : CO} {pos : Pos} (hu : X.A.units + 65 < cLine) (ha : Sx X a ea) (hb : Sx X b eb) (hm : behindInMarks o.py b = false) : Sx X (.Compare a [o.py] [b] pos) (fun r M => (ea r M).bind fun x M => (eb r M).bind fun y M => cmpD o x y M) :=
  s_cmpJ (J := PE X (.Compare a [o.py] [b] pos)) (fun t t' h i => h.mono i) hu ha hb (fun r ta tb h h1 h2 => pe_cmpR h h1 h2 hm) fun t h => pe_cmp h hm
theorem s_tcmp {o : CO} {pos : Pos} (hu : X.A.units + 65 < cLine) (ha : Sx X a ea) (hb : Sx X b eb) (hm : behindInMarks o.py b = false) : Sb X (.Compare a [o.py] [b] pos) (fun r M => ((ea r M).bind fun x M => (eb r M).bind fun y M => cmpD o x y M).bind fun x M => match x with
    | .bl b => .ok b M
    | _ => .bad) :=
  sb_of (s_cmpJ (J := Jt X (.Compare a [o.py] [b] pos)) Jt.mono hu ha hb (fun r ta tb h h1 h2 => pt_cmpR h h1 h2 hm) fun t h => pt_cmp h hm)
/-- and, or of truth values -/
theorem s_and {rest : List Expr} {pos : Pos} (ha : Sx X a ea) (hb : Sx X (.BoolOp .And (b :: rest) pos) eb) : Sx X (.BoolOp .And (a :: b :: rest) pos) (fun r M => (ea r M).bind fun x M => match x with
    | .bl true => eb r M
    | .bl false => .ok (.bl false) M
    | _ => .bad) := fun W tk ρ M => by
  refine (pe_and (ha W tk ρ M) (hb W tk ρ ((ea ρ M).mem M))).mono fun σ H Q ⟨F, π, R, en, p⟩ => ?_
  refine TD.then R en p fun d M1 F1 π1 H1 v er x1 R1 en1 rv p1 => ?_
  rw [er]
  cases d with
  | bl k =>
    cases rv
    cases k with
    | true => exact ⟨true, rfl, iteT ⟨F1, π1, R1, en1, p1⟩⟩
    | false => exact ⟨false, rfl, iteF (p1.now R1 _ (.bl _))⟩
  | _ => exact p1.elim
theorem s_or {rest : List Expr} {pos : Pos} (ha : Sx X a ea) (hb : Sx X (.BoolOp .Or (b :: rest) pos) eb) : Sx X (.BoolOp .Or (a :: b :: rest) pos) (fun r M => (ea r M).bind fun x M => match x with
    | .bl true => .ok (.bl true) M
    | .bl false => eb r M
    | _ => .bad) := fun W tk ρ M => by
  refine (pe_or (ha W tk ρ M) (hb W tk ρ ((ea ρ M).mem M))).mono fun σ H Q ⟨F, π, R, en, p⟩ => ?_
  refine TD.then R en p fun d M1 F1 π1 H1 v er x1 R1 en1 rv p1 => ?_
  rw [er]
  cases d with
  | bl k =>
    cases rv
    cases k with
    | false => exact ⟨false, rfl, iteF ⟨F1, π1, R1, en1, p1⟩⟩
    | true => exact ⟨true, rfl, iteT (p1.now R1 _ (.bl _))⟩
  | _ => exact p1.elim
theorem s_onev {op : BoolOp} {pos : Pos} (ha : Sx X a ea) : Sx X (.BoolOp op [a] pos) ea := fun W tk ρ M => pe_one (ha W tk ρ M)
theorem s_ife {c : Expr} {tc : Rho → Mem → Rs Bool} {pos : Pos} (hc : Sb X c tc) (ha : Sx X a ea) (hb : Sx X b eb) : Sx X (.IfExp c a b pos) (fun r M => (tc r M).bind fun k M => match k with
    | true => ea r M
    | false => eb r M) := fun W tk ρ M => by
  refine (pe_ifExp (hc W tk ρ M) (ha W tk ρ ((tc ρ M).mem M)) (hb W tk ρ ((tc ρ M).mem M))).mono fun σ H Q ⟨F, π, R, en, p⟩ => ?_
  refine TB.then R en p fun d M1 F1 π1 H1 er x1 R1 en1 p1 => ?_
  rw [er]
  cases d with
  | true => exact iteT ⟨F1, π1, R1, en1, p1⟩
  | false => exact iteF ⟨F1, π1, R1, en1, p1⟩
/-- a < b < c -/
theorem s_cmp2J {o p : CO} {J : TE → Prop} (Jm : ∀ t t', J t → (∀ σ H Q, t' σ H Q → t σ H Q) → J t') (hu : X.A.units + 65 < cLine) (ha : Sx X a ea) (hb : Sx X b eb) (hc : Sx X c ec) (ho : (match o with | .in_ | .notin => false | _ => true) = true) (hp : (match p with | .in_ | .notin => false | _ => true) = true)
    (mk : ∀ r1 r2 ta tb tc, OpR X (compareOp o.py) r1 → OpR X (compareOp p.py) r2 → PE X a ta → PE X b tb → PE X c tc → J (tChain r1 r2 ta tb tc)) : ∀ W, Takes X W → ∀ ρ M, J (TD X.K ((ea ρ M).bind fun x M => (eb ρ M).bind fun y M => (cmpD o x y M).bind fun k M => match k with
    | .bl true => (ec ρ M).bind fun z M => cmpD p y z M
    | .bl false => .ok (.bl false) M
    | _ => .bad) ρ M W) := fun W tk ρ M => by
  obtain ⟨r1, h1, hr1⟩ := cmp_ok hu o (ea ρ M).val (eb ρ ((ea ρ M).mem M)).val ((eb ρ ((ea ρ M).mem M)).mem ((ea ρ M).mem M)) (fun z => by rcases z with rfl | rfl <;> cases ho)
  have hcm : ∀ {o d1 d2 k M M'}, cmpD o d1 d2 M = .ok k M' → M' = M := fun {o d1 d2 k M M'} e => by
    have hb : ∀ {o : Option Bool} {f : Bool → Bool}, (opt o fun k => blD (f k) M) = Rs.ok k M' → M' = M := fun {o f} e => by
      cases o with
      | none => cases e
      | some _ => cases e; rfl
    cases o <;> first
      | exact hb (f := id) e
      | exact hb (f := not) e
      | (cases d1 <;> cases d2 <;> first | (cases e; done) | (cases e; rfl))
  generalize hM2 : (eb ρ ((ea ρ M).mem M)).mem ((ea ρ M).mem M) = M2 at hr1
  obtain ⟨r2, h2, hr2⟩ := cmp_ok hu p (eb ρ ((ea ρ M).mem M)).val (ec ρ M2).val ((ec ρ M2).mem M2) (fun z => by rcases z with rfl | rfl <;> cases hp)
  refine Jm _ _ (mk r1 r2 _ _ _ h1 h2 (ha W tk ρ M) (hb W tk ρ ((ea ρ M).mem M)) (hc W tk ρ M2)) fun σ H Q ⟨F, π, R, en, q⟩ => ?_
  refine TD.then R en q fun d M1 F1 π1 H1 v er x1 R1 en1 rv q1 => ?_
  rw [er] at hr1 hr2 hM2 ⊢
  refine TD.then R1 en1 q1 fun d2 M2' F2 π2 H2 v2 er2 x2 R2 en2 rv2 q2 => ?_
  have hM2 : (eb ρ M1).mem M1 = M2 := hM2
  have hr1 : Does2 X (cmpD o) d (eb ρ M1).val M2 r1 := hr1
  have hr2 : Does2 X (cmpD p) (eb ρ M1).val (ec ρ M2).val ((ec ρ M2).mem M2) r2 := hr2
  rw [er2] at hr1 hr2 hM2
  have hM2 : M2' = M2 := hM2
  subst hM2
  refine hr1 F2 π2 H2 (WE W σ) v v2 _ R2 (rv.ext x2) rv2 ?_
  refine (Post.then q2).imp fun F3 π3 M3 H3 k ek x3 R3 q3 => ?_
  have e3 := hcm ek
  subst e3
  intro vk rk
  cases k with
  | bl k =>
    cases rk
    refine ⟨k, rfl, ?_⟩
    cases k with
    | true =>
      refine iteT ?_
      refine TD.then R3 (en2.ext x3) q3 fun d4 M4 F4 π4 H4 v4 er4 x4 R4 en4 rv4 q4 => ?_
      rw [er4] at hr2
      exact hr2 F4 π4 H4 _ v2 v4 Q R4 ((rv2.ext x3).ext x4) rv4 q4
    | false => exact iteF (q3.now R3 _ (.bl _))
  | _ => exact q3.elim
theorem s_cmp2 {o p : CO} {pos : Pos} (hu : X.A.units + 65 < cLine) (ha : Sx X a ea) (hb : Sx X b eb) (hc : Sx X c ec) (ho : (match o with | .in_ | .notin => false | _ => true) = true) (hp : (match p with | .in_ | .notin => false | _ => true) = true)
    (hm2 : behindInMarks p.py c = false) : Sx X (.Compare a [o.py, p.py] [b, c] pos) (fun r M => (ea r M).bind fun x M => (eb r M).bind fun y M => (cmpD o x y M).bind fun k M => match k with
    | .bl true => (ec r M).bind fun z M => cmpD p y z M
    | .bl false => .ok (.bl false) M
    | _ => .bad) :=
  s_cmp2J (J := PE X (.Compare a [o.py, p.py] [b, c] pos)) (fun t t' h i => h.mono i) hu ha hb hc ho hp fun r1 r2 ta tb tc h1 h2 h3 h4 h5 => pe_chain h1 h2 h3 h4 h5 hm2
theorem s_tcmp2 {o p : CO} {pos : Pos} (hu : X.A.units + 65 < cLine) (ha : Sx X a ea) (hb : Sx X b eb) (hc : Sx X c ec) (ho : (match o with | .in_ | .notin => false | _ => true) = true) (hp : (match p with | .in_ | .notin => false | _ => true) = true)
    (hm2 : behindInMarks p.py c = false) : Sb X (.Compare a [o.py, p.py] [b, c] pos) (fun r M => ((ea r M).bind fun x M => (eb r M).bind fun y M => (cmpD o x y M).bind fun k M => match k with
    | .bl true => (ec r M).bind fun z M => cmpD p y z M
    | .bl false => .ok (.bl false) M
    | _ => .bad).bind fun x M => match x with
    | .bl b => .ok b M
    | _ => .bad) :=
  sb_of (s_cmp2J (J := Jt X (.Compare a [o.py, p.py] [b, c] pos)) Jt.mono hu ha hb hc ho hp fun r1 r2 ta tb tc h1 h2 h3 h4 h5 => pt_chain h1 h2 h3 h4 h5 hm2)
/-! ### argument lists, displays, slices -/
theorem s_nil : Sa X [] (fun _ M => .ok [] M) := fun W tk ρ M => pa_nil.mono fun σ H Q ⟨F, π, R, en, p⟩ => p.now R _ .nil
theorem s_cons {es : List Expr} {ees : Rho → Mem → Rs (List D)} (ha : Sx X a ea) (hr : Sa X es ees) (hs : starEach (a :: es) X.env = (false, eval a X.env) :: starEach es X.env) :
    Sa X (a :: es) (fun r M => (ea r M).bind fun x M => (ees r M).bind fun xs M => .ok (x :: xs) M) := fun W tk ρ M => by
  refine (pa_cons (ha W tk ρ M) (hr W tk ρ ((ea ρ M).mem M)) hs).mono fun σ H Q ⟨F, π, R, en, p⟩ => ?_
  refine TD.then R en p fun d M1 F1 π1 H1 v er x1 R1 en1 rv p1 => ?_
  rw [er]
  refine TDs.then R1 en1 p1 fun ds M2 F2 π2 H2 vs er2 x2 R2 en2 rvs p2 => ?_
  exact p2.now R2 _ (.cons (rv.ext x2) rvs)
theorem s_tup {es : List Expr} {ees : Rho → Mem → Rs (List D)} {k : Nat} {pos : Pos} (hr : Sa X es ees) : Sx X (.Tuple es k pos) (fun r M => (ees r M).bind fun xs M => if xs.length ≤ sizeLine then .ok (.tup xs) M else .bad) := fun W tk ρ M => by
  refine (pe_tup (hr W tk ρ M)).mono fun σ H Q ⟨F, π, R, en, p⟩ => ?_
  refine TDs.then R en p fun ds M2 F2 π2 H2 vs er2 x2 R2 en2 rvs p2 => ?_
  obtain ⟨hz, p2⟩ := p2.ite
  exact ⟨by rw [← rvs.length]; exact hz, fun l hl => tup_new p2 R2 rvs hl⟩
theorem s_lst {m : Bool} {es : List Expr} {ees : Rho → Mem → Rs (List D)} {pos : Pos} (hr : Sa X es ees) : Sx X (.List es pos) (fun r M => (ees r M).bind fun xs M => if xs.length ≤ sizeLine then mkL m xs M else .bad) := fun W tk ρ M => by
  refine (pe_lst (hr W tk ρ M)).mono fun σ H Q ⟨F, π, R, en, p⟩ => ?_
  refine TDs.then R en p fun ds M2 F2 π2 H2 vs er2 x2 R2 en2 rvs p2 => ?_
  obtain ⟨hz, p2⟩ := p2.ite
  exact ⟨by rw [← rvs.length]; exact hz, fun l hl => mkL_new p2 R2 rvs hl⟩
theorem s_o0 : So X none (fun _ M => .ok none M) := fun W tk ρ M => po_none.mono fun σ H Q ⟨F, π, R, en, p⟩ => p.now R
theorem s_o1 (ha : Sx X a ea) : So X (some a) (fun r M => (ea r M).bind fun x M => match x with
    | .int i => .ok (some i) M
    | _ => .bad) := fun W tk ρ M => (po_some (ha W tk ρ M)).mono fun σ H Q ⟨F, π, R, en, p⟩ => by
  refine TD.then R en p fun d M1 F1 π1 H1 v er x1 R1 en1 rv p1 => ?_
  cases d with
  | int i =>
    cases rv
    exact ⟨i, rfl, p1.now R1⟩
  | _ => exact p1.elim
theorem s_sl {m : Bool} {lo hi : Option Expr} {el eh : Rho → Mem → Rs (Option Int)} {pos p2 : Pos} (ha : Sx X a ea) (hl : So X lo el) (hh : So X hi eh) :
    Sx X (.Subscript a (.Slice lo hi none p2) pos) (fun r M => (ea r M).bind fun x M => (el r M).bind fun l M => (eh r M).bind fun h M => slD m M x l h) := fun W tk ρ M => by
  let M1 := (ea ρ M).mem M
  let M2 := (el ρ M1).mem M1
  obtain ⟨r, pr, hr⟩ := sl_ok (X := X) m (ea ρ M).val (match el ρ M1 with | .ok o _ => o | _ => none) (match eh ρ M2 with | .ok o _ => o | _ => none) ((eh ρ M2).mem M2)
  refine (pe_slice pr (ha W tk ρ M) (hl W tk ρ M1) (hh W tk ρ M2)).mono fun σ H Q ⟨F, π, R, en, p⟩ => ?_
  refine TD.then R en p fun d M1' F1 π1 H1 v er x1 R1 en1 rv p1 => ?_
  have e1 : M1 = M1' := by show (ea ρ M).mem M = M1'; rw [er]; rfl
  have e0 : (ea ρ M).val = d := by rw [er]; rfl
  rw [e0] at hr
  refine TOo.then (e1 ▸ R1) en1 (e1 ▸ p1) fun l M2' F2 π2 H2 er2 x2 R2 en2 p2 => ?_
  have e2 : M2 = M2' := by show (el ρ M1).mem M1 = M2'; rw [er2]; rfl
  rw [er2] at hr
  refine TOo.then (e2 ▸ R2) en2 (e2 ▸ p2) fun h M3 F3 π3 H3 er3 x3 R3 en3 p3 => ?_
  have e3 : (eh ρ M2).mem M2 = M3 := by rw [er3]; rfl
  rw [er3] at hr
  exact hr F3 π3 H3 _ v Q R3 ((rv.ext x2).ext x3) p3
theorem s_rev {m : Bool} {k : Nat} {p1 p2 p3 pos : Pos} (ha : Sx X a ea) : Sx X (.Subscript a (.Slice none none (some (.UnaryOp .USub (.Constant (.int 1) k p1) p2)) p3) pos) (fun r M => (ea r M).bind fun x M => revD m M x) := fun W tk ρ M => by
  refine (pe_revL (ha W tk ρ M)).mono fun σ H Q ⟨F, π, R, en, p⟩ => ?_
  refine TD.then R en p fun d M1 F1 π1 H1 v er x1 R1 en1 rv p1 => ?_
  obtain ⟨xs, e, p1⟩ := p1.opt
  obtain ⟨a, vs, rfl, q, hq⟩ := lst_of e R1 rv
  exact ⟨a, vs, rfl, SqL.of hq, fun l hl => mkL_new p1 R1 q.reverse hl⟩
/-! ### tests -/
theorem s_val (ha : Sx X a ea) (hp : ∀ t, PE X a t → PT X a (tB t)) : Sb X a (fun r M => (ea r M).bind fun x M => match x with
    | .bl b => .ok b M
    | _ => .bad) := fun W tk ρ M => (hp _ (ha W tk ρ M)).mono fun σ H Q ⟨F, π, R, en, p⟩ => by
  refine TD.then R en p fun d M1 F1 π1 H1 v er x1 R1 en1 rv p1 => ?_
  cases d with
  | bl b =>
    cases rv
    exact ⟨b, rfl, p1.now R1⟩
  | _ => exact p1.elim
theorem truD_of {K : PySem.W.Frag} {F H : Hp} {π : List Addr} {M : Mem} {d : D} {v : V} {b : Bool} (e : truD M d = some b) (R : Rep K F π M H) (r : RelD K F π d v) : TruV K v H b := by
  have emp : ∀ {xs : List D} {vs : List V}, RelDs K F π xs vs → (!xs.isEmpty) = !vs.isEmpty := fun r => by cases r <;> rfl
  cases r with
  | non => cases e; rfl
  | bl k => cases e; rfl
  | int k => cases e; rfl
  | lst h q => cases e; exact .inl ⟨_, SqL.of (R.same _ _ h), emp q⟩
  | tup h q => cases e; exact .inr (.inl ⟨_, Same.sqt R.same h, emp q⟩)
  | @ref a i h =>
    unfold truD at e
    dsimp only at e
    split at e
    · rename_i xs hm
      cases e
      have q := R.get hm h
      generalize ho : H a = o at q
      cases q with
      | lst q => exact .inl ⟨_, SqL.of ho, emp q⟩
    · cases e
  | _ => cases e
theorem s_tru (ha : Sx X a ea) (he : ∀ whole, isTrue a X.env whole = (do let v ← whole; standAt a.pos; holding [v] (truthy v))) : Sb X a (fun r M => (ea r M).bind fun x M => match truD M x with
    | some b => .ok b M
    | none => .bad) := fun W tk ρ M => (pt_truth (ha W tk ρ M) he).mono fun σ H Q ⟨F, π, R, en, p⟩ => by
  refine TD.then R en p fun d M1 F1 π1 H1 v er x1 R1 en1 rv p1 => ?_
  cases q : truD M1 d with
  | none => rw [q] at p1; exact p1.elim
  | some b =>
    rw [q] at p1
    exact ⟨b, truD_of q R1 rv, p1.now R1⟩
theorem s_tand1 {pos : Pos} {tb : Rho → Mem → Rs Bool} (ha : Sb X a tb) : Sw X (.BoolOp .And [a] pos) tb := fun W tk ρ M => pw_and1 (ha W tk ρ M)
theorem s_tor1 {pos : Pos} {tb : Rho → Mem → Rs Bool} (ha : Sb X a tb) : Sw X (.BoolOp .Or [a] pos) tb := fun W tk ρ M => pw_or1 (ha W tk ρ M)
theorem s_tand {pos : Pos} {rest : List Expr} {ta tb : Rho → Mem → Rs Bool} (ha : Sb X a ta) (hb : Sw X (.BoolOp .And (b :: rest) pos) tb) : Sw X (.BoolOp .And (a :: b :: rest) pos) (fun r M => (ta r M).bind fun k M => match k with
    | true => tb r M
    | false => .ok false M) := fun W tk ρ M => (pw_and (ha W tk ρ M) (hb W tk ρ ((ta ρ M).mem M))).mono fun σ H Q ⟨F, π, R, en, p⟩ => by
  refine TB.then R en p fun k M1 F1 π1 H1 er x1 R1 en1 p1 => ?_
  rw [er]
  cases k with
  | true => exact iteT ⟨F1, π1, R1, en1, p1⟩
  | false => exact iteF (p1.now R1)
theorem s_tor {pos : Pos} {rest : List Expr} {ta tb : Rho → Mem → Rs Bool} (ha : Sb X a ta) (hb : Sw X (.BoolOp .Or (b :: rest) pos) tb) : Sw X (.BoolOp .Or (a :: b :: rest) pos) (fun r M => (ta r M).bind fun k M => match k with
    | true => .ok true M
    | false => tb r M) := fun W tk ρ M => (pw_or (ha W tk ρ M) (hb W tk ρ ((ta ρ M).mem M))).mono fun σ H Q ⟨F, π, R, en, p⟩ => by
  refine TB.then R en p fun k M1 F1 π1 H1 er x1 R1 en1 p1 => ?_
  rw [er]
  cases k with
  | true => exact iteT (p1.now R1)
  | false => exact iteF ⟨F1, π1, R1, en1, p1⟩
theorem s_tnot {pos : Pos} {ta : Rho → Mem → Rs Bool} (ha : Sb X a ta) : Sb X (.UnaryOp .Not a pos) (fun r M => (ta r M).bind fun k M => .ok (!k) M) := fun W tk ρ M => (pt_not (ha W tk ρ M)).mono fun σ H Q ⟨F, π, R, en, p⟩ => by
  refine TB.then R en p fun k M1 F1 π1 H1 er x1 R1 en1 p1 => ?_
  exact p1.now R1
end
/-! ### calls -/
/-- what a def is worth: g of its arguments' data -/
def SpC (K : PySem.W.Frag) (g : List D → Mem → Rs D) : Sp := fun vs H Q E => ∃ F π M ds, Rep K F π M H ∧ RelDs K F π ds vs ∧ Post K F π H E (kD K Q) (g ds M)
section
variable {X : Cx} {e a b c : Expr} {ea eb ec : Rho → Mem → Rs D} {es : List Expr} {ees : Rho → Mem → Rs (List D)}
theorem s_call {k : Nat} {f : Str} {g : List D → Mem → Rs D} {p pos : Pos} (G : Gd X.prog X.w X.K X.mg X.base k f (SpC X.K g)) (hr : Room k X.A) (ha : Sa X (e :: es) ees) (hg : Gl X f) (hdb : (f == ("__debug__" : Str)) = false)
    (he : starEach (e :: es) X.env = (false, eval e X.env) :: starEach es X.env) (hpl : (backTo pos (starEach es X.env)).any (·.1) = false) : Sx X (.Call (.Name f p) (e :: es) [] pos) (fun r M => (ees r M).bind fun xs M => g xs M) := fun W tk ρ M => by
  refine (pe_cr G hr (fun σ => passAt tk σ) (ha W tk ρ M) hg hdb he hpl).mono fun σ H Q ⟨F, π, R, en, p⟩ => ?_
  refine TDs.then R en p fun ds M2 F2 π2 H2 vs er2 x2 R2 en2 rvs p2 => ?_
  exact ⟨F2, π2, M2, ds, R2, rvs, p2⟩
theorem s_call0 {k : Nat} {f : Str} {g : List D → Mem → Rs D} {p pos : Pos} (G : Gd X.prog X.w X.K X.mg X.base k f (SpC X.K g)) (hr : Room k X.A) (hg : Gl X f) (hdb : (f == ("__debug__" : Str)) = false) :
    Sx X (.Call (.Name f p) [] [] pos) (fun r M => (Rs.ok [] M).bind fun xs M => g xs M) := fun W tk ρ M => by
  refine (pe_cr0 G hr (fun σ => passAt tk σ) hg hdb).mono fun σ H Q ⟨F, π, R, en, p⟩ => ?_
  exact ⟨F, π, M, [], R, .nil, p⟩
theorem s_blt {f : Bn} {p pos : Pos} (hc : X.calm = true) (ha : Sa X (e :: es) ees) (hg : Gl X f.name) (hm : X.mg f.name = none) (hv : bootBuiltins f.name = some f.val) (hn : f.name ≠ "__name__") (hdb : (f.name == ("__debug__" : Str)) = false)
    (he : starEach (e :: es) X.env = (false, eval e X.env) :: starEach es X.env) (hpl : (backTo pos (starEach es X.env)).any (·.1) = false) : Sx X (.Call (.Name f.name p) (e :: es) [] pos) (fun r M => (ees r M).bind fun xs M => bltD M f xs) := fun W tk ρ M => by
  have key : ∀ ds M2, ees ρ M = .ok ds M2 → ∃ r, (∀ t, PA X (e :: es) t → PE X (.Call (.Name f.name p) (e :: es) [] pos) (tCB r t)) ∧ DoesC X (fun ds M => bltD M f ds) ds M2 r := fun ds M2 _ => by
    rcases blt_ok (X := X) hc f ds M2 with ⟨n, e1, r, h1, h2⟩ | ⟨n, e1, r, h1, h2⟩
    · exact ⟨r, fun t ht => pe_callB h1 hg hm (e1 ▸ hv) ht hn hdb he hpl, h2⟩
    · exact ⟨r, fun t ht => pe_callTy h1 hg hm (e1 ▸ hv) ht hn hdb he hpl, h2⟩
  cases q : ees ρ M with
  | ok ds M2 =>
    obtain ⟨r, h1, h2⟩ := key ds M2 q
    refine (h1 _ (ha W tk ρ M)).mono fun σ H Q ⟨F, π, R, en, p⟩ => ?_
    have p : Post X.K F π H (WE W σ) (kD X.K Q) ((ees ρ M).bind fun xs M => bltD M f xs) := p
    rw [q] at p ⊢
    refine ⟨F, π, R, en, Post.imp (Post.then (r := Rs.ok ds M2) p) fun F1 π1 M1 H1 d er x R1 p v rv => ?_⟩
    cases er
    exact h2 F1 π1 H1 _ v Q R1 rv p
  | exc c ns ds m =>
    obtain ⟨r, h1, _⟩ : ∃ r, (∀ t, PA X (e :: es) t → PE X (.Call (.Name f.name p) (e :: es) [] pos) (tCB r t)) ∧ True := by
      rcases blt_ok (X := X) hc f [] M with ⟨n, e1, r, h1, h2⟩ | ⟨n, e1, r, h1, h2⟩
      · exact ⟨r, fun t ht => pe_callB h1 hg hm (e1 ▸ hv) ht hn hdb he hpl, True.intro⟩
      · exact ⟨r, fun t ht => pe_callTy h1 hg hm (e1 ▸ hv) ht hn hdb he hpl, True.intro⟩
    refine (h1 _ (ha W tk ρ M)).mono fun σ H Q ⟨F, π, R, en, p⟩ => ?_
    have p : Post X.K F π H (WE W σ) (kD X.K Q) ((ees ρ M).bind fun xs M => bltD M f xs) := p
    rw [q] at p ⊢
    exact ⟨F, π, R, en, p⟩
  | bad =>
    refine ⟨fun pins s σ H Q I ⟨F, π, R, en, p⟩ => ?_⟩
    have p : Post X.K F π H (WE W σ) (kD X.K Q) ((ees ρ M).bind fun xs M => bltD M f xs) := p
    rw [q] at p
    exact p.elim
theorem s_meth {f : Mn} {apos cpos : Pos} (hf : (match f with | .append | .pop | .popAt | .insert | .clear | .extend | .reverse | .startswith | .join | .split _ => true | _ => false) = true) (ho : Sx X a ea) (ha : Sa X (e :: es) ees)
    (hbase : attributeBase a f.name X.env (eval a X.env) = eval a X.env) (hfew : ((backTo cpos (starEach (e :: es) X.env)).all (fun x => !x.1) && (backToKw cpos (keywordEach [] X.env)).all (fun x => x.1.isSome) && decide ((e :: es).length + ([] : List Keyword).length + (if ([] : List Keyword).isEmpty then 0 else 1) < 30)) = true)
    (hline : (apos.endLine == cpos.line) = true) (hs : starEach (e :: es) X.env = (false, eval e X.env) :: starEach es X.env) (hplain : (backTo cpos (starEach es X.env)).any (·.1) = false) :
    Sx X (.Call (.Attribute a f.name apos) (e :: es) [] cpos) (fun r M => (ea r M).bind fun x M => if tyD M f x = true then (ees r M).bind fun xs M => methD M f x xs else .bad) := fun W tk ρ M => by
  let M1 := (ea ρ M).mem M
  let ds := match ees ρ M1 with | .ok ds _ => ds | _ => []
  obtain ⟨id, r, h1, h2, h3, h4, hr⟩ := (meth_ok (X := X) f (ea ρ M).val ds ((ees ρ M1).mem M1) hf).ex
  refine (pe_bm h1 h2 h3 h4 (ho W tk ρ M) (ha W tk ρ M1) hbase hfew hline hs hplain).mono fun σ H Q ⟨F, π, R, en, p⟩ => ?_
  refine TD.then R en p fun d M1' F1 π1 H1 v er x1 R1 en1 rv p1 => ?_
  have e1 : M1 = M1' := by show (ea ρ M).mem M = M1'; rw [er]; rfl
  have e0 : (ea ρ M).val = d := by rw [er]; rfl
  rw [e0] at hr
  obtain ⟨hty, p1⟩ := p1.ite
  refine ⟨tyD_of hty R1 rv, ?_⟩
  refine TDs.then (e1 ▸ R1) en1 (e1 ▸ p1) fun ds' M2 F2 π2 H2 vs er2 x2 R2 en2 rvs p2 => ?_
  have e2 : ds = ds' := by show (match ees ρ M1 with | .ok ds _ => ds | _ => []) = ds'; rw [er2]
  have e3 : (ees ρ M1).mem M1 = M2 := by rw [er2]; rfl
  rw [e2, e3] at hr
  exact hr F2 π2 H2 _ v vs Q R2 (rv.ext x2) rvs p2
theorem s_meth0 {f : Mn} {apos cpos : Pos} (hf : (match f with | .append | .pop | .popAt | .insert | .clear | .extend | .reverse | .startswith | .join | .split _ => true | _ => false) = true) (ho : Sx X a ea)
    (hbase : attributeBase a f.name X.env (eval a X.env) = eval a X.env) (hline : (apos.endLine == cpos.line) = true) :
    Sx X (.Call (.Attribute a f.name apos) [] [] cpos) (fun r M => (ea r M).bind fun x M => if tyD M f x = true then (Rs.ok [] M).bind fun xs M => methD M f x xs else .bad) := fun W tk ρ M => by
  let M1 := (ea ρ M).mem M
  obtain ⟨id, r, h1, h2, h3, h4, hr⟩ := (meth_ok (X := X) f (ea ρ M).val [] M1 hf).ex
  refine (pe_bm0 h1 h2 h3 h4 (ho W tk ρ M) hbase hline).mono fun σ H Q ⟨F, π, R, en, p⟩ => ?_
  refine TD.then R en p fun d M1' F1 π1 H1 v er x1 R1 en1 rv p1 => ?_
  have e1 : M1 = M1' := by show (ea ρ M).mem M = M1'; rw [er]; rfl
  have e0 : (ea ρ M).val = d := by rw [er]; rfl
  rw [e0, e1] at hr
  obtain ⟨hty, p1⟩ := p1.ite
  exact ⟨tyD_of hty R1 rv, hr F1 π1 H1 _ v [] Q R1 rv .nil p1⟩
end
/-! ### a dict's display -/
theorem Rs.bind_bind {α β γ : Type} (r : Rs α) (f : α → Mem → Rs β) (g : β → Mem → Rs γ) : (r.bind f).bind g = r.bind fun a m => (f a m).bind g := by cases r <;> rfl
/-- the pairs behind a display -/
abbrev kP (K : PySem.W.Frag) (Q : List (V × V) → Hp → Prop) : Hp → List Addr → Mem → Hp → List D → Prop := fun F' π' _ H' ds => ∃ ps, pairs2 ds = some ps ∧ ∀ kvs : List (Key × V), ps.map Prod.fst = kvs.map Prod.fst → RelDs K F' π' (ps.map Prod.snd) (kvs.map Prod.snd) → Q (kvs.map fun kv => (kV kv.1, kv.2)) H'
def Spp (X : Cx) (keys : List (Option Expr)) (values : List Expr) (ev : Rho → Mem → Rs (List D)) : Prop := ∀ W, Takes X W → ∀ ρ M pos, ∃ trs, PPs X pos keys values trs ∧
  ∀ σ H Q, (∃ F π, Rep X.K F π M H ∧ EnvR X.K F π ρ σ ∧ Post X.K F π H (WE W σ) (kP X.K Q) (ev ρ M)) → tPairs trs σ H Q
theorem s_pnil {X : Cx} : Spp X [] [] (fun _ M => .ok [] M) := fun W tk ρ M pos => ⟨[], pps_nil, fun σ H Q ⟨F, π, R, en, p⟩ => by
  obtain ⟨ps, e, h⟩ := p.now R
  cases e
  exact h [] rfl .nil⟩
theorem s_pcons {X : Cx} {k v : Expr} {keys : List (Option Expr)} {values : List Expr} {ek ev : Rho → Mem → Rs D} {er : Rho → Mem → Rs (List D)} (hk : Sx X k ek) (hv : Sx X v ev) (hr : Spp X keys values er) :
    Spp X (some k :: keys) (v :: values) (fun r M => (ek r M).bind fun x M => ((ev r M).bind fun y M => (er r M).bind fun xs M => .ok (y :: xs) M).bind fun xs M => .ok (x :: xs) M) := fun W tk ρ M pos => by
  obtain ⟨trs, h, i⟩ := hr W tk ρ ((ev ρ ((ek ρ M).mem M)).mem ((ek ρ M).mem M)) pos
  refine ⟨_, pps_cons (hk W tk ρ M) (hv W tk ρ ((ek ρ M).mem M)) h, fun σ H Q ⟨F, π, R, en, p⟩ => ?_⟩
  show TD X.K _ _ _ W σ H _
  refine TD.then R en p fun d M1 F1 π1 H1 u er1 x1 R1 en1 rv p1 => ?_
  rw [er1] at i ⊢
  rw [Rs.bind_bind] at p1
  show TD X.K _ _ _ W σ H1 _
  refine TD.then R1 en1 p1 fun d2 M2 F2 π2 H2 u2 er2 x2 R2 en2 rv2 p2 => ?_
  have i := i σ H2
  rw [show (Rs.ok d M1).mem M = M1 from rfl, er2] at i
  refine i _ ⟨F2, π2, R2, en2, ?_⟩
  rw [Rs.bind_bind] at p2
  refine (Post.then p2).imp fun F3 π3 M3 H3 ds er3 x3 R3 p3 => ?_
  obtain ⟨ps, e, q⟩ := (show Post X.K F3 π3 H3 (WE W σ) (kP X.K Q) (.ok (d :: d2 :: ds) M3) from p3).now R3
  unfold pairs2 at e
  split at e
  · rename_i k' q' e1 e2
    cases e
    refine ⟨q', e2, fun kvs h1 h2 => ?_⟩
    have z := q ((k', u2) :: kvs) (by rw [List.map_cons, List.map_cons, h1]) (.cons ((rv2.ext x3)) h2)
    rw [key_of e1 rv]
    exact z
  · cases e
theorem fold_map {K : PySem.W.Frag} {F : Hp} {π : List Addr} : ∀ {ps : List (Key × D)} {kvs : List (Key × V)} {a : List (Key × D)} {b : List (Key × V)}, ps.map Prod.fst = kvs.map Prod.fst → RelDs K F π (ps.map Prod.snd) (kvs.map Prod.snd) → a.map Prod.fst = b.map Prod.fst → RelDs K F π (a.map Prod.snd) (b.map Prod.snd) →
    (ps.foldl (fun acc kv => storeK acc kv.1 kv.2) a).map Prod.fst = (mergeK b kvs).map Prod.fst ∧ RelDs K F π ((ps.foldl (fun acc kv => storeK acc kv.1 kv.2) a).map Prod.snd) ((mergeK b kvs).map Prod.snd)
  | [], [], _, _, _, _, h3, h4 => ⟨h3, h4⟩
  | [], _ :: _, _, _, h, _, _, _ => by cases h
  | _ :: _, [], _, _, h, _, _, _ => by cases h
  | p :: ps, q :: kvs, a, b, h1, h2, h3, h4 => by
    rw [List.map_cons, List.map_cons] at h1
    injection h1 with e1 e2
    cases h2 with
    | cons r rs =>
      obtain ⟨g1, g2⟩ := storeK_map h3 h4 p.1 r
      have z := fold_map (ps := ps) (kvs := kvs) e2 rs g1 g2
      rw [List.foldl_cons]
      show _ = (mergeK b (q :: kvs)).map Prod.fst ∧ RelDs K F π _ ((mergeK b (q :: kvs)).map Prod.snd)
      have e3 : mergeK b (q :: kvs) = mergeK (putK b p.1 q.2) kvs := by rw [e1]; rfl
      rw [e3]
      exact z
theorem s_dct {X : Cx} {keys : List (Option Expr)} {values : List Expr} {pos : Pos} {ev : Rho → Mem → Rs (List D)} (h : Spp X keys values ev) (hall : keys.all (·.isSome) = true) (hl : keys.length = values.length) (h0 : keys ≠ []) (h15 : keys.length ≤ 15) :
    Sx X (.Dict keys values pos) (fun r M => (ev r (M ++ [.dct []])).bind fun xs M1 => opt (pairs2 xs) fun ps => match M1[M.length]? with
      | some (.dct []) => if ps.length ≤ 15 then .ok (.ref M.length) (M1.set M.length (.dct (ps.foldl (fun acc kv => storeK acc kv.1 kv.2) []))) else .bad
      | _ => .bad) := fun W tk ρ M => by
  obtain ⟨trs, h1, i⟩ := h W tk ρ (M ++ [.dct []]) pos
  refine (pe_disp h1 hall hl h0 h15).mono fun σ H Q ⟨F, π, R, en, p⟩ => ?_
  intro a ha
  obtain ⟨R1, x1⟩ := R.mut (o := .dK []) (m := .dct []) ha (.dct (us := []) rfl .nil)
  refine i _ _ _ ⟨F, _, R1, en.ext x1, (Post.then (p.shift x1)).imp fun F3 π3 M3 H3 ds er3 x3 R3 p3 => ?_⟩
  obtain ⟨ps, e, p3⟩ := p3.opt
  refine ⟨ps, e, fun kvs g1 g2 => ?_⟩
  split at p3
  · rename_i hm
    obtain ⟨hz, p3⟩ := p3.ite
    have hp : π3[M.length]? = some a := by
      obtain ⟨t, rfl, _⟩ := x3.pre
      rw [List.append_assoc, List.getElem?_append_right (by rw [R.len]; exact Nat.le_refl _), ← R.len]
      simp
    have q := R3.get hm hp
    have he : H3 a = some (.dK []) := by
      generalize ho : H3 a = o at q
      cases q with
      | @dct _ us h1 h2 =>
        cases us with
        | nil => rfl
        | cons _ _ => cases h1
    obtain ⟨f1, f2⟩ := fold_map (a := []) (b := []) g1 g2 rfl .nil
    obtain ⟨R4, x4⟩ := R3.put hp (.dct f1 f2)
    refine ⟨he, kvs, rfl, ?_, ?_⟩
    · have := congrArg List.length g1
      rw [List.length_map, List.length_map] at this
      omega
    · exact p3 _ _ _ x4 R4 _ (.ref hp)
  · exact p3.elim
end MP

/-! What is walked; comprehensions. -/
namespace MP
open PySem PySem.Spec PyProof.Rows L2 EV
open He (ga)

/-- the k-th turn: no such list, the end, an item -/
def Its.step (js : Its) (k : Nat) (M : Mem) : Option (Option D) := match js with
  | .vals xs => if k ≤ xs.length then some xs[k]? else none
  | .at_ i _ en => (match M[i]? with
    | some (.lst xs) => some ((xs[k]?).map (itemAt en k))
    | _ => none)
theorem step_vals {xs : List D} {k : Nat} {M : Mem} {o : Option D} (e : (Its.vals xs).step k M = some o) : k ≤ xs.length ∧ xs[k]? = o := by
  have e : (if k ≤ xs.length then some xs[k]? else none) = some o := e
  split at e
  · exact ⟨by assumption, Option.some.inj e⟩
  · cases e
structure ItR (K : PySem.W.Frag) (F0 : Hp) (π0 : List Addr) (js : Its) (J : It) : Prop where
  go : ∀ k F π M H d, js.step k M = some (some d) → Same F0 F → (∃ t, π = π0 ++ t) → Rep K F π M H → J.go k H
  stop : ∀ k F π M H, js.step k M = some none → Same F0 F → (∃ t, π = π0 ++ t) → Rep K F π M H → J.stop k H
  yld : ∀ k F π M H x H' d, js.step k M = some (some d) → Same F0 F → (∃ t, π = π0 ++ t) → Rep K F π M H → J.yld k H x H' → ∃ F2, Ext F π H F2 π H' ∧ Rep K F2 π M H' ∧ RelD K F2 π d x
def TIt (K : PySem.W.Frag) (r : Rs Its) (ρ : Rho) (M : Mem) (W : WX) : TI := fun σ H R => ∃ F π, Rep K F π M H ∧ EnvR K F π ρ σ ∧ Post K F π H (WE W σ) (fun F' π' _ H' js => ∀ J, ItR K F' π' js J → R J H') r
def Si (X : Cx) (tg e : Expr) (ev : Rho → Mem → Rs Its) : Prop := ∀ W, Takes X W → ∀ ρ M, PI X tg e (TIt X.K (ev ρ M) ρ M W)
theorem _root_.L2.PI.mono {X : Cx} {tg e : Expr} {t t' : TI} (h : PI X tg e t) (i : ∀ σ H R, t' σ H R → t σ H R) : PI X tg e t' := ⟨fun pins s σ H R I q => h.run pins s σ H R I (i σ H R q)⟩
section
variable {K : PySem.W.Frag} {F0 : Hp} {π0 : List Addr} {J : It}
theorem ItR.of_seq {b : Bool} {a : Addr} {vs : List V} {xs : List D} (hs : SqB b K F0 a vs) (q : RelDs K F0 π0 xs vs) (w : Walk J vs.length (fun H => SqB b K H a vs) (YAt vs)) : ItR K F0 π0 (.vals xs) J := by
  have hl := q.length
  refine ⟨fun k F π M H d e s p R => ?_, fun k F π M H e s p R => ?_, fun k F π M H x H' d e s p R y => ?_⟩
  · obtain ⟨_, e⟩ := step_vals e
    · have hk := (List.getElem?_eq_some_iff.mp e).1
      exact w.goes k H (by omega) (Same.sqb (s.trans R.same) hs)
  · obtain ⟨hle, e⟩ := step_vals e
    · have hk := List.getElem?_eq_none_iff.mp e
      have e2 : k = vs.length := by omega
      subst e2
      exact w.stops H (Same.sqb (s.trans R.same) hs)
  · obtain ⟨_, e⟩ := step_vals e
    · have hk := (List.getElem?_eq_some_iff.mp e).1
      obtain ⟨rfl, e2⟩ := w.yields k H x H' (by omega) (Same.sqb (s.trans R.same) hs) y
      obtain ⟨v, h1, h2⟩ := q.get e
      rw [h1] at e2
      cases e2
      exact ⟨F, .refl, R, h2.mono s p⟩
theorem ItR.of_enum {b : Bool} {a : Addr} {vs : List V} {xs : List D} (hs : SqB b K F0 a vs) (q : RelDs K F0 π0 xs vs) (w : Walk J vs.length (fun H => SqB b K H a vs) (YPair (fun i => some (.int (i : Nat))) (fun i => vs[i]?))) : ItR K F0 π0 (.vals (numbered xs)) J := by
  have hl := q.length
  have ln : (numbered xs).length = xs.length := by unfold numbered; simp
  refine ⟨fun k F π M H d e s p R => ?_, fun k F π M H e s p R => ?_, fun k F π M H x H' d e s p R y => ?_⟩
  · obtain ⟨_, e⟩ := step_vals e
    · have hk := (List.getElem?_eq_some_iff.mp e).1
      exact w.goes k H (by omega) (Same.sqb (s.trans R.same) hs)
  · obtain ⟨hle, e⟩ := step_vals e
    · have hk := List.getElem?_eq_none_iff.mp e
      have e2 : k = vs.length := by omega
      subst e2
      exact w.stops H (Same.sqb (s.trans R.same) hs)
  · obtain ⟨_, e⟩ := step_vals e
    · have hk := (List.getElem?_eq_some_iff.mp e).1
      obtain ⟨T, x1, y1, rfl, hT, rfl, h1, h2⟩ := w.yields k H x H' (by omega) (Same.sqb (s.trans R.same) hs) y
      have hx : xs[k]? = some xs[k] := by simp [ln ▸ hk]
      obtain ⟨v, h3, h4⟩ := q.get hx
      have h2 : vs[k]? = some y1 := h2
      have h1 : some (V.int (k : Nat)) = some x1 := h1
      rw [h3] at h2
      cases h2
      cases h1
      have ed : d = .tup [.int (k : Int), xs[k]] := by
        have := e
        unfold numbered at this
        rw [List.getElem?_map, List.getElem?_zipIdx, hx] at this
        simpa using this.symm
      obtain ⟨R1, x1⟩ := R.frz (o := .tup [.int (k : Nat), y1]) hT
      subst ed
      exact ⟨_, x1, R1, .tup (SqT.of upd_same) (.cons (.int _) (.cons ((h4.mono s p).ext x1) .nil))⟩
theorem ItR.of_rng {lo : Int} {n : Nat} : ItR K F0 π0 (.vals (rngD n lo)) (Itr lo n) := by
  have ln : (rngD n lo).length = n := by unfold rngD; simp
  refine ⟨fun k F π M H d e s p R => ?_, fun k F π M H e s p R => ?_, fun k F π M H x H' d e s p R y => ?_⟩
  · obtain ⟨_, e⟩ := step_vals e
    · have hk := (List.getElem?_eq_some_iff.mp e).1
      exact ln ▸ hk
  · obtain ⟨hle, e⟩ := step_vals e
    · have hk := List.getElem?_eq_none_iff.mp e
      exact ln ▸ hk
  · obtain ⟨_, e⟩ := step_vals e
    · have hk := (List.getElem?_eq_some_iff.mp e).1
      obtain ⟨rfl, rfl⟩ := y
      have ed : d = .int (lo + (k : Int)) := by
        have := e
        unfold rngD at this
        rw [List.getElem?_map, List.getElem?_range (ln ▸ hk)] at this
        simpa using this.symm
      subst ed
      exact ⟨F, .refl, R, .int _⟩
theorem ItR.of_ref {i n : Nat} {a : Addr} (ha : π0[i]? = some a) : ItR K F0 π0 (.at_ i n false) (Itl K a) := by
  have get : ∀ {F π M H k o}, (Its.at_ i n false).step k M = some o → (∃ t, π = π0 ++ t) → Rep K F π M H → ∃ xs vs, H a = some (.lst vs) ∧ RelDs K F π xs vs ∧ xs[k]? = o := by
    intro F π M H k o e p R
    unfold Its.step at e
    dsimp only at e
    split at e
    · rename_i xs hm
      obtain ⟨t, rfl⟩ := p
      have ha' : (π0 ++ t)[i]? = some a := by rw [List.getElem?_append_left (List.getElem?_eq_some_iff.mp ha).1]; exact ha
      have q := R.get hm ha'
      generalize ho : H a = u at q
      cases q with
      | lst q =>
        refine ⟨xs, _, rfl, q, ?_⟩
        have := Option.some.inj e
        cases h : xs[k]? with
        | none => rw [h] at this; exact this
        | some z => rw [h] at this; exact this
    · cases e
  refine ⟨fun k F π M H d e s p R => ?_, fun k F π M H e s p R => ?_, fun k F π M H x H' d e s p R y => ?_⟩
  · obtain ⟨xs, vs, h1, q, h3⟩ := get e p R
    obtain ⟨v, h4, _⟩ := q.get h3
    exact ⟨vs, v, SqL.of h1, h4⟩
  · obtain ⟨xs, vs, h1, q, h3⟩ := get e p R
    exact ⟨vs, SqL.of h1, by rw [← q.length]; exact List.getElem?_eq_none_iff.mp h3⟩
  · obtain ⟨xs, vs, h1, q, h3⟩ := get e p R
    obtain ⟨rfl, y⟩ := y
    obtain ⟨v, h4, h5⟩ := q.get h3
    have := y vs (SqL.of h1)
    rw [h4] at this
    cases this
    exact ⟨F, .refl, R, h5⟩
theorem ItR.of_refE {i n : Nat} {a : Addr} (ha : π0[i]? = some a) : ItR K F0 π0 (.at_ i n true) (Ite K a) := by
  have get : ∀ {F π M H k o}, (Its.at_ i n true).step k M = some o → (∃ t, π = π0 ++ t) → Rep K F π M H → ∃ xs vs, H a = some (.lst vs) ∧ RelDs K F π xs vs ∧ (xs[k]?).map (itemAt true k) = o := by
    intro F π M H k o e p R
    unfold Its.step at e
    dsimp only at e
    split at e
    · rename_i xs hm
      obtain ⟨t, rfl⟩ := p
      have ha' : (π0 ++ t)[i]? = some a := by rw [List.getElem?_append_left (List.getElem?_eq_some_iff.mp ha).1]; exact ha
      have q := R.get hm ha'
      generalize ho : H a = u at q
      cases q with
      | lst q => exact ⟨xs, _, rfl, q, Option.some.inj e⟩
    · cases e
  refine ⟨fun k F π M H d e s p R => ?_, fun k F π M H e s p R => ?_, fun k F π M H x H' d e s p R y => ?_⟩
  · obtain ⟨xs, vs, h1, q, h3⟩ := get e p R
    obtain ⟨d0, h4, _⟩ := Option.map_eq_some_iff.mp h3
    obtain ⟨v, h5, _⟩ := q.get h4
    exact ⟨vs, v, SqL.of h1, h5⟩
  · obtain ⟨xs, vs, h1, q, h3⟩ := get e p R
    exact ⟨vs, SqL.of h1, by rw [← q.length]; exact List.getElem?_eq_none_iff.mp (Option.map_eq_none_iff.mp h3)⟩
  · obtain ⟨xs, vs, h1, q, h3⟩ := get e p R
    obtain ⟨T, x1, rfl, hT, rfl, y⟩ := y
    obtain ⟨d0, h4, rfl⟩ := Option.map_eq_some_iff.mp h3
    obtain ⟨v, h5, h6⟩ := q.get h4
    have := y vs (SqL.of h1)
    rw [h5] at this
    cases this
    obtain ⟨R1, e1⟩ := R.frz (o := .tup [.int (k : Nat), x1]) hT
    exact ⟨_, e1, R1, .tup (SqT.of upd_same) (.cons (.int _) (.cons (h6.ext e1) .nil))⟩
end
section
variable {X : Cx} {tg a b : Expr} {ea eb : Rho → Mem → Rs D}
theorem s_seq (ha : Sx X a ea) : Si X tg a (fun r M => (ea r M).bind fun x M => match itSeq M x with
    | some j => .ok j M
    | none => .bad) := fun W tk ρ M => by
  by_cases hr : ∃ i M1, ea ρ M = .ok (.ref i) M1
  · obtain ⟨i, M1, er0⟩ := hr
    refine (pi_list (ha W tk ρ M)).mono fun σ H R0 ⟨F, π, R, en, p⟩ => ?_
    refine TD.then R en p fun d M1' F1 π1 H1 v er x1 R1 en1 rv p1 => ?_
    rw [er0] at er
    cases er
    cases rv with
    | @ref a _ h =>
      cases q : itSeq M1 (.ref i) with
      | none => rw [q] at p1; exact p1.elim
      | some j =>
        rw [q] at p1
        unfold itSeq at q
        dsimp only at q
        split at q
        · rename_i xs hm
          cases q
          have q2 := R1.get hm h
          generalize ho : H1 a = u at q2
          cases q2 with
          | lst q2 => exact ⟨a, rfl, ⟨_, SqL.of ho⟩, p1.now R1 _ (.of_ref h)⟩
        · cases q
  · refine (pi_seq (ha W tk ρ M)).mono fun σ H R0 ⟨F, π, R, en, p⟩ => ?_
    refine TD.then R en p fun d M1 F1 π1 H1 v er x1 R1 en1 rv p1 => ?_
    cases d with
    | lst xs =>
      cases rv with
      | lst h q => exact ⟨_, true, _, rfl, SqL.of (R1.same _ _ h), fun J w => p1.now R1 J (.of_seq (b := true) (SqL.of h) q w)⟩
    | tup xs =>
      cases rv with
      | tup h q => exact ⟨_, false, _, rfl, Same.sqt R1.same h, fun J w => p1.now R1 J (.of_seq (b := false) h q w)⟩
    | ref i => exact absurd ⟨i, M1, er⟩ hr
    | _ => exact p1.elim
theorem s_enum {p pos tpos : Pos} {elts : List Expr} {kk : Nat} (hg : Gl X "enumerate") (hm : X.mg "enumerate" = none) (ha : Sx X a ea) (hs : starEach [a] X.env = [(false, eval a X.env)]) :
    Si X (.Tuple elts kk tpos) (.Call (.Name "enumerate" p) [a] [] pos) (fun r M => (ea r M).bind fun x M => match itEnum M x with
    | some j => .ok j M
    | none => .bad) := fun W tk ρ M => by
  have hA : PA X [a] (tCons (TD X.K (ea ρ M) ρ M W) tNil) := pa_cons (ha W tk ρ M) pa_nil hs
  by_cases hr : ∃ i M1, ea ρ M = .ok (.ref i) M1
  · obtain ⟨i, M1, er0⟩ := hr
    refine (pi_enum hg hm hA hs).mono fun σ H R0 ⟨F, π, R, en, p⟩ => ?_
    refine TD.then R en p fun d M1' F1 π1 H1 v er x1 R1 en1 rv p1 => ?_
    rw [er0] at er
    cases er
    cases rv with
    | @ref a _ h =>
      cases q : itEnum M1 (.ref i) with
      | none => rw [q] at p1; exact p1.elim
      | some j =>
        rw [q] at p1
        unfold itEnum at q
        dsimp only at q
        split at q
        · rename_i xs hm
          cases q
          have q2 := R1.get hm h
          generalize ho : H1 a = u at q2
          cases q2 with
          | lst q2 => exact ⟨a, _, rfl, SqL.of ho, p1.now R1 _ (.of_refE h)⟩
        · cases q
  · refine (pi_enumA hg hm hA hs).mono fun σ H R0 ⟨F, π, R, en, p⟩ => ?_
    refine TD.then R en p fun d M1 F1 π1 H1 v er x1 R1 en1 rv p1 => ?_
    cases d with
    | lst xs =>
      cases rv with
      | lst h q => exact ⟨_, true, _, rfl, SqL.of (R1.same _ _ h), fun J w => p1.now R1 J (.of_enum (b := true) (SqL.of h) q w)⟩
    | tup xs =>
      cases rv with
      | tup h q => exact ⟨_, false, _, rfl, Same.sqt R1.same h, fun J w => p1.now R1 J (.of_enum (b := false) h q w)⟩
    | ref i => exact absurd ⟨i, M1, er⟩ hr
    | _ => exact p1.elim
theorem rngOk_iff {i j : Int} (h : rngOk i j = true) : -(2 ^ 62) ≤ i ∧ i < 2 ^ 62 ∧ -(2 ^ 62) ≤ j ∧ j < 2 ^ 62 := by
  unfold rngOk at h
  simp only [Bool.and_eq_true, decide_eq_true_eq] at h
  exact ⟨h.1, h.2.1, h.2.2.1, h.2.2.2⟩
theorem s_rng1 {p pos : Pos} (hg : Gl X "range") (hm : X.mg "range" = none) (ha : Sx X a ea) (hs : starEach [a] X.env = [(false, eval a X.env)]) :
    Si X tg (.Call (.Name "range" p) [a] [] pos) (fun r M => (ea r M).bind fun x M => match x with
    | .int j => if rngOk 0 j = true then .ok (.vals (rngD j.toNat 0)) M else .bad
    | _ => .bad) := fun W tk ρ M => by
  have hA : PA X [a] (tCons (TD X.K (ea ρ M) ρ M W) tNil) := pa_cons (ha W tk ρ M) pa_nil hs
  refine (pi_range1 hg hm hA hs).mono fun σ H R0 ⟨F, π, R, en, p⟩ => ?_
  refine TD.then R en p fun d M1 F1 π1 H1 v er x1 R1 en1 rv p1 => ?_
  cases d with
  | int j =>
    cases rv
    obtain ⟨h, p1⟩ := Post.ite p1
    have h := rngOk_iff h
    exact ⟨j, rfl, h.2.2.1, h.2.2.2, p1.now R1 _ .of_rng⟩
  | _ => exact p1.elim
theorem s_rng2 {p pos : Pos} (hg : Gl X "range") (hm : X.mg "range" = none) (ha : Sx X a ea) (hb : Sx X b eb) (hs : starEach [a, b] X.env = [(false, eval a X.env), (false, eval b X.env)]) (hs2 : starEach [b] X.env = [(false, eval b X.env)]) :
    Si X tg (.Call (.Name "range" p) [a, b] [] pos) (fun r M => (ea r M).bind fun x M => (eb r M).bind fun y M => match x, y with
    | .int i, .int j => if rngOk i j = true then .ok (.vals (rngD (j - i).toNat i)) M else .bad
    | _, _ => .bad) := fun W tk ρ M => by
  have hA : PA X [a, b] (tCons (TD X.K (ea ρ M) ρ M W) (tCons (TD X.K (eb ρ ((ea ρ M).mem M)) ρ ((ea ρ M).mem M) W) tNil)) := pa_cons (ha W tk ρ M) (pa_cons (hb W tk ρ _) pa_nil hs2) (by rw [hs, hs2])
  refine (pi_range2 hg hm hA hs hs2).mono fun σ H R0 ⟨F, π, R, en, p⟩ => ?_
  refine TD.then R en p fun d M1 F1 π1 H1 v er x1 R1 en1 rv p1 => ?_
  rw [er]
  refine TD.then R1 en1 p1 fun d2 M2 F2 π2 H2 v2 er2 x2 R2 en2 rv2 p2 => ?_
  cases d with
  | int i =>
    cases d2 with
    | int j =>
      cases rv
      cases rv2
      obtain ⟨h, p2⟩ := Post.ite p2
      have h := rngOk_iff h
      exact ⟨i, j, rfl, h, p2.now R2 _ .of_rng⟩
    | _ => exact p2.elim
  | _ => exact p2.elim
end
/-! ### targets -/
def gNames : List Nat → TGs
  | [] => gNil
  | i :: is => gCons (gName i) (gNames is)
def tgOf (K : PySem.W.Frag) : SG → TG
  | .nm i => gName i
  | .tp is => gTup K is.length (gNames is)
section
variable {K : PySem.W.Frag} {F H : Hp} {π : List Addr} {M : Mem} {ρ ρ' : Rho} {σ : L2.St}
theorem setAll_of {Q : L2.St → Hp → Prop} {is : List Nat} {ds : List D} {vs : List V} (e : setAll ρ is ds = some ρ') (en : EnvR K F π ρ σ) (r : RelDs K F π ds vs) (P : L2.St → Prop) (h0 : P σ) (hP : ∀ σ i v, i ∈ is → P σ → P (σ.set i v)) (q : ∀ σ', EnvR K F π ρ' σ' → P σ' → Q σ' H) : gNames is vs σ H Q := by
  induction is generalizing ρ σ ds vs with
  | nil =>
    cases ds with
    | nil => cases r; cases e; exact ⟨rfl, q σ en h0⟩
    | cons _ _ => cases e
  | cons i is ih =>
    cases ds with
    | nil => cases e
    | cons d ds =>
      cases r with
      | cons r rs => exact ⟨_, _, rfl, ih e (en.set r i) rs (hP _ _ _ (by simp) h0) (fun σ j v hj => hP σ j v (by simp [hj]))⟩
theorem setAll_len {is : List Nat} {ds : List D} (e : setAll ρ is ds = some ρ') : ds.length = is.length := by
  induction is generalizing ρ ds with
  | nil => cases ds with
    | nil => rfl
    | cons _ _ => cases e
  | cons i is ih => cases ds with
    | nil => cases e
    | cons d ds => exact congrArg (· + 1) (ih (ρ := ρ.set i (some d)) e)
def SG.all : SG → List Nat
  | .nm i => [i]
  | .tp is => is
theorem asg_of {Q : L2.St → Hp → Prop} {g : SG} {d : D} {v : V} (e : asg M g d ρ = some ρ') (R : Rep K F π M H) (en : EnvR K F π ρ σ) (r : RelD K F π d v) (P : L2.St → Prop) (h0 : P σ) (hP : ∀ σ i v, i ∈ g.all → P σ → P (σ.set i v)) (q : ∀ σ', EnvR K F π ρ' σ' → P σ' → Q σ' H) : tgOf K g v σ H Q := by
  cases g with
  | nm i => cases e; exact q _ (en.set r i) (hP _ _ _ (by simp [SG.all]) h0)
  | tp is =>
    cases d with
    | tup xs =>
      cases r with
      | tup h rs => exact ⟨_, _, rfl, Same.sqt R.same h, by rw [← rs.length, setAll_len e], setAll_of e en rs P h0 hP q⟩
    | _ => cases e
end
/-! ### comprehensions -/
theorem wipe_set {vs : List Nat} {i : Nat} {x : Option V} (h : i ∈ vs) : ∀ {σ : L2.St}, wipe (σ.set i x) vs = wipe σ vs := by
  induction vs with
  | nil => cases h
  | cons v vs ih =>
    intro σ
    unfold wipe
    by_cases hv : i ∈ vs
    · rw [ih hv]
    · rcases List.mem_cons.mp h with rfl | h'
      · have : ∀ (ws : List Nat) (σ : L2.St), i ∉ ws → wipe (σ.set i x) ws = (wipe σ ws).set i x := by
          intro ws
          induction ws with
          | nil => intro σ _; rfl
          | cons w ws ih2 =>
            intro σ hn
            unfold wipe
            rw [ih2 σ (fun z => hn (by simp [z]))]
            exact List.set_comm _ _ (fun e => hn (by simp [e]))
        rw [this vs σ hv, List.set_set]
      · exact absurd h' hv
theorem wipe_wipe {vs : List Nat} {σ : L2.St} : wipe (wipe σ vs) vs = wipe σ vs := by
  have : ∀ (ws : List Nat) (σ : L2.St), (∀ w ∈ ws, w ∈ vs) → wipe (wipe σ ws) vs = wipe σ vs := by
    intro ws
    induction ws with
    | nil => intro σ _; rfl
    | cons w ws ih =>
      intro σ h
      show wipe ((wipe σ ws).set w none) vs = _
      rw [wipe_set (h w (by simp)), ih σ fun x hx => h x (by simp [hx])]
  exact this vs σ fun _ h => h
/-- any state's reading -/
def TDu (K : PySem.W.Frag) (ev : Rho → Mem → Rs D) (W : WX) : TE := fun σ H Q => ∃ ρ M, TD K (ev ρ M) ρ M W σ H Q
def TBu (K : PySem.W.Frag) (ev : Rho → Mem → Rs Bool) (W : WX) : TT := fun σ H Q => ∃ ρ M, TB K (ev ρ M) ρ M W σ H Q
theorem Sx.u {X : Cx} {e : Expr} {ev : Rho → Mem → Rs D} {W : WX} (h : Sx X e ev) (tk : Takes X W) : PE X e (TDu X.K ev W) := ⟨fun pins s σ H Q I ⟨ρ, M, q⟩ => (h W tk ρ M).run pins s σ H Q I q⟩
theorem Sb.u {X : Cx} {e : Expr} {ev : Rho → Mem → Rs Bool} {W : WX} (h : Sb X e ev) (tk : Takes X W) : PT X e (TBu X.K ev W) := ⟨fun pins s σ H Q I ⟨ρ, M, q⟩ => (h W tk ρ M).run pins s σ H Q I q⟩
def Sc (X : Cx) (es : List Expr) (ev : Rho → Mem → Rs Bool) : Prop := ∀ W, Takes X W → PTs X es (TBu X.K ev W)
theorem s_yes {X : Cx} : Sc X [] (fun _ M => .ok true M) := fun W tk => ⟨fun pins s σ H Q I ⟨ρ, M, F, π, R, en, p⟩ => pts_nil.run pins s σ H Q I (p.now R)⟩
theorem s_onec {X : Cx} {c : Expr} {ev : Rho → Mem → Rs Bool} (h : Sb X c ev) : Sc X [c] ev := fun W tk => pts_one (h.u tk)
abbrev W0 : WX := fun _ _ _ _ => False
theorem Rep.side {K : PySem.W.Frag} {F H : Hp} {π : List Addr} {M : Mem} {p : Addr} {o : HO} (R : Rep K F π M H) (hF : F p = none) (hp : p ∉ π) : Rep K F π M (upd H p o) := by
  refine ⟨fun b u e => ?_, R.len, R.nd, R.free, fun a ha => ?_, fun i m a h1 h2 => ?_⟩
  · rw [upd_ne (show b ≠ p from fun z => by rw [z, hF] at e; cases e)]
    exact R.same b u e
  · rw [upd_ne (show a ≠ p from fun z => hp (z ▸ ha))]
    exact R.trk a ha
  · rw [upd_ne (show a ≠ p from fun z => hp (z ▸ List.mem_of_getElem? h2))]
    exact R.at_ i m a h1 h2
theorem Ext.side {F F' H H' : Hp} {π π' : List Addr} {p : Addr} {o : HO} (x : Ext F π H F' π' H') (hp : H p = none) : Ext F π H F' π' (upd H' p o) := by
  refine ⟨x.fle, x.pre, fun a u h n => ?_, fun a h => ?_, x.new⟩
  · rw [upd_ne (show a ≠ p from fun z => by rw [z, hp] at h; cases h)]
    exact x.keep a u h n
  · by_cases ha : a = p
    · rw [ha, upd_same]
      simp
    · rw [upd_ne ha]
      exact x.trk a h
/-- a comprehension's list as it grows at L -/
structure Grow (K : PySem.W.Frag) (F1 : Hp) (π1 : List Addr) (H1 : Hp) (L : Addr) (ρ : Rho) (σ : L2.St) (acc : List D) (F : Hp) (π : List Addr) (M : Mem) (H : Hp) : Prop where
  ext : Ext F1 π1 H1 F π H
  rep : Rep K F π M H
  env : EnvR K F π ρ σ
  out : L ∉ π
  fre : F L = none
  here : ∃ vs, H L = some (.lst vs) ∧ RelDs K F π acc vs
section
variable {K : PySem.W.Frag} {F1 F F' H1 H H' : Hp} {π1 π π' : List Addr} {L : Addr} {ρ : Rho} {σ : L2.St} {acc : List D} {M M' : Mem}
theorem Grow.next (g : Grow K F1 π1 H1 L ρ σ acc F π M H) (x : Ext F π H F' π' H') (R : Rep K F' π' M' H') : Grow K F1 π1 H1 L ρ σ acc F' π' M' H' := by
  obtain ⟨vs, h1, h2⟩ := g.here
  refine ⟨g.ext.trans x, R, g.env.ext x, ?_, ?_, ⟨vs, x.keep _ _ h1 g.out, h2.ext x⟩⟩
  · obtain ⟨t, rfl, ht⟩ := x.pre
    intro m
    rcases List.mem_append.mp m with z | z
    · exact g.out z
    · rw [ht _ z] at h1
      cases h1
  · cases q : F' L with
    | none => rfl
    | some o =>
      rcases x.new _ _ q with z | z
      · rw [g.fre] at z
        cases z
      · rw [z] at h1
        cases h1
theorem Grow.add (g : Grow K F1 π1 H1 L ρ σ acc F π M H) (hL : H1 L = none) {vs : List V} {d : D} {v : V} (h : H L = some (.lst vs)) (r : RelD K F π d v) : Grow K F1 π1 H1 L ρ σ (acc ++ [d]) F π M (upd H L (.lst (vs ++ [v]))) := by
  obtain ⟨vs', h1, h2⟩ := g.here
  rw [h] at h1
  cases h1
  exact ⟨g.ext.side hL, g.rep.side g.fre g.out, g.env, g.out, g.fre, ⟨_, upd_same, h2.append (.cons r .nil)⟩⟩
theorem Grow.done {E : XK} {Q : VK} {m : Bool} (g : Grow K F1 π1 H1 L ρ σ acc F π M H) (hL : H1 L = none) (p : Post K F1 π1 H1 E (kD K Q) (mkL m acc M)) : Q (.ref L) H := by
  obtain ⟨vs, h1, h2⟩ := g.here
  have R := g.rep
  have eu : upd H L (.lst vs) = H := by
    funext b
    by_cases hb : b = L
    · rw [hb, upd_same, h1]
    · rw [upd_ne hb]
  cases m with
  | false =>
    have sF : Same F (upd F L (.lst vs)) := Same.new g.fre
    refine p (upd F L (.lst vs)) π H ⟨g.ext.fle.trans sF, g.ext.pre, g.ext.keep, g.ext.trk, fun a o e => ?_⟩ ⟨fun b u e => ?_, R.len, R.nd, fun a ha => ?_, R.trk, fun i m a e1 e2 => (R.at_ i m a e1 e2).mono sF ⟨[], by simp⟩⟩ _ (.lst upd_same (h2.mono sF ⟨[], by simp⟩))
    · by_cases ha : a = L
      · exact .inr (ha ▸ hL)
      · rw [upd_ne ha] at e
        exact g.ext.new a o e
    · by_cases hb : b = L
      · rw [hb, upd_same] at e
        cases e
        rw [hb]
        exact h1
      · rw [upd_ne hb] at e
        exact R.same b u e
    · rw [upd_ne (show a ≠ L from fun z => g.out (z ▸ ha))]
      exact R.free a ha
  | true =>
    refine p F (π ++ [L]) H ⟨g.ext.fle, ?_, g.ext.keep, g.ext.trk, g.ext.new⟩ ⟨R.same, by simp [R.len], ?_, fun a ha => ?_, fun a ha => ?_, fun i mo a e1 e2 => ?_⟩ _ (.ref ?_)
    · obtain ⟨t, rfl, ht⟩ := g.ext.pre
      exact ⟨t ++ [L], by simp, fun a ha => by
        rcases List.mem_append.mp ha with z | z
        · exact ht a z
        · rw [List.mem_singleton.mp z]
          exact hL⟩
    · rw [List.nodup_append]
      exact ⟨R.nd, by simp, fun a ha b hb e => g.out (by rw [← List.mem_singleton.mp hb, ← e]; exact ha)⟩
    · rcases List.mem_append.mp ha with z | z
      · exact R.free a z
      · rw [List.mem_singleton.mp z]
        exact g.fre
    · rcases List.mem_append.mp ha with z | z
      · exact R.trk a z
      · rw [List.mem_singleton.mp z, h1]
        simp
    · by_cases hi : i < M.length
      · rw [List.getElem?_append_left hi] at e1
        rw [List.getElem?_append_left (by rw [R.len]; exact hi)] at e2
        exact (R.at_ i mo a e1 e2).mono (fun _ _ h => h) ⟨[L], rfl⟩
      · have hl := (List.getElem?_eq_some_iff.mp e1).1
        have e : i = M.length := by simp at hl; omega
        subst e
        rw [List.getElem?_append_right (Nat.le_refl _)] at e1
        rw [← R.len, List.getElem?_append_right (Nat.le_refl _)] at e2
        simp at e1 e2
        subst e1 e2
        rw [h1]
        exact .lst (h2.mono (fun _ _ h => h) ⟨[L], rfl⟩)
    · rw [List.getElem?_append_right (by rw [R.len]; exact Nat.le_refl _), ← R.len]
      simp
theorem noExc_ok {α β : Type} {x : Rs α} {f : α → Mem → Rs β} {E : XK} {k : Hp → List Addr → Mem → Hp → β → Prop} (p : Post K F π H E k ((noExc x).bind f)) : ∃ a M', x = .ok a M' ∧ Post K F π H E k (f a M') := by
  cases x with
  | ok a M' => exact ⟨a, M', rfl, p⟩
  | _ => exact p.elim
end
/-- the turns of a comprehension: what is left behind k of them -/
theorem lc_sound {X : Cx} {js : Its} {g : SG} {tc : Rho → Mem → Rs Bool} {te : Rho → Mem → Rs D} {own : List Nat} {m : Bool} {ρ : Rho} {F1 : Hp} {π1 : List Addr} {M1 : Mem} {H1 : Hp} {E : XK} {σ : L2.St} {Q : VK} {J : It}
    (hown : ∀ i ∈ g.all, i ∈ own)
    (rem : Nat → List D → Mem → Rs (List D)) (N : Nat) (hN : N ≤ sizeLine)
    (hrem : ∀ k acc M, (∀ a M', rem k acc M ≠ .ok a M') ∨ (js.step k M = some none ∧ rem k acc M = .ok acc M) ∨ ∃ d r', k < N ∧ js.step k M = some (some d) ∧ asg M g d (wipeD ρ own) = some r' ∧
      rem k acc M = ((tc r' M).bind fun b M => match b with
        | true => (te r' M).bind fun y M => rem (k + 1) (acc ++ [y]) M
        | false => rem (k + 1) acc M))
    (IR : ItR X.K F1 π1 js J) (R : Rep X.K F1 π1 M1 H1) (en : EnvR X.K F1 π1 ρ σ) (p : Post X.K F1 π1 H1 E (kD X.K Q) ((noExc (rem 0 [] M1)).bind fun ys M => mkL m ys M)) :
    ∀ L, H1 L = none → ∃ W : Nat → Nat → Hp → Prop, (∃ m, W 0 m (upd H1 L (.lst []))) ∧ ∀ i m H, W i m H →
      (J.stop i H ∧ Q (.ref L) H) ∨ (J.go i H ∧ ∃ Nx : Hp → Prop, (∀ H', Nx H' → ∃ m', m' < m ∧ W (i + 1) m' H') ∧ ∀ x H', J.yld i H x H' → tgOf X.K g x (wipe σ own) H' fun σ2 H2 => wipe σ2 own = wipe σ own ∧ TBu X.K tc W0 σ2 H2 fun b H3 =>
        if b = true then TDu X.K te W0 σ2 H3 fun y H4 => ∃ acc, H4 L = some (.lst acc) ∧ acc.length < sizeLine ∧ Nx (upd H4 L (.lst (acc ++ [y]))) else Nx H3) := by
  intro L hL
  obtain ⟨ys, M', e0, p⟩ := noExc_ok p
  have okof : ∀ {α β : Type} {x : Rs α} {f : α → Mem → Rs β} {b : β} {M2 : Mem}, x.bind f = .ok b M2 → ∃ a M3, x = .ok a M3 ∧ f a M3 = .ok b M2 := by
    intro α β x f b M2 e
    cases x with
    | ok a M3 => exact ⟨a, M3, rfl, e⟩
    | exc _ _ _ _ => cases e
    | bad => cases e
  have hFL : F1 L = none := by
    cases q : F1 L with
    | none => rfl
    | some u => rw [R.same _ _ q] at hL; cases hL
  have g0 : Grow X.K F1 π1 H1 L ρ σ [] F1 π1 M1 (upd H1 L (.lst [])) :=
    ⟨Ext.refl.side hL, R.side hFL (fun z => R.trk L z hL), en, fun z => R.trk L z hL, hFL, ⟨[], upd_same, .nil⟩⟩
  refine ⟨fun i mm H => mm = N - i ∧ ∃ F π M acc, Grow X.K F1 π1 H1 L ρ σ acc F π M H ∧ acc.length ≤ i ∧ rem i acc M = .ok ys M', ⟨N, rfl, F1, π1, M1, [], g0, Nat.le_refl _, e0⟩, ?_⟩
  rintro i mm H ⟨rfl, F, π, M, acc, gr, hla, er⟩
  rcases hrem i acc M with h | ⟨hs, h⟩ | ⟨d, r', hi, hs, ha, h⟩
  · exact absurd er (h _ _)
  · rw [h] at er
    cases er
    exact .inl ⟨IR.stop i F π _ H hs gr.ext.fle gr.ext.pre' gr.rep, gr.done hL p⟩
  · rw [h] at er
    obtain ⟨b, M2, et, er⟩ := okof er
    refine .inr ⟨IR.go i F π M H d hs gr.ext.fle gr.ext.pre' gr.rep, fun H' => ∃ F π M acc, Grow X.K F1 π1 H1 L ρ σ acc F π M H' ∧ acc.length ≤ i + 1 ∧ rem (i + 1) acc M = .ok ys M', fun H' hx => ⟨N - (i + 1), by omega, rfl, hx⟩, fun x H' y => ?_⟩
    obtain ⟨F2, x2, R2, rd⟩ := IR.yld i F π M H x H' d hs gr.ext.fle gr.ext.pre' gr.rep y
    have gr2 := gr.next x2 R2
    refine asg_of ha R2 (gr2.env.wipe own) rd (fun σ2 => wipe σ2 own = wipe σ own) wipe_wipe (fun σ2 j v hj h2 => by rw [wipe_set (hown j hj)]; exact h2) fun σ2 en2 hw => ⟨hw, ?_⟩
    refine ⟨r', M, F2, π, R2, en2, ?_⟩
    rw [et]
    intro F3 π3 H3 x3 R3
    have gr3 := gr2.next x3 R3
    cases b with
    | true =>
      refine iteT ?_
      obtain ⟨yv, M4, ev, er⟩ := okof er
      refine ⟨r', M2, F3, π3, R3, en2.ext x3, ?_⟩
      rw [ev]
      intro F4 π4 H4 x4 R4 v rv
      have gr4 := gr3.next x4 R4
      obtain ⟨vs, h1, h2⟩ := gr4.here
      exact ⟨vs, h1, by rw [← h2.length]; omega, F4, π4, M4, acc ++ [yv], gr4.add hL h1 rv, by simp; omega, er⟩
    | false => exact iteF ⟨F3, π3, M2, acc, gr3, by omega, er⟩

theorem lcGo_cons {g : D → Rho → Mem → Option Rho} {t : Rho → Mem → Rs Bool} {e : Rho → Mem → Rs D} {r : Rho} {d : D} {ds acc : List D} {M : Mem} : lcGo g t e r (d :: ds) acc M = match g d r M with
    | none => .bad
    | some r' => (t r' M).bind fun b M => match b with
      | true => (e r' M).bind fun y M => lcGo g t e r ds (acc ++ [y]) M
      | false => lcGo g t e r ds acc M := rfl
theorem lcAt_succ {g : D → Rho → Mem → Option Rho} {t : Rho → Mem → Rs Bool} {e : Rho → Mem → Rs D} {r : Rho} {i n k : Nat} {en : Bool} {acc : List D} {M : Mem} : lcAt g t e r i en (n + 1) k acc M = (match M[i]? with
    | some (.lst xs) => (match xs[k]? with
      | none => .ok acc M
      | some d => (match g (itemAt en k d) r M with
        | none => .bad
        | some r' => (t r' M).bind fun b M => match b with
          | true => (e r' M).bind fun y M => lcAt g t e r i en n (k + 1) (acc ++ [y]) M
          | false => lcAt g t e r i en n (k + 1) acc M))
    | _ => .bad) := rfl
theorem hrem_vals {g : SG} {tc : Rho → Mem → Rs Bool} {te : Rho → Mem → Rs D} {r : Rho} {xs : List D} (k : Nat) (acc : List D) (M : Mem) :
    (∀ a M', (if k ≤ xs.length then lcGo (fun d r M => asg M g d r) tc te r (xs.drop k) acc M else .bad) ≠ .ok a M') ∨ ((Its.vals xs).step k M = some none ∧ (if k ≤ xs.length then lcGo (fun d r M => asg M g d r) tc te r (xs.drop k) acc M else .bad) = .ok acc M) ∨
      ∃ d r', k < xs.length ∧ (Its.vals xs).step k M = some (some d) ∧ asg M g d r = some r' ∧
      (if k ≤ xs.length then lcGo (fun d r M => asg M g d r) tc te r (xs.drop k) acc M else .bad) = ((tc r' M).bind fun b M => match b with
        | true => (te r' M).bind fun y M => (if k + 1 ≤ xs.length then lcGo (fun d r M => asg M g d r) tc te r (xs.drop (k + 1)) (acc ++ [y]) M else .bad)
        | false => (if k + 1 ≤ xs.length then lcGo (fun d r M => asg M g d r) tc te r (xs.drop (k + 1)) acc M else .bad)) := by
  by_cases h : k ≤ xs.length
  · rw [if_pos h]
    by_cases hk : k < xs.length
    · have hk1 : k + 1 ≤ xs.length := hk
      simp only [if_pos hk1]
      rw [List.drop_eq_getElem_cons hk]
      cases ha : asg M g xs[k] r with
      | none =>
        left
        intro a M' e
        rw [lcGo_cons] at e
        simp only [ha] at e
        cases e
      | some r' =>
        right; right
        refine ⟨xs[k], r', hk, ?_, ha, ?_⟩
        · show (if k ≤ xs.length then some xs[k]? else none) = _
          rw [if_pos h, List.getElem?_eq_getElem hk]
        · rw [lcGo_cons]
          simp only [ha]
    · right; left
      have e : k = xs.length := by omega
      subst e
      refine ⟨?_, ?_⟩
      · show (if xs.length ≤ xs.length then some xs[xs.length]? else none) = _
        rw [if_pos (Nat.le_refl _)]
        simp
      · rw [List.drop_length]
        rfl
  · left
    intro a M' e
    rw [if_neg h] at e
    cases e
theorem hrem_at {g : SG} {tc : Rho → Mem → Rs Bool} {te : Rho → Mem → Rs D} {r : Rho} {j n : Nat} {en : Bool} (k : Nat) (acc : List D) (M : Mem) :
    (∀ a M', lcAt (fun d r M => asg M g d r) tc te r j en (n - k) k acc M ≠ .ok a M') ∨ ((Its.at_ j n en).step k M = some none ∧ lcAt (fun d r M => asg M g d r) tc te r j en (n - k) k acc M = .ok acc M) ∨
      ∃ d r', k < n ∧ (Its.at_ j n en).step k M = some (some d) ∧ asg M g d r = some r' ∧
      lcAt (fun d r M => asg M g d r) tc te r j en (n - k) k acc M = ((tc r' M).bind fun b M => match b with
        | true => (te r' M).bind fun y M => lcAt (fun d r M => asg M g d r) tc te r j en (n - (k + 1)) (k + 1) (acc ++ [y]) M
        | false => lcAt (fun d r M => asg M g d r) tc te r j en (n - (k + 1)) (k + 1) acc M) := by
  have hbad : ∀ {a : List D} {M' : Mem}, (Rs.bad : Rs (List D)) ≠ .ok a M' := fun h => by cases h
  have st : (Its.at_ j n en).step k M = (match M[j]? with
    | some (.lst xs) => some ((xs[k]?).map (itemAt en k))
    | _ => none) := rfl
  by_cases hk : k < n
  · obtain ⟨f, hf⟩ : ∃ f, n - k = f + 1 := ⟨n - k - 1, by omega⟩
    have hf2 : n - (k + 1) = f := by omega
    rw [hf, hf2, lcAt_succ]
    cases hm : M[j]? with
    | none => left; intro a M' e; simp only [hm] at e; cases e
    | some mo =>
      cases mo with
      | lst xs =>
        rw [st]
        simp only [hm]
        cases hx : xs[k]? with
        | none => right; left; exact ⟨by simp, by simp⟩
        | some d =>
          simp only [hx]
          cases ha : asg M g (itemAt en k d) r with
          | none => left; intro a M' e; simp only [ha] at e; cases e
          | some r' =>
            right; right
            exact ⟨itemAt en k d, r', hk, by simp, ha, by simp only [ha]⟩
      | dct _ => left; intro a M' e; simp only [hm] at e; cases e
      | ins _ _ _ => left; intro a M' e; simp only [hm] at e; cases e
      | gone => left; intro a M' e; simp only [hm] at e; cases e
  · have hf : n - k = 0 := by omega
    rw [hf]
    unfold lcAt
    cases hm : M[j]? with
    | none => left; intro a M' e; simp only [hm] at e; cases e
    | some mo =>
      cases mo with
      | lst xs =>
        rw [st]
        simp only [hm]
        by_cases hl : xs.length ≤ k
        · right; left
          exact ⟨by rw [List.getElem?_eq_none_iff.mpr hl]; rfl, by rw [if_pos hl]⟩
        · left; intro a M' e; rw [if_neg hl] at e; cases e
      | dct _ => left; intro a M' e; simp only [hm] at e; cases e
      | ins _ _ _ => left; intro a M' e; simp only [hm] at e; cases e
      | gone => left; intro a M' e; simp only [hm] at e; cases e
/-- what the evaluator does of a comprehension -/
def lcEv (m : Bool) (own : List Nat) (g : SG) (ei : Rho → Mem → Rs Its) (tc : Rho → Mem → Rs Bool) (te : Rho → Mem → Rs D) (r : Rho) (M : Mem) : Rs D := (ei r M).bind fun js M => match js with
    | .vals xs => if xs.length ≤ sizeLine then (noExc (lcGo (fun d r M => asg M g d r) tc te (wipeD r own) xs [] M)).bind fun ys M => mkL m ys M else .bad
    | .at_ i n en => if n ≤ sizeLine then (noExc (lcAt (fun d r M => asg M g d r) tc te (wipeD r own) i en n 0 [] M)).bind fun ys M => mkL m ys M else .bad
theorem lc_read {X : Cx} {ei : Rho → Mem → Rs Its} {g : SG} {tc : Rho → Mem → Rs Bool} {te : Rho → Mem → Rs D} {own : List Nat} {m : Bool} {ρ : Rho} {M : Mem} {W : WX} {σ : L2.St} {H : Hp} {Q : VK}
    (hown : ∀ i ∈ g.all, i ∈ own) (h : TD X.K (lcEv m own g ei tc te ρ M) ρ M W σ H Q) : tLc (TIt X.K (ei ρ M) ρ M W) (tgOf X.K g) (TBu X.K tc W0) (TDu X.K te W0) own σ H Q := by
  obtain ⟨F, π, R, en, p⟩ := h
  refine ⟨F, π, R, en, (Post.then p).imp fun F1 π1 M1 H1 js er x1 R1 p1 J IR => ?_⟩
  cases js with
  | vals xs =>
    obtain ⟨hz, p1⟩ := Post.ite p1
    refine lc_sound (E := WE W σ) (m := m) (ρ := ρ) hown (fun k acc M => if k ≤ xs.length then lcGo (fun d r M => asg M g d r) tc te (wipeD ρ own) (xs.drop k) acc M else .bad) xs.length hz (fun k acc M => hrem_vals k acc M) IR R1 (en.ext x1) ?_
    rw [if_pos (Nat.zero_le _), List.drop_zero]
    exact p1
  | at_ i n e =>
    obtain ⟨hz, p1⟩ := Post.ite p1
    exact lc_sound (E := WE W σ) (m := m) (ρ := ρ) hown (fun k acc M => lcAt (fun d r M => asg M g d r) tc te (wipeD ρ own) i e (n - k) k acc M) n hz (fun k acc M => hrem_at k acc M) IR R1 (en.ext x1) p1
/-- [elt for target in iter if ..] -/
theorem s_lc {X : Cx} {elt tg iter : Expr} {ifs : List Expr} {scope : Scope} {own : List (Str × Nat)} {pos : Pos} {ei : Rho → Mem → Rs Its} {g : SG} {tc : Rho → Mem → Rs Bool} {te : Rho → Mem → Rs D} {m : Bool} (hc : X.calm = true) (hN : X.N.Nodup) (hi : Si X tg iter ei) (ok : BlkOk X.N X.env.scope scope own)
    (hg : ∀ (s : Shared) (H : Hp) (C : Addr) (cl : List (Str × Addr)) (fp : List Addr), PG (X.blk s H scope (compEnvC scope cl C X.env) fp) tg (tgOf X.K g)) (ht : ∀ (s : Shared) (H : Hp) (C : Addr) (cl : List (Str × Addr)) (fp : List Addr), Sc (X.blk s H scope (compEnvC scope cl C X.env) fp) ifs tc)
    (he : ∀ (s : Shared) (H : Hp) (C : Addr) (cl : List (Str × Addr)) (fp : List Addr), Sx (X.blk s H scope (compEnvC scope cl C X.env) fp) elt te) (hs : ∀ x, foldedSetIterable iter X.env x = pure x) (hown : ∀ i ∈ g.all, i ∈ own.map (·.2)) :
    Sx X (.ListComp elt [⟨tg, iter, ifs, 0⟩] scope pos) (lcEv m (own.map (·.2)) g ei tc te) := fun W tk ρ M =>
  (pe_lc hc hN (hi W tk ρ M) ok hg (fun s H C cl fp => ht s H C cl fp W0 takes0) (fun s H C cl fp => (he s H C cl fp).u (W := W0) takes0) hs).mono fun σ H Q h => lc_read hown h
end MP

/-! Statements. -/
namespace MP
open PySem PySem.Spec PyProof.Rows L2 EV
open He (ga)

def PostS (K : PySem.W.Frag) (F : Hp) (π : List Addr) (H : Hp) (W : WX) (D : Ends) : RS → Prop
  | .nx ρ' M' => ∀ F' π' H' σ', Ext F π H F' π' H' → Rep K F' π' M' H' → EnvR K F' π' ρ' σ' → D.nx σ' H'
  | .bk ρ' M' => ∀ F' π' H' σ', Ext F π H F' π' H' → Rep K F' π' M' H' → EnvR K F' π' ρ' σ' → D.bk σ' H'
  | .ct ρ' M' => ∀ F' π' H' σ', Ext F π H F' π' H' → Rep K F' π' M' H' → EnvR K F' π' ρ' σ' → D.ct σ' H'
  | .rt d M' => ∀ F' π' H' v, Ext F π H F' π' H' → Rep K F' π' M' H' → RelD K F' π' d v → D.rt v H'
  | .exc c ns ds ρ' M' => ∀ F' π' H' dd σ', Ext F π H F' π' H' → Rep K F' π' M' H' → EnvR K F' π' ρ' σ' → ExR K F' π' H' ns ds dd → W (.ref (ga K c)) dd σ' H'
  | .bad => False
def TDS (K : PySem.W.Frag) (r : RS) (ρ : Rho) (M : Mem) (W : WX) : TS := fun D σ H => ∃ F π, Rep K F π M H ∧ EnvR K F π ρ σ ∧ PostS K F π H W D r
def TDSu (K : PySem.W.Frag) (ev : Rho → Mem → RS) (W : WX) : TS := fun D σ H => ∃ ρ M, TDS K (ev ρ M) ρ M W D σ H
def Ss (X : Cx) (st : Stmt) (ev : Rho → Mem → RS) : Prop := ∀ W, Takes X W → PS X st (TDSu X.K ev W)
def Sss (X : Cx) (st : List Stmt) (ev : Rho → Mem → RS) : Prop := ∀ W, Takes X W → PSs X st (TDSu X.K ev W)
section
variable {K : PySem.W.Frag} {F F1 H H1 : Hp} {π π1 : List Addr} {M : Mem} {ρ : Rho} {σ : L2.St} {W : WX} {D : Ends}
theorem PostS.shift (a : Ext F π H F1 π1 H1) : ∀ {r : RS}, PostS K F π H W D r → PostS K F1 π1 H1 W D r
  | .nx _ _, h => fun F' π' H' σ' b R e => h F' π' H' σ' (a.trans b) R e
  | .bk _ _, h => fun F' π' H' σ' b R e => h F' π' H' σ' (a.trans b) R e
  | .ct _ _, h => fun F' π' H' σ' b R e => h F' π' H' σ' (a.trans b) R e
  | .rt _ _, h => fun F' π' H' σ' b R e => h F' π' H' σ' (a.trans b) R e
  | .exc _ _ _ _ _, h => fun F' π' H' dd σ' b R e x => h F' π' H' dd σ' (a.trans b) R e x
  | .bad, h => h
/-- an expression, then what is left of the statement -/
theorem PostS.expr {α : Type} {r : Rs α} {f : α → Mem → RS} {k : Hp → List Addr → Mem → Hp → α → Prop} (en : EnvR K F π ρ σ) (p : PostS K F π H W D (r.go ρ f))
    (q : ∀ a M1 F1 π1 H1, r = .ok a M1 → Ext F π H F1 π1 H1 → Rep K F1 π1 M1 H1 → EnvR K F1 π1 ρ σ → PostS K F1 π1 H1 W D (f a M1) → k F1 π1 M1 H1 a) : Post K F π H (WE W σ) k r := by
  cases r with
  | ok a M1 => exact fun F1 π1 H1 x R => q a M1 F1 π1 H1 rfl x R (en.ext x) (PostS.shift x p)
  | exc c ns ds M1 => exact fun F1 π1 H1 dd x R e => p F1 π1 H1 dd σ x R (en.ext x) e
  | bad => exact p.elim
theorem PostS.opt {α : Type} {o : Option α} {f : α → RS} (p : PostS K F π H W D (optS o f)) : ∃ a, o = some a ∧ PostS K F π H W D (f a) := by
  cases o with
  | none => exact p.elim
  | some a => exact ⟨a, rfl, p⟩
end
/-- a statement's reading, by a result of its own -/
theorem Ss.of {X : Cx} {st : Stmt} {ev : Rho → Mem → RS} (h : ∀ W, Takes X W → ∀ ρ M, PS X st (TDS X.K (ev ρ M) ρ M W)) : Ss X st ev := fun W tk => ⟨fun pins s σ H D I ⟨ρ, M, q⟩ => (h W tk ρ M).run pins s σ H D I q⟩
theorem Sss.of {X : Cx} {st : List Stmt} {ev : Rho → Mem → RS} (h : ∀ W, Takes X W → ∀ ρ M, PSs X st (TDS X.K (ev ρ M) ρ M W)) : Sss X st ev := fun W tk => ⟨fun pins s σ H D I ⟨ρ, M, q⟩ => (h W tk ρ M).run pins s σ H D I q⟩
theorem Ss.at {X : Cx} {st : Stmt} {ev : Rho → Mem → RS} {W : WX} (h : Ss X st ev) (tk : Takes X W) (ρ : Rho) (M : Mem) : PS X st (TDS X.K (ev ρ M) ρ M W) := (h W tk).mono fun D σ H q => ⟨ρ, M, q⟩
theorem Sss.at {X : Cx} {st : List Stmt} {ev : Rho → Mem → RS} {W : WX} (h : Sss X st ev) (tk : Takes X W) (ρ : Rho) (M : Mem) : PSs X st (TDS X.K (ev ρ M) ρ M W) := (h W tk).mono fun D σ H q => ⟨ρ, M, q⟩
section
variable {X : Cx} {e a b c o : Expr} {ea eb ec eo ei : Rho → Mem → Rs D} {st : Stmt} {sts rest : List Stmt} {pos : Pos}
theorem ss_nil : Sss X [] (fun r M => .nx r M) := Sss.of fun W tk ρ M => pss_nil.mono fun D σ H ⟨F, π, R, en, p⟩ => p F π H σ .refl R en
theorem ss_cons {f g : Rho → Mem → RS} (h1 : Ss X st f) (h2 : Sss X rest g) : Sss X (st :: rest) (fun r M => (f r M).go g) := Sss.of fun W tk ρ M =>
  (pss_cons (h1.at tk ρ M) (h2 W tk)).mono fun D σ H ⟨F, π, R, en, p⟩ => ⟨F, π, R, en, by
    cases q : f ρ M with
    | nx ρ' M' =>
      rw [q] at p
      exact fun F' π' H' σ' x R' en' => ⟨ρ', M', F', π', R', en', PostS.shift (r := g ρ' M') x p⟩
    | _ => rw [q] at p; exact p⟩
/-- name = e -/
theorem s_set {i : Nat} {te : TE → TE} (h : ∀ W, Takes X W → ∀ ρ M, ∃ t, PS X st (tAsg t (gName i)) ∧ ∀ σ H Q, TD X.K (ea ρ M) ρ M W σ H Q → t σ H Q) : Ss X st (fun r M => (ea r M).go r fun x M => .nx (r.set i (some x)) M) := Ss.of fun W tk ρ M => by
  obtain ⟨t, h1, h2⟩ := h W tk ρ M
  refine h1.mono fun D σ H ⟨F, π, R, en, p⟩ => h2 σ H _ ⟨F, π, R, en, ?_⟩
  exact p.expr en fun x M1 F1 π1 H1 er x1 R1 en1 p1 v rv => p1 F1 π1 H1 _ .refl R1 (en1.set rv i)
/-- a, b, .. = e -/
theorem s_unp {is : List Nat} (ha : Sx X a ea) (mk : ∀ t, PE X a t → PS X st (tAsg t (tgOf X.K (.tp is)))) : Ss X st (fun r M => (ea r M).go r fun x M => optS (asg M (.tp is) x r) fun r => .nx r M) := Ss.of fun W tk ρ M => by
  refine (mk _ (ha W tk ρ M)).mono fun D σ H ⟨F, π, R, en, p⟩ => ⟨F, π, R, en, ?_⟩
  refine p.expr en fun x M1 F1 π1 H1 er x1 R1 en1 p1 v rv => ?_
  obtain ⟨r', e, p1⟩ := p1.opt
  exact asg_of e R1 en1 rv (fun _ => True) True.intro (fun _ _ _ _ _ => True.intro) fun σ' en' _ => p1 F1 π1 H1 σ' .refl R1 en'
/-- a, b = x, y of plain names -/
theorem s_par {i j : Nat} {ees : Rho → Mem → Rs (List D)} {es : List Expr} (ha : Sa X es ees) (mk : ∀ t, PA X es t → PS X st (tPar i j t)) : Ss X st (fun r M => (ees r M).go r fun xs M => optS (setAll r [i, j] xs) fun r => .nx r M) := Ss.of fun W tk ρ M => by
  refine (mk _ (ha W tk ρ M)).mono fun D σ H ⟨F, π, R, en, p⟩ => ⟨F, π, R, en, ?_⟩
  refine p.expr en fun xs M1 F1 π1 H1 er x1 R1 en1 p1 vs rv => ?_
  obtain ⟨r', e, p1⟩ := p1.opt
  match xs, rv with
  | [d1, d2], .cons r1 (.cons r2 .nil) =>
    cases e
    exact ⟨_, _, rfl, p1 F1 π1 H1 _ .refl R1 ((en1.set r1 i).set r2 j)⟩
  | [], _ => cases e
  | [_], _ => cases e
  | _ :: _ :: _ :: _, _ => cases e
theorem s_par3 {i j l : Nat} {ees : Rho → Mem → Rs (List D)} {es : List Expr} (ha : Sa X es ees) (mk : ∀ t, PA X es t → PS X st (tPar3 i j l t)) : Ss X st (fun r M => (ees r M).go r fun xs M => optS (setAll r [i, j, l] xs) fun r => .nx r M) := Ss.of fun W tk ρ M => by
  refine (mk _ (ha W tk ρ M)).mono fun D σ H ⟨F, π, R, en, p⟩ => ⟨F, π, R, en, ?_⟩
  refine p.expr en fun xs M1 F1 π1 H1 er x1 R1 en1 p1 vs rv => ?_
  obtain ⟨r', e, p1⟩ := p1.opt
  match xs, rv with
  | [d1, d2, d3], .cons r1 (.cons r2 (.cons r3 .nil)) =>
    cases e
    exact ⟨_, _, _, rfl, p1 F1 π1 H1 _ .refl R1 (((en1.set r1 i).set r2 j).set r3 l)⟩
  | [], _ => cases e
  | [_], _ => cases e
  | [_, _], _ => cases e
  | _ :: _ :: _ :: _ :: _, _ => cases e
/-- o[i] = e -/
theorem s_sub {tpos : Pos} (hu : X.A.units + 65 < cLine) (hv : Sx X e ea) (ho : Sx X o eo) (hi : Sx X b ei) (hs : swapsWith e (some (.Subscript o b tpos)) pos.line X.env = pure false)
    (hw : swappedStores [.Subscript o b tpos] e X.env = pure none) (hass : ∀ v, assign (.Subscript o b tpos) X.env v = (do
      let ov ← holding [v] (eval o X.env)
      let iv ← holding [v, ov] (eval b X.env)
      standAt tpos
      holding [v, ov, iv] (setItem ov iv v)
      release [v, ov, iv] [])) : Ss X (.Assign [.Subscript o b tpos] e pos) (fun r M => (ea r M).go r fun v M => (eo r M).go r fun x M => (ei r M).go r fun y M => optS (subD M x y v) fun M => .nx r M) := Ss.of fun W tk ρ M => by
  let M1 := (ea ρ M).mem M
  let M2 := (eo ρ M1).mem M1
  have hs1 : swapsWithSole [.Subscript o b tpos] e pos.line X.env = pure false := hs
  have go : ∀ (st : TS), PS X (.Assign [.Subscript o b tpos] e pos) st → (∀ D σ H, TDS X.K ((ea ρ M).go ρ fun v M => (eo ρ M).go ρ fun x M => (ei ρ M).go ρ fun y M => optS (subD M x y v) fun M => .nx ρ M) ρ M W D σ H → st D σ H) → PS X (.Assign [.Subscript o b tpos] e pos) (TDS X.K ((ea ρ M).go ρ fun v M => (eo ρ M).go ρ fun x M => (ei ρ M).go ρ fun y M => optS (subD M x y v) fun M => .nx ρ M) ρ M W) := fun st h i => h.mono i
  -- what is at the object
  by_cases hd : ∃ j kvs, (eo ρ M1).val = .ref j ∧ ((ei ρ M2).mem M2)[j]? = some (.dct kvs)
  · obtain ⟨j, kvs, hj, hm⟩ := hd
    refine go _ (ps_dput (by omega) (ho W tk ρ M1) (hi W tk ρ M2) (hv W tk ρ M) hs) fun D σ H ⟨F, π, R, en, p⟩ => ⟨F, π, R, en, ?_⟩
    refine p.expr en fun v M1' F1 π1 H1 er x1 R1 en1 p1 vv rv => ?_
    have e1 : M1 = M1' := by show (ea ρ M).mem M = M1'; rw [er]; rfl
    refine ⟨F1, π1, e1 ▸ R1, en1, ?_⟩
    refine (e1 ▸ p1 : PostS X.K F1 π1 H1 W D ((eo ρ M1).go ρ fun x M => (ei ρ M).go ρ fun y M => optS (subD M x y v) fun M => .nx ρ M)).expr en1 fun x M2' F2 π2 H2 er2 x2 R2 en2 p2 ov ro => ?_
    have e2 : M2 = M2' := by show (eo ρ M1).mem M1 = M2'; rw [er2]; rfl
    have hx : x = .ref j := by rw [er2] at hj; exact hj
    refine ⟨F2, π2, e2 ▸ R2, en2, ?_⟩
    refine (e2 ▸ p2 : PostS X.K F2 π2 H2 W D ((ei ρ M2).go ρ fun y M => optS (subD M x y v) fun M => .nx ρ M)).expr en2 fun y M3 F3 π3 H3 er3 x3 R3 en3 p3 iv ri => ?_
    obtain ⟨M4, e4, p3⟩ := p3.opt
    subst hx
    rw [er3] at hm
    have hm : M3[j]? = some (.dct kvs) := hm
    unfold subD at e4
    simp only [hm] at e4
    split at e4
    · rename_i k hk
      split at e4
      · rename_i hz
        cases e4
        have ro3 := ro.ext x3
        cases ro3 with
        | @ref a _ h =>
          have q := R3.get hm h
          generalize hq : H3 a = u at q
          cases q with
          | @dct _ us hkk hr =>
            have hl : kvs.length = us.length := by
              have := congrArg List.length hkk
              simpa using this
            obtain ⟨q1, q2⟩ := storeK_map hkk hr k ((rv.ext x2).ext x3)
            obtain ⟨R4, x4⟩ := R3.put (o := .dK (putK us k vv)) (m := .dct (storeK kvs k v)) h (.dct q1 q2)
            exact ⟨a, _, rfl, .inl ⟨us, k, hq, key_of hk ri, by rw [← hl]; exact hz, rfl⟩, p3 F3 π3 _ σ x4 R4 en3⟩
      · cases e4
    · cases e4
  · refine go _ (ps_asg (hv W tk ρ M) (pg_sub (ho W tk ρ M1) (hi W tk ρ M2) set_list hass) hs1 hw rfl) fun D σ H ⟨F, π, R, en, p⟩ => ⟨F, π, R, en, ?_⟩
    refine p.expr en fun v M1' F1 π1 H1 er x1 R1 en1 p1 vv rv => ?_
    have e1 : M1 = M1' := by show (ea ρ M).mem M = M1'; rw [er]; rfl
    refine ⟨F1, π1, e1 ▸ R1, en1, ?_⟩
    refine (e1 ▸ p1 : PostS X.K F1 π1 H1 W D ((eo ρ M1).go ρ fun x M => (ei ρ M).go ρ fun y M => optS (subD M x y v) fun M => .nx ρ M)).expr en1 fun x M2' F2 π2 H2 er2 x2 R2 en2 p2 ov ro => ?_
    have e2 : M2 = M2' := by show (eo ρ M1).mem M1 = M2'; rw [er2]; rfl
    refine ⟨F2, π2, e2 ▸ R2, en2, ?_⟩
    refine (e2 ▸ p2 : PostS X.K F2 π2 H2 W D ((ei ρ M2).go ρ fun y M => optS (subD M x y v) fun M => .nx ρ M)).expr en2 fun y M3 F3 π3 H3 er3 x3 R3 en3 p3 iv ri => ?_
    obtain ⟨M4, e4, p3⟩ := p3.opt
    have ro3 := ro.ext x3
    cases ro3 with
    | @ref a j h =>
      unfold subD at e4
      dsimp only at e4
      split at e4
      · rename_i xs hm
        cases ri with
        | int k =>
          obtain ⟨n, e5, rfl⟩ := Option.map_eq_some_iff.mp e4
          have q := R3.get hm h
          generalize hq : H3 a = u at q
          cases q with
          | @lst _ vs q =>
            obtain ⟨R4, x4⟩ := R3.put (o := .lst (vs.set n vv)) (m := .lst (xs.set n v)) h (.lst (q.set ((rv.ext x2).ext x3) n))
            exact ⟨a, vs, k, n, rfl, rfl, hq, by rw [← q.length]; exact e5, p3 F3 π3 _ σ x4 R4 en3⟩
        | _ => cases e4
      · rename_i kvs hm
        exact absurd ⟨j, kvs, by rw [er2]; rfl, by rw [er3]; exact hm⟩ hd
      · cases e4
    | _ => cases e4
/-- name op= e, numbers -/
theorem s_aug {i : Nat} {o : BO} (h : ∀ W, Takes X W → ∀ ρ M, ∃ ti, PS X st (tAug i (TD X.K (ea ρ M) ρ M W) ti) ∧ ∀ x y M H Q F π E, Rep X.K F π M H → Post X.K F π H E (kD X.K Q) (binD false o (.int x) (.int y) M) → ti (.int x) (.int y) H Q) :
    Ss X st (fun r M => optS (get r i) fun x => (ea r M).go r fun y M => (match x, y with
    | .int _, .int _ => (binD false o x y M).go r fun z M => .nx (r.set i (some z)) M
    | _, _ => .bad)) := Ss.of fun W tk ρ M => by
  obtain ⟨ti, h1, h2⟩ := h W tk ρ M
  refine h1.mono fun D σ H ⟨F, π, R, en, p⟩ => ?_
  obtain ⟨x, ex, p⟩ := p.opt
  unfold get at ex
  split at ex
  · rename_i d hd
    cases ex
    obtain ⟨v, hv1, hv2⟩ := en.2 i x hd
    refine ⟨v, hv1, F, π, R, en, ?_⟩
    refine p.expr en fun y M1 F1 π1 H1 er x1 R1 en1 p1 w rw' => ?_
    cases x with
    | int xi =>
      cases y with
      | int yi =>
        cases hv2
        cases rw'
        exact h2 xi yi M1 H1 _ F1 π1 (WE W σ) R1 (PostS.expr (k := kD X.K fun z H2 => D.nx (σ.set i (some z)) H2) en1 p1 fun z M2 F2 π2 H2 er2 x2 R2 en2 p2 zv rz => p2 F2 π2 H2 _ .refl R2 (en2.set rz i))
      | _ => exact p1.elim
    | _ => cases y <;> exact p1.elim
  · cases ex
theorem s_ex (ha : Sx X a ea) (hs : swapsWith a none pos.line X.env = pure false) : Ss X (.Expr a pos) (fun r M => (ea r M).go r fun _ M => .nx r M) := Ss.of fun W tk ρ M =>
  (ps_expr (ha W tk ρ M) hs).mono fun D σ H ⟨F, π, R, en, p⟩ => ⟨F, π, R, en, p.expr en fun x M1 F1 π1 H1 er x1 R1 en1 p1 v rv => p1 F1 π1 H1 σ .refl R1 en1⟩
theorem s_ret (ha : Sx X a ea) : Ss X (.Return (some a) pos) (fun r M => (ea r M).go r fun x M => .rt x M) := Ss.of fun W tk ρ M =>
  (ps_ret (ha W tk ρ M)).mono fun D σ H ⟨F, π, R, en, p⟩ => ⟨F, π, R, en, p.expr en fun x M1 F1 π1 H1 er x1 R1 en1 p1 v rv => p1 F1 π1 H1 v .refl R1 rv⟩
theorem s_ret0 : Ss X (.Return none pos) (fun _ M => .rt .non M) := Ss.of fun W tk ρ M =>
  ps_retN.mono fun D σ H ⟨F, π, R, en, p⟩ => p F π H _ .refl R .non
theorem s_pas : Ss X (.Pass pos) (fun r M => .nx r M) := Ss.of fun W tk ρ M => ps_pass.mono fun D σ H ⟨F, π, R, en, p⟩ => p F π H σ .refl R en
theorem s_brk : Ss X (.Break pos) (fun r M => .bk r M) := Ss.of fun W tk ρ M => ps_break.mono fun D σ H ⟨F, π, R, en, p⟩ => p F π H σ .refl R en
theorem s_cnt : Ss X (.Continue pos) (fun r M => .ct r M) := Ss.of fun W tk ρ M => ps_continue.mono fun D σ H ⟨F, π, R, en, p⟩ => p F π H σ .refl R en
theorem s_if {tc : Rho → Mem → Rs Bool} {f g : Rho → Mem → RS} {as bs : List Stmt} (hc : Sb X c tc) (ha : Sss X as f) (hb : Sss X bs g) : Ss X (.If c as bs pos) (fun r M => (tc r M).go r fun k M => match k with
    | true => f r M
    | false => g r M) := Ss.of fun W tk ρ M =>
  (ps_if (hc W tk ρ M) (ha W tk) (hb W tk)).mono fun D σ H ⟨F, π, R, en, p⟩ => ⟨F, π, R, en, p.expr en fun k M1 F1 π1 H1 er x1 R1 en1 p1 => by
    cases k with
    | true => exact iteT ⟨ρ, M1, F1, π1, R1, en1, p1⟩
    | false => exact iteF ⟨ρ, M1, F1, π1, R1, en1, p1⟩⟩
theorem s_while {tc : Rho → Mem → Rs Bool} {f : Rho → Mem → RS} {bs : List Stmt} {n : Nat} (po : PassesOwn (model X.prog X.w) X.A X.env X.xe) (hc : Sb X c tc) (hb : Sss X bs f) : Ss X (.While c bs [] pos) (fun r M => whlGo tc f n r M) := Ss.of fun W tk ρ M => by
  refine (ps_while po (hc.u tk) (hb W tk)).mono fun D σ H ⟨F, π, R, en, p⟩ => ?_
  refine ⟨fun m σ H => ∃ F π ρ M, Rep X.K F π M H ∧ EnvR X.K F π ρ σ ∧ PostS X.K F π H W D (whlGo tc f m ρ M), ⟨n, F, π, ρ, M, R, en, p⟩, ?_⟩
  rintro m σ H ⟨F, π, ρ, M, R, en, p⟩
  cases m with
  | zero => exact p.elim
  | succ m =>
    refine ⟨ρ, M, F, π, R, en, ?_⟩
    refine PostS.expr (r := tc ρ M) en p fun k M1 F1 π1 H1 er x1 R1 en1 p1 => ?_
    cases k with
    | false => exact iteF (p1 F1 π1 H1 σ .refl R1 en1)
    | true =>
      refine iteT ⟨fun σ' H' => ∃ F π ρ M, Rep X.K F π M H' ∧ EnvR X.K F π ρ σ' ∧ PostS X.K F π H' W D (whlGo tc f m ρ M), fun σ' H' h => ⟨m, Nat.lt_succ_self m, h⟩, ρ, M1, F1, π1, R1, en1, ?_⟩
      cases q : f ρ M1 with
      | nx r M2 => simp only [q] at p1; exact fun F' π' H' σ' x R' en' => ⟨F', π', r, M2, R', en', PostS.shift x p1⟩
      | ct r M2 => simp only [q] at p1; exact fun F' π' H' σ' x R' en' => ⟨F', π', r, M2, R', en', PostS.shift x p1⟩
      | bk r M2 => simp only [q] at p1; exact p1
      | rt d M2 => simp only [q] at p1; exact p1
      | exc _ _ _ _ _ => simp only [q] at p1; exact p1
      | bad => simp only [q] at p1; exact p1
/-- the turns of a for -/
theorem for_sound {js : Its} {g : SG} {f : Rho → Mem → RS} {F0 H0 : Hp} {π0 : List Addr} {M0 : Mem} {W : WX} {D : Ends} {σ0 : L2.St} {ρ0 : Rho} {J : It}
    (rem : Nat → Rho → Mem → RS) (N : Nat)
    (hrem : ∀ k ρ M, rem k ρ M = .bad ∨ (js.step k M = some none ∧ rem k ρ M = .nx ρ M) ∨ ∃ d r', k < N ∧ js.step k M = some (some d) ∧ asg M g d ρ = some r' ∧
      rem k ρ M = (match f r' M with
        | .nx r M => rem (k + 1) r M
        | .ct r M => rem (k + 1) r M
        | .bk r M => .nx r M
        | y => y))
    (IR : ItR X.K F0 π0 js J) (R : Rep X.K F0 π0 M0 H0) (en : EnvR X.K F0 π0 ρ0 σ0) (p : PostS X.K F0 π0 H0 W D (rem 0 ρ0 M0)) :
    ∃ WW : Nat → Nat → L2.St → Hp → Prop, (∃ m, WW 0 m σ0 H0) ∧ ∀ i m σ H, WW i m σ H →
      (J.stop i H ∧ D.nx σ H) ∨ (J.go i H ∧ ∃ Nx : L2.St → Hp → Prop, (∀ σ' H', Nx σ' H' → ∃ m', m' < m ∧ WW (i + 1) m' σ' H') ∧ ∀ x H', J.yld i H x H' → tgOf X.K g x σ H' fun σ2 H2 => TDSu X.K f W { D with nx := Nx, ct := Nx, bk := D.nx } σ2 H2) := by
  refine ⟨fun i m σ H => m = N - i ∧ ∃ F π ρ M, Same F0 F ∧ (∃ t, π = π0 ++ t) ∧ Rep X.K F π M H ∧ EnvR X.K F π ρ σ ∧ PostS X.K F π H W D (rem i ρ M), ⟨N, rfl, F0, π0, ρ0, M0, fun _ _ h => h, ⟨[], by simp⟩, R, en, p⟩, ?_⟩
  rintro i m σ H ⟨rfl, F, π, ρ, M, sF, sp, R, en, p⟩
  rcases hrem i ρ M with h | ⟨hs, h⟩ | ⟨d, r', hi, hs, ha, h⟩
  · rw [h] at p
    exact p.elim
  · rw [h] at p
    exact .inl ⟨IR.stop i F π M H hs sF sp R, p F π H σ .refl R en⟩
  · rw [h] at p
    refine .inr ⟨IR.go i F π M H d hs sF sp R, fun σ' H' => ∃ F π ρ M, Same F0 F ∧ (∃ t, π = π0 ++ t) ∧ Rep X.K F π M H' ∧ EnvR X.K F π ρ σ' ∧ PostS X.K F π H' W D (rem (i + 1) ρ M), fun σ' H' hx => ⟨N - (i + 1), by omega, rfl, hx⟩, fun x H' y => ?_⟩
    obtain ⟨F2, x2, R2, rd⟩ := IR.yld i F π M H x H' d hs sF sp R y
    refine asg_of ha R2 (en.ext x2) rd (fun _ => True) True.intro (fun _ _ _ _ _ => True.intro) fun σ2 en2 _ => ⟨r', M, F2, π, R2, en2, ?_⟩
    have pre : ∀ {F' π' H'}, Ext F2 π H' F' π' H' → True := fun _ => True.intro
    cases q : f r' M with
    | nx r M2 =>
      simp only [q] at p
      exact fun F' π' H' σ' x3 R' en' => ⟨F', π', r, M2, (sF.trans x2.fle).trans x3.fle, by
        obtain ⟨t, rfl⟩ := sp
        obtain ⟨u, e⟩ := x3.pre'
        exact ⟨t ++ u, by rw [e, List.append_assoc]⟩, R', en', PostS.shift (x2.trans x3) p⟩
    | ct r M2 =>
      simp only [q] at p
      exact fun F' π' H' σ' x3 R' en' => ⟨F', π', r, M2, (sF.trans x2.fle).trans x3.fle, by
        obtain ⟨t, rfl⟩ := sp
        obtain ⟨u, e⟩ := x3.pre'
        exact ⟨t ++ u, by rw [e, List.append_assoc]⟩, R', en', PostS.shift (x2.trans x3) p⟩
    | bk r M2 => simp only [q] at p; exact PostS.shift (r := .nx r M2) x2 p
    | rt d2 M2 => simp only [q] at p; exact PostS.shift (r := .rt d2 M2) x2 p
    | exc c2 ns2 ds2 r2 M2 => simp only [q] at p; exact PostS.shift (r := .exc c2 ns2 ds2 r2 M2) x2 p
    | bad => simp only [q] at p; exact p
theorem forGo_cons {step : D → Rho → Mem → RS} {d : D} {ds : List D} {r : Rho} {M : Mem} : forGo step (d :: ds) r M = (match step d r M with
    | .nx r M => forGo step ds r M
    | .ct r M => forGo step ds r M
    | .bk r M => .nx r M
    | y => y) := rfl
theorem forAt_succ {step : D → Rho → Mem → RS} {i n k : Nat} {en : Bool} {r : Rho} {M : Mem} : forAt step i en (n + 1) k r M = (match M[i]? with
    | some (.lst xs) => (match xs[k]? with
      | none => .nx r M
      | some d => (match step (itemAt en k d) r M with
        | .nx r M => forAt step i en n (k + 1) r M
        | .ct r M => forAt step i en n (k + 1) r M
        | .bk r M => .nx r M
        | y => y))
    | _ => .bad) := rfl
theorem frem_vals {g : SG} {f : Rho → Mem → RS} {xs : List D} (k : Nat) (ρ : Rho) (M : Mem) :
    (if k ≤ xs.length then forGo (fun d r M => optS (asg M g d r) fun r => f r M) (xs.drop k) ρ M else .bad) = .bad ∨ ((Its.vals xs).step k M = some none ∧ (if k ≤ xs.length then forGo (fun d r M => optS (asg M g d r) fun r => f r M) (xs.drop k) ρ M else .bad) = .nx ρ M) ∨
      ∃ d r', k < xs.length ∧ (Its.vals xs).step k M = some (some d) ∧ asg M g d ρ = some r' ∧
      (if k ≤ xs.length then forGo (fun d r M => optS (asg M g d r) fun r => f r M) (xs.drop k) ρ M else .bad) = (match f r' M with
        | .nx r M => (if k + 1 ≤ xs.length then forGo (fun d r M => optS (asg M g d r) fun r => f r M) (xs.drop (k + 1)) r M else .bad)
        | .ct r M => (if k + 1 ≤ xs.length then forGo (fun d r M => optS (asg M g d r) fun r => f r M) (xs.drop (k + 1)) r M else .bad)
        | .bk r M => .nx r M
        | y => y) := by
  by_cases h : k ≤ xs.length
  · rw [if_pos h]
    by_cases hk : k < xs.length
    · have hk1 : k + 1 ≤ xs.length := hk
      simp only [if_pos hk1]
      rw [List.drop_eq_getElem_cons hk]
      cases ha : asg M g xs[k] ρ with
      | none =>
        left
        rw [forGo_cons]
        simp only [ha, optS]
      | some r' =>
        right; right
        refine ⟨xs[k], r', hk, ?_, ha, ?_⟩
        · show (if k ≤ xs.length then some xs[k]? else none) = _
          rw [if_pos h, List.getElem?_eq_getElem hk]
        · rw [forGo_cons]
          simp only [ha, optS]
    · right; left
      have e : k = xs.length := by omega
      subst e
      refine ⟨?_, ?_⟩
      · show (if xs.length ≤ xs.length then some xs[xs.length]? else none) = _
        rw [if_pos (Nat.le_refl _)]
        simp
      · rw [List.drop_length]
        rfl
  · left
    rw [if_neg h]
theorem frem_at {g : SG} {f : Rho → Mem → RS} {j n : Nat} {en : Bool} (k : Nat) (ρ : Rho) (M : Mem) :
    forAt (fun d r M => optS (asg M g d r) fun r => f r M) j en (n - k) k ρ M = .bad ∨ ((Its.at_ j n en).step k M = some none ∧ forAt (fun d r M => optS (asg M g d r) fun r => f r M) j en (n - k) k ρ M = .nx ρ M) ∨
      ∃ d r', k < n ∧ (Its.at_ j n en).step k M = some (some d) ∧ asg M g d ρ = some r' ∧
      forAt (fun d r M => optS (asg M g d r) fun r => f r M) j en (n - k) k ρ M = (match f r' M with
        | .nx r M => forAt (fun d r M => optS (asg M g d r) fun r => f r M) j en (n - (k + 1)) (k + 1) r M
        | .ct r M => forAt (fun d r M => optS (asg M g d r) fun r => f r M) j en (n - (k + 1)) (k + 1) r M
        | .bk r M => .nx r M
        | y => y) := by
  have st : (Its.at_ j n en).step k M = (match M[j]? with
    | some (.lst xs) => some ((xs[k]?).map (itemAt en k))
    | _ => none) := rfl
  by_cases hk : k < n
  · obtain ⟨m, hf⟩ : ∃ m, n - k = m + 1 := ⟨n - k - 1, by omega⟩
    have hf2 : n - (k + 1) = m := by omega
    rw [hf, hf2, forAt_succ]
    cases hm : M[j]? with
    | none => left; rfl
    | some mo =>
      cases mo with
      | lst xs =>
        rw [st]
        simp only [hm]
        cases hx : xs[k]? with
        | none => right; left; exact ⟨by simp, by simp⟩
        | some d =>
          simp only [hx]
          cases ha : asg M g (itemAt en k d) ρ with
          | none => left; simp only [ha, optS]
          | some r' =>
            right; right
            exact ⟨itemAt en k d, r', hk, by simp, ha, by simp only [ha, optS]⟩
      | dct _ => left; rfl
      | ins _ _ _ => left; rfl
      | gone => left; rfl
  · have hf : n - k = 0 := by omega
    rw [hf]
    unfold forAt
    cases hm : M[j]? with
    | none => left; rfl
    | some mo =>
      cases mo with
      | lst xs =>
        rw [st]
        simp only [hm]
        by_cases hl : xs.length ≤ k
        · right; left
          exact ⟨by rw [List.getElem?_eq_none_iff.mpr hl]; rfl, by rw [if_pos hl]⟩
        · left; rw [if_neg hl]
      | dct _ => left; rfl
      | ins _ _ _ => left; rfl
      | gone => left; rfl
theorem s_for {tg it : Expr} {ei : Rho → Mem → Rs Its} {g : SG} {f : Rho → Mem → RS} {bs : List Stmt} (po : PassesOwn (model X.prog X.w) X.A X.env X.xe) (hc : X.calm = true) (hi : Si X tg it ei) (hg : PG X tg (tgOf X.K g)) (hb : Sss X bs f)
    (mk : ∀ wi tb, PI X tg it wi → PSs X bs tb → PS X st (tFor wi (tgOf X.K g) tb)) : Ss X st (fun r M => (ei r M).go r fun js M => match js with
    | .vals xs => forGo (fun d r M => optS (asg M g d r) fun r => f r M) xs r M
    | .at_ i n en => forAt (fun d r M => optS (asg M g d r) fun r => f r M) i en n 0 r M) := Ss.of fun W tk ρ M => by
  refine (mk _ _ (hi W tk ρ M) (hb W tk)).mono fun D σ H ⟨F, π, R, en, p⟩ => ⟨F, π, R, en, ?_⟩
  refine p.expr en fun js M1 F1 π1 H1 er x1 R1 en1 p1 J IR => ?_
  cases js with
  | vals xs =>
    refine for_sound (fun k ρ M => if k ≤ xs.length then forGo (fun d r M => optS (asg M g d r) fun r => f r M) (xs.drop k) ρ M else .bad) xs.length (fun k ρ M => frem_vals k ρ M) IR R1 en1 ?_
    rw [if_pos (Nat.zero_le _), List.drop_zero]
    exact p1
  | at_ i n e =>
    exact for_sound (fun k ρ M => forAt (fun d r M => optS (asg M g d r) fun r => f r M) i e (n - k) k ρ M) n (fun k ρ M => frem_at k ρ M) IR R1 en1 p1
end
end MP

/-! Errors: raise, try. -/
namespace MP
open PySem PySem.Spec PyProof.Rows L2 EV
open He (ga ma)

theorem noneOf {H : Hp} {a b : Addr} {o : HO} (h : upd H a o b = none) : H b = none := by
  by_cases e : b = a
  · rw [e, upd_same] at h
    cases h
  · rw [upd_ne e] at h
    exact h
/-! ### C(e): the error is made, its one field is written -/
def spI (K : PySem.W.Frag) (C : Addr) (f : Str) : Sp := fun vs H Q _ => ∃ (a : Addr) (v : V), vs = [.ref a, v] ∧ H a = some (exo a C none) ∧ ∀ dx, H dx = none → dx ≠ a → Q .non (upd (upd H dx (exd dx [(f, v)])) a (exo a C (some dx)))
theorem passes0 {X : Cx} : Passes (L2.CX X.prog X.w) X (fun _ _ _ => False) := fun _ _ _ _ _ _ _ h => by
  obtain ⟨_, _, _, _, _, _, _, _, _, _, _, _, z⟩ := h
  exact z.elim
/-- an error class of one field: it is made by its own __init__ -/
structure RzOk (X : Cx) (c f : Str) : Prop where
  oex : OexC X.K (ga X.K c)
  glo : X.mg c = some (.ref (ga X.K c))
  init : ∃ (k : Nat) (fI : Addr) (fd : FuncData) (ps : List Str), PySem.W.findIn X.K (.ref (ga X.K c)) "__init__" = some (some (.ref fI)) ∧ PySem.W.typeIn X.K (.ref fI) = some (.type "function") ∧
    FnOk X.prog X.w X.K X.mg X.base (L2.CX X.prog X.w) k fI fd ps (spI X.K (ga X.K c) f) ∧ Room (k + 1) X.A ∧ Binds X.K fd ps []
theorem s_rai {X : Cx} {c f : Str} {e : Expr} {es : List Expr} {ees : Rho → Mem → Rs (List D)} {p pos pos' : Pos} (hc : X.calm = true) (T : RzOk X c f) (hg : Gl X c) (ha : Sa X (e :: es) ees) (hdb : (c == ("__debug__" : Str)) = false)
    (he : starEach (e :: es) X.env = (false, eval e X.env) :: starEach es X.env) (hpl : (backTo pos (starEach es X.env)).any (·.1) = false) {ex : Option (List Str)} (hx : ex = some [f] ∨ ex = none) :
    Ss X (.Raise (some (.Call (.Name c p) (e :: es) [] pos)) none pos') (fun r M => (ees r M).go r fun xs M => optS ex fun ns => if xs.length = ns.length then .exc c ns xs r M else .bad) := Ss.of fun W tk ρ M => by
  obtain ⟨k, fI, fd, ps, iC, tI, F1, hr, hb⟩ := T.init
  refine (ps_raise hc tk (pmk_oex T.oex iC tI F1 hr hb .nil passes0 hg T.glo (ha W tk ρ M) hdb he hpl)).mono fun D σ H ⟨F, π, R, en, p⟩ => ⟨F, π, R, en, ?_⟩
  refine p.expr en fun xs M1 F1 π1 H1 er x1 R1 en1 p1 vs rv => ?_
  obtain ⟨ns, e1, p1⟩ := p1.opt
  rcases hx with rfl | rfl
  · cases e1
    by_cases hl : xs.length = [f].length
    · rw [if_pos hl] at p1
      match xs, rv with
      | [x], .cons (v := v) rx .nil =>
        refine ⟨by simp, fun a ha => ⟨a, v, rfl, upd_same, fun dx hdx hne => ⟨rfl, dx, [(f, v)], upd_same, ?_, noneOf hdx, ?_⟩⟩⟩
        · rw [upd_ne hne, upd_same]
        · have eq : upd (del (upd (upd (upd H1 a (exo a (ga X.K c) none)) dx (exd dx [(f, v)])) a (exo a (ga X.K c) (some dx))) a) dx (.xd [(f, v)]) = upd H1 dx (.xd [(f, v)]) := by
            funext b
            by_cases h1 : b = dx
            · rw [h1, upd_same, upd_same]
            · rw [upd_ne h1, upd_ne h1]
              by_cases h2 : b = a
              · rw [h2, del_same, ha]
              · rw [del_ne h2, upd_ne h2, upd_ne h1, upd_ne h2]
          rw [eq]
          obtain ⟨R2, x2⟩ := R1.frz (o := .xd [(f, v)]) (noneOf hdx)
          exact p1 _ _ _ (some dx) σ x2 R2 (en1.ext x2) (.some upd_same rfl (.cons (rx.ext x2) .nil))
    · rw [if_neg hl] at p1
      exact p1.elim
  · cases e1
/-! ### try -/
/-- the wish of clauses, each with a name or without -/
def wManyA (K : PySem.W.Frag) (Wout : WX) (D : Ends) : List (Value × Option Nat × (Addr → Value → Option Addr → TS)) → WX
  | [] => Wout
  | (c, none, ts) :: r => fun cls d σ H => ∃ b, PySem.W.exmOne K cls c = some b ∧ (b = true → ∀ a, H a = none → ts a cls d D σ H) ∧ (b = false → wManyA K Wout D r cls d σ H)
  | (c, some i, ts) :: r => fun cls d σ H => ∃ b, PySem.W.exmOne K cls c = some b ∧ (b = true → ∀ a, H a = none → ts a cls d { nx := fun σ' H' => D.nx (σ'.set i none) H', rt := D.rt, bk := fun σ' H' => D.bk (σ'.set i none) H', ct := fun σ' H' => D.ct (σ'.set i none) H' } (σ.set i (some (.ref a))) H) ∧
      (b = false → wManyA K Wout D r cls d σ H)
inductive HdsA (X : Cx) : List ExceptHandler → List (Value × Option Nat × (Addr → Value → Option Addr → TS)) → Prop
  | nil : HdsA X [] []
  | cons {x : Str} {c : Value} {ts : Addr → Value → Option Addr → TS} {b₀ : Stmt} {suite : List Stmt} {np pos' : Pos} {hds : List ExceptHandler} {l : List (Value × Option Nat × (Addr → Value → Option Addr → TS))} (hc : Names X x c)
      (hsu : ∀ (a : Addr) (oe : Obj) (cls : Value) (d : Option Addr) (pn : List (Addr × Obj)), Zc cls d oe → (∃ vs, oe.data = .fields vs) → PSs (X.suite a ((a, oe) :: pn)) (b₀ :: suite) (ts a cls d)) (r : HdsA X hds l) :
      HdsA X (.ExceptHandler (some (.Name x np)) none (b₀ :: suite) pos' :: hds) ((c, none, ts) :: l)
  | as {x n : Str} {i : Nat} {c : Value} {ts : Addr → Value → Option Addr → TS} {b₀ : Stmt} {suite : List Stmt} {np pos' : Pos} {hds : List ExceptHandler} {l : List (Value × Option Nat × (Addr → Value → Option Addr → TS))} (hc : Names X x c) (hi : X.N[i]? = some n) (hln : X.env.kindOf n = some .local)
      (hsu : ∀ (a : Addr) (oe : Obj) (cls : Value) (d : Option Addr) (pn : List (Addr × Obj)), Zc cls d oe → (∃ vs, oe.data = .fields vs) → PSs (X.suite a ((a, oe) :: pn)) (b₀ :: suite) (ts a cls d)) (r : HdsA X hds l) :
      HdsA X (.ExceptHandler (some (.Name x np)) (some n) (b₀ :: suite) pos' :: hds) ((c, some i, ts) :: l)
section
variable {X : Cx} {body : List Stmt} {h₀ : ExceptHandler} {hds : List ExceptHandler} {l : List (Value × Option Nat × (Addr → Value → Option Addr → TS))} {pos : Pos} {tb : WX → TS} {Wout : WX}
theorem ps_try_manyA (hs : X.stack = X.env :: X.outer) (hf : X.env.frame = some X.env.locals) (hN : X.N.Nodup) (tk : Takes X Wout)
    (hb : ∀ (W : WX) (pn : List (Addr × Obj)) (xe : Value → Shared → Prop), Takes (X.tr pn xe) W → PassesOwn (model X.prog X.w) X.A X.env xe → PSs (X.tr pn xe) body (tb W))
    (hh : HdsA X (h₀ :: hds) l) : PS X (.Try body (h₀ :: hds) [] [] pos) (fun D σ H => tb (wManyA X.K Wout D l) D σ H) := by
  refine ⟨fun pins s σ H D I h => ?_⟩
  have ok := I.ok
  have hfr : X.A.frames = some (X.env :: X.outer) := by rw [ok.frames, hs]
  refine wpAny_Try_except ?_
  refine wpAny_mono ((hb (wManyA X.K Wout D l) (X.pn ++ pins) (fun e s₁ => wpAny (model X.prog X.w) X.A (noteFrame e X.env) (fun _ s₂ => wpAny (model X.prog X.w) X.A (setFlight e none) (fun _ s₃ =>
    wpAny (model X.prog X.w) X.A (handleBy e X.env (h₀ :: hds)) (SP X pins D) X.xe s₃) X.xe s₂) X.xe s₁) (fun u s' xx => ?_) PassesOwn.looking).run [] s σ H D (I.toTry _) h) (fun f s1 hsp => ?_) (fun e s1 he => he)
  · obtain ⟨a, B, sI, pins', σ', H', cls, d, rfl, J', nb, up, sky, na, os, ag, w⟩ := xx
    have J : Inv X pins σ' H' sI := J'.ofTry ok
    have sky' : Sky B (X.env :: X.outer) a (Zc cls d) X.env.locals s'.heap := by rw [← hs]; exact sky
    show wpAny (model X.prog X.w) X.A (noteFrame (.ref a) X.env) _ _ _
    refine Sky.land Zc.steady hfr hf sky' fun h3 fl3 up3 => ?_
    have J3 : Inv X pins σ' H' { s' with heap := h3 } := J.landed nb fl3.1 (up.trans up3) os ag
    obtain ⟨oe3, vs3, he3, hz3, hd3⟩ := fl3.there
    have notFr : ∀ {h : Heap} {o : Obj} {vs : Array Value}, h.FunFrames B (X.env :: X.outer) → h.get? a = some o → o.data = .fields vs → a ∉ frs (X.env :: X.outer) := fun {h o vs} ff e dd hm => by
      obtain ⟨_, o', e', hnf⟩ := ff.mem hm
      rw [e] at e'; cases e'
      exact hnf _ dd
    have nfr := notFr fl3.2.2.1 he3 hd3
    have nL : a ≠ X.env.locals := fun z => nfr (List.mem_filterMap.mpr ⟨X.env, List.mem_cons_self, by rw [hf, z]⟩)
    have nF : a ∉ X.fs := fun hm => by
      obtain ⟨e, he, q⟩ := List.mem_filterMap.mp hm
      exact nfr (List.mem_filterMap.mpr ⟨e, List.mem_cons_of_mem _ he, q⟩)
    have S3 := J3.suite he3 hd3 na nL nF
    have LT : PySem.W.Looks (model X.prog X.w) h3 (typeOf (.ref a)) cls := fun A Q E s k q => wpAny_typeOf_ref (k _ _ he3) (by rw [hz3.1]; exact q)
    have test : ∀ {x : Str} {c : Value} {np : Pos}, Names X x c → ∀ {Q : Value → Shared → Prop} {E : Value → Shared → Prop}, Q c { s' with heap := h3 } → wpAny (model X.prog X.w) (X.A.mark (some (.ref a))) (eval (.Name x np) X.env) Q E { s' with heap := h3 } := fun {x c np} hc {Q E} q => by
      obtain ⟨hg, hdbg, hm | ⟨hm, hv, hnn⟩⟩ := hc
      · exact ld_glob (X := X.suite a ((a, oe3) :: (X.pn ++ pins))) S3 hg hm q hdbg
      · exact ld_blt (X := X.suite a ((a, oe3) :: (X.pn ++ pins))) S3 hg hm hv q hnn hdbg
    have go : ∀ {hds' : List ExceptHandler} {l' : List (Value × Option Nat × (Addr → Value → Option Addr → TS))}, HdsA X hds' l' → wManyA X.K Wout D l' cls d σ' H' →
        wpAny (model X.prog X.w) X.A (handleBy (.ref a) X.env hds') (SP X pins D) X.xe { s' with heap := h3 } := by
      intro hds' l' hk
      induction hk with
      | nil =>
        intro w
        refine wpAny_handleBy_nil ?_
        obtain ⟨k1, k2, k3, oe, vs, T, oT, ts', he, hz, hd, h1, hr⟩ := id fl3
        unfold PySem.passOn
        refine wpAny_bind (wpAny_field he hd h1 ?_)
        rw [if_neg (show ¬ ((Value.ref T == Value.none) = true) from by simp)]
        have fin : wpAny (model X.prog X.w) X.A (setFlight (.ref a) X.env.frame) (fun _ s4 => wpAny (model X.prog X.w) X.A (throw (.ref a) : Sem Flow) (SP X pins D) X.xe s4) X.xe { s' with heap := h3 } := by
          rw [hf]
          refine HandSPX.setFlight_upZ fl3 fun h4 hh4 up4 => wpAny_throw (tk _ _ ?_)
          exact ⟨a, B, sI, pins, σ', H', cls, d, rfl, J, nb, (up.trans up3).trans up4, .inr (.inr (by rw [hs]; exact hh4)), na, os, ag, w⟩
        first
          | exact wpAny_bind (wpAny_pure (wpAny_bind fin))
          | exact wpAny_bind fin
      | @cons x c ts b₀ suite np pos' hds2 l2 hc hsu r ih =>
        intro w
        obtain ⟨b, hb1, hyes, hno⟩ := w
        have LM := PySem.W.exm_one (M := model X.prog X.w) (J3.kIn) LT hb1
        refine wpAny_handleBy_cons (codeAny_handlers_test ?_) (by intro q; cases q)
        refine test hc (LM.here ?_)
        cases b with
        | true =>
          refine codeAny_handlers_suite ?_
          refine HandSPX.lands_againZ fl3 fun h4 fl4 up4 => ?_
          have J4 : Inv X pins σ' H' { s' with heap := h4 } := J.landed nb fl4.1 ((up.trans up3).trans up4) os ag
          obtain ⟨oe4, vs4, he4, hz4, hd4⟩ := fl4.there
          have S4 := J4.suite he4 hd4 na nL nF
          refine wpAny_mono ((hsu a oe4 cls d (X.pn ++ pins) hz4 ⟨_, hd4⟩).run [] _ _ H' _ S4 (hyes rfl a na)) (fun f s6 hsp => ?_) (fun _ _ z => False.elim z)
          cases f with
          | next =>
            obtain ⟨σ6, H6, S6, q6⟩ := hsp
            exact ⟨_, _, S6.unsuite ok, q6⟩
          | brk =>
            obtain ⟨σ6, H6, S6, q6⟩ := hsp
            exact ⟨_, _, S6.unsuite ok, q6⟩
          | cont =>
            obtain ⟨σ6, H6, S6, q6⟩ := hsp
            exact ⟨_, _, S6.unsuite ok, q6⟩
          | ret u =>
            obtain ⟨v6, σ6, H6, S6, r6, q6⟩ := hsp
            exact ⟨_, _, _, S6.unsuite ok, r6, q6⟩
        | false =>
          show wpAny _ X.A (handleBy (.ref a) X.env hds2) _ _ _
          exact ih (hno rfl)
      | @as x n i c ts b₀ suite np pos' hds2 l2 hc hi hln hsu r ih =>
        intro w
        obtain ⟨b, hb1, hyes, hno⟩ := w
        have LM := PySem.W.exm_one (M := model X.prog X.w) (J3.kIn) LT hb1
        refine wpAny_handleBy_cons (codeAny_handlers_test ?_) (by intro q; cases q)
        refine test hc (LM.here ?_)
        cases b with
        | true =>
          refine codeAny_handlers_suite_as ?_
          refine HandSPX.lands_againZ fl3 fun h4 fl4 up4 => ?_
          have J4 : Inv X pins σ' H' { s' with heap := h4 } := J.landed nb fl4.1 ((up.trans up3).trans up4) os ag
          obtain ⟨oe4, vs4, he4, hz4, hd4⟩ := fl4.there
          have S4 := J4.suite he4 hd4 na nL nF
          refine store_ok (X := X.suite a ((a, oe4) :: (X.pn ++ pins))) (v := .ref a) S4 hN hi (.inl hln) rfl (fun s5 S5 => ?_) (.inr hln)
          refine wpAny_mono ((hsu a oe4 cls d (X.pn ++ pins) hz4 ⟨_, hd4⟩).run [] s5 _ H' _ S5 (hyes rfl a na)) (fun f s6 hsp => ?_) (fun _ _ z => False.elim z)
          have end_ : ∀ {σ6 : L2.St} {H6 : Hp} {Q : Shared → Prop}, Inv (X.suite a ((a, oe4) :: (X.pn ++ pins))) [] σ6 H6 s6 → (∀ s7, Inv X pins (σ6.set i none) H6 s7 → Q s7) →
              wpAny (model X.prog X.w) X.A (do bindName X.env n .none; unbindBehindTheSuite X.env n pos') (fun _ s7 => Q s7) X.xe s6 := fun {σ6 H6 Q} S6 hq => gone_ok (S6.unsuite ok) hN hi hln hq
          cases f with
          | next =>
            obtain ⟨σ6, H6, S6, q6⟩ := hsp
            exact end_ S6 fun s7 J7 => ⟨_, _, J7, q6⟩
          | brk =>
            obtain ⟨σ6, H6, S6, q6⟩ := hsp
            exact end_ S6 fun s7 J7 => ⟨_, _, J7, q6⟩
          | cont =>
            obtain ⟨σ6, H6, S6, q6⟩ := hsp
            exact end_ S6 fun s7 J7 => ⟨_, _, J7, q6⟩
          | ret u =>
            obtain ⟨v6, σ6, H6, S6, r6, q6⟩ := hsp
            exact end_ S6 fun s7 J7 => ⟨_, _, _, J7, r6, q6⟩
        | false =>
          show wpAny _ X.A (handleBy (.ref a) X.env hds2) _ _ _
          exact ih (hno rfl)
    exact go hh w
  · cases f with
    | next =>
      obtain ⟨σ', H', J', q⟩ := hsp
      exact wpAny_execs_nil ⟨σ', H', J'.ofTry ok, q⟩
    | brk =>
      obtain ⟨σ', H', J', q⟩ := hsp
      exact ⟨σ', H', J'.ofTry ok, q⟩
    | cont =>
      obtain ⟨σ', H', J', q⟩ := hsp
      exact ⟨σ', H', J'.ofTry ok, q⟩
    | ret u =>
      obtain ⟨v, σ', H', J', r, q⟩ := hsp
      exact ⟨v, σ', H', J'.ofTry ok, r, q⟩
end
/-! ### except suites -/
/-- what isinstance asks of an error's class -/
structure XcOk (K : PySem.W.Frag) (C : Addr) : Prop where
  cl : (PySem.W.clsIn K C).isSome = true
  xf : XfC K C
  ha : PySem.W.findIn K (.ref C) "__class__" = some (some (.builtin "object.__class__"))
  hn : PySem.W.specialIn K (.builtin "object.__class__") "__get__" = some (some (.builtin "getset_descriptor.__get__"))
  ht : PySem.W.takesIn K (.builtin "object.__class__") = some true
  hm : PySem.W.mroIn K C (.type "object") = some true
def rIsA (K : PySem.W.Frag) (D a : Addr) : List V → Hp → VK → Prop := fun xs H Q => ∃ (dd : Addr) (fs : List (Str × V)) (c : V) (cv : Value) (b : Bool), H dd = some (.xd fs) ∧ xs = [.ref a, c] ∧ (∀ u, RelV c u → u = cv) ∧ PySem.W.kitOne K (.ref D) cv = some b ∧ Q (.bl b) H
theorem call_isA {X : Cx} {a D dd : Addr} {oe : Obj} {pn : List (Addr × Obj)} (C : XcOk X.K D) (hz : Zc (.ref D) (some dd) oe) (hf : ∃ vs, oe.data = .fields vs) : CallR (X.suite a ((a, oe) :: pn)) (.builtin "isinstance") (fun xs H Q => (∃ fs, H dd = some (.xd fs)) ∧ ∃ (c : V) (cv : Value) (b : Bool), xs = [.ref a, c] ∧ (∀ u, RelV c u → u = cv) ∧ PySem.W.kitOne X.K (.ref D) cv = some b ∧ Q (.bl b) H) := by
  intro pins s σ H xs us Q I r h
  obtain ⟨⟨fs, hdd⟩, c, cv, b, rfl, hcv, e, q⟩ := h
  cases r with
  | cons rx rr =>
    cases rr with
    | cons rt rr =>
      cases rr
      cases rx
      have ec := hcv _ rt
      subst ec
      obtain ⟨hget, _⟩ := I.pin (a, oe) (List.mem_append.mpr (.inl List.mem_cons_self))
      obtain ⟨vs, hv⟩ := hf
      have hx : ObjOk X.prog X.w H s.heap dd (.xd fs) := I.hok dd _ hdd
      obtain ⟨mA, hns, _⟩ := hx
      obtain ⟨od, ho, hl⟩ := lookIn_ns hns
      have J : PySem.W.InstAt s.heap a oe D (some od) := ⟨hget, hz.1, by unfold PySem.W.notCls; rw [hv] <;> rfl, by rw [hz.2]; exact ho⟩
      exact PySem.W.kia_one (PySem.W.kitx_exc C.cl C.xf.ga C.xf.gg C.xf.exC C.ha C.hn C.ht C.hm) I.kIn J e (fun z => nomatch z) fun tk => ⟨.bl b, H, I.kept (t' := tk) fun _ _ z => z, rfl, q⟩

/-- a part of an except suite, read where the error is held: C its class (asked where the part asks it), fs its fields -/
def HpOk (X : Cx) (i : Nat) (C : Addr) (sub : Str → Bool) (e : Expr) (p : HP) : Prop := ∃ t : Addr → Value → Option Addr → TE, ∀ (a : Addr) (oe : Obj) (cls : Value) (d : Option Addr) (pn : List (Addr × Obj)), Zc cls d oe → (∃ vs, oe.data = .fields vs) →
  PE (X.suite a ((a, oe) :: pn)) e (t a cls d) ∧ ∀ σ H Q (v : V), Q v H → (match p with
    | .int j => v = .int j
    | .str x => v = .str x
    | .bl b => v = .bl b
    | .non => v = .non
    | .fld f => σ[i]? = some (some (.ref a)) ∧ cls = .ref C ∧ ∃ dd fs, d = some dd ∧ H dd = some (.xd fs) ∧ fs.lookup f = some v
    | .isi c => σ[i]? = some (some (.ref a)) ∧ cls = .ref C ∧ (∃ dd fs, d = some dd ∧ H dd = some (.xd fs)) ∧ v = .bl (sub c)) → t a cls d σ H Q
section
variable {X : Cx} {i : Nat} {C : Addr} {sub : Str → Bool}
theorem hp_int {j : Int} {k : Nat} {pos : Pos} : HpOk X i C sub (.Constant (.int j) k pos) (.int j) := ⟨fun _ _ _ => tC (.int j), fun a oe cls d pn _ _ => ⟨pe_int, fun σ H Q v q h => h ▸ q⟩⟩
theorem hp_str {j : Str} {k : Nat} {pos : Pos} : HpOk X i C sub (.Constant (.str j) k pos) (.str j) := ⟨fun _ _ _ => tC (.str j), fun a oe cls d pn _ _ => ⟨pe_str, fun σ H Q v q h => h ▸ q⟩⟩
theorem hp_bl {j : Bool} {k : Nat} {pos : Pos} : HpOk X i C sub (.Constant (.bool j) k pos) (.bl j) := ⟨fun _ _ _ => tC (.bl j), fun a oe cls d pn _ _ => ⟨pe_bl, fun σ H Q v q h => h ▸ q⟩⟩
theorem hp_non {k : Nat} {pos : Pos} : HpOk X i C sub (.Constant .none k pos) .non := ⟨fun _ _ _ => tC .non, fun a oe cls d pn _ _ => ⟨pe_non, fun σ H Q v q h => h ▸ q⟩⟩
theorem hp_fld {n f : Str} {p pos : Pos} (T : XfC X.K C) (hno : PySem.W.findIn X.K (.ref C) f = some none) (hN : X.N[i]? = some n) (hv : Vis X.env.scope n) (hd : (n == ("__debug__" : Str)) = false) (hcd : (n == ("__classdict__" : Str)) = false) : HpOk X i C sub (.Attribute (.Name n p) f pos) (.fld f) := by
  refine ⟨fun a cls d σ H Q => cls = .ref C ∧ tXf a cls d C f (tVar i) σ H Q, fun a oe cls d pn hz hf => ⟨⟨fun pins s σ H Q I ⟨hc, q⟩ => ?_⟩, fun σ H Q v q h => ?_⟩⟩
  · exact (pe_xf (C := C) T hno hz hf (pe_var (X := X.suite a ((a, oe) :: pn)) hN hv hd hcd) rfl).run pins s σ H Q I q
  · obtain ⟨h1, h2, dd, fs, h3, h4, h5⟩ := h
    exact ⟨h2, _, h1, rfl, h2, dd, fs, v, h3, h4, h5, q⟩
theorem hp_isi {n c : Str} {p p2 p3 pos : Pos} {cv : Value} (T : XcOk X.K C) (hN : X.N[i]? = some n) (hv : Vis X.env.scope n) (hd : (n == ("__debug__" : Str)) = false) (hcd : (n == ("__classdict__" : Str)) = false) (hgi : Gl X "isinstance") (hmi : X.mg "isinstance" = none)
    (hc : Names X c cv) (hk : PySem.W.kitOne X.K (.ref C) cv = some (sub c)) (hcv : (∃ D, cv = .ref D) ∨ ∃ t, cv = .type t) : HpOk X i C sub (.Call (.Name "isinstance" p) [.Name n p2, .Name c p3] [] pos) (.isi c) := by
  have hcls : ∃ u : V, (∀ (a : Addr) (oe : Obj) (pn : List (Addr × Obj)), PE (X.suite a ((a, oe) :: pn)) (.Name c p3) (tC u)) ∧ ∀ w, RelV u w → w = cv := by
    obtain ⟨hg, hdb, hm⟩ := hc
    rcases hcv with ⟨D, rfl⟩ | ⟨t, rfl⟩
    · refine ⟨.ref D, fun a oe pn => ?_, fun w h => h⟩
      rcases hm with hm | ⟨hm, hb, hn⟩
      · exact pe_glob (X := X.suite a ((a, oe) :: pn)) hg hm rfl hdb
      · exact pe_bltn (X := X.suite a ((a, oe) :: pn)) hg hm hb rfl hn hdb
    · refine ⟨.ty t, fun a oe pn => ?_, fun w h => h⟩
      rcases hm with hm | ⟨hm, hb, hn⟩
      · exact pe_glob (X := X.suite a ((a, oe) :: pn)) hg hm rfl hdb
      · exact pe_bltn (X := X.suite a ((a, oe) :: pn)) hg hm hb rfl hn hdb
  obtain ⟨u, hu, hu2⟩ := hcls
  refine ⟨fun a cls d σ H Q => cls = .ref C ∧ ∃ dd, d = some dd ∧ tCB (fun xs H Q => (∃ fs, H dd = some (.xd fs)) ∧ ∃ (c : V) (cv : Value) (b : Bool), xs = [.ref a, c] ∧ (∀ u, RelV c u → u = cv) ∧ PySem.W.kitOne X.K (.ref C) cv = some b ∧ Q (.bl b) H) (tCons (tVar i) (tCons (tC u) tNil)) σ H Q, fun a oe cls d pn hz hf => ⟨⟨fun pins s σ H Q I ⟨hc2, dd, hd2, q⟩ => ?_⟩, fun σ H Q v q h => ?_⟩⟩
  · subst hc2 hd2
    exact (pe_callB (X := X.suite a ((a, oe) :: pn)) (call_isA T hz hf) hgi hmi (by decide +kernel) (pa_cons (pe_var (X := X.suite a ((a, oe) :: pn)) hN hv hd hcd) (pa_cons (hu a oe pn) pa_nil))).run pins s σ H Q I q
  · obtain ⟨h1, h2, ⟨d2, fs, rfl, h4⟩, rfl⟩ := h
    exact ⟨h2, d2, rfl, _, h1, ⟨fs, h4⟩, u, cv, _, rfl, hu2, hk, q⟩
end
/-- several parts -/
def HpsOk (X : Cx) (i : Nat) (C : Addr) (sub : Str → Bool) : List Expr → List HP → Prop
  | [], [] => True
  | e :: es, p :: ps => HpOk X i C sub e p ∧ (∀ env, starEach (e :: es) env = (false, eval e env) :: starEach es env) ∧ HpsOk X i C sub es ps
  | _, _ => False
/-- a part's value -/
def HpVal (i : Nat) (C : Addr) (sub : Str → Bool) (σ : L2.St) (H : Hp) (a : Addr) (cls : Value) (d : Option Addr) (p : HP) (v : V) : Prop := match p with
    | .int j => v = .int j
    | .str x => v = .str x
    | .bl b => v = .bl b
    | .non => v = .non
    | .fld f => σ[i]? = some (some (.ref a)) ∧ cls = .ref C ∧ ∃ dd fs, d = some dd ∧ H dd = some (.xd fs) ∧ fs.lookup f = some v
    | .isi c => σ[i]? = some (some (.ref a)) ∧ cls = .ref C ∧ (∃ dd fs, d = some dd ∧ H dd = some (.xd fs)) ∧ v = .bl (sub c)
theorem hps_pa {X : Cx} {i : Nat} {C : Addr} {sub : Str → Bool} : ∀ {es : List Expr} {ps : List HP}, HpsOk X i C sub es ps → ∃ t : Addr → Value → Option Addr → TA, ∀ (a : Addr) (oe : Obj) (cls : Value) (d : Option Addr) (pn : List (Addr × Obj)), Zc cls d oe → (∃ vs, oe.data = .fields vs) →
    PA (X.suite a ((a, oe) :: pn)) es (t a cls d) ∧ ∀ σ H Q (vs : List V), Q vs H → Paired (HpVal i C sub σ H a cls d) ps vs → t a cls d σ H Q
  | [], [], _ => ⟨fun _ _ _ => tNil, fun a oe cls d pn _ _ => ⟨pa_nil, fun σ H Q vs q h => by cases h; exact q⟩⟩
  | e :: es, p :: ps, h => by
    obtain ⟨⟨t1, h1⟩, hs, h2⟩ := h
    obtain ⟨t2, h2⟩ := hps_pa h2
    refine ⟨fun a cls d => tCons (t1 a cls d) (t2 a cls d), fun a oe cls d pn hz hf => ⟨pa_cons (h1 a oe cls d pn hz hf).1 (h2 a oe cls d pn hz hf).1 (hs _), fun σ H Q vs q h => ?_⟩⟩
    cases h with
    | @cons _ v _ vs hv hr =>
      refine (h1 a oe cls d pn hz hf).2 σ H _ v ?_ hv
      exact (h2 a oe cls d pn hz hf).2 σ H _ vs q hr
  | [], _ :: _, h => h.elim
  | _ :: _, [], h => h.elim
/-- a clause -/
structure ClOk (X : Cx) (Γ : MP.Env) (hd : ExceptHandler) (c' : Str) (n : Option Nat) (b : HB) : Prop where
  ex : ∃ (nm : Option Str) (np rp pos' : Pos) (E : Expr), hd = .ExceptHandler (some (.Name c' np)) nm [.Return (some E) rp] pos' ∧ Names X c' (.ref (ga X.K c')) ∧
    (match n, nm with
      | none, none => True
      | some i, some x => X.N[i]? = some x ∧ X.env.kindOf x = some .local
      | _, _ => False) ∧
    (match b with
      | .ret p => HpOk X (n.getD 0) (ga X.K c') (fun x => (Γ.sub c' x).getD false) E p
      | .rtup ps => ∃ es k p, E = .Tuple es k p ∧ HpsOk X (n.getD 0) (ga X.K c') (fun x => (Γ.sub c' x).getD false) es ps)
def ClsOk (X : Cx) (Γ : MP.Env) : List ExceptHandler → List (Str × Option Nat × HB) → Prop
  | [], [] => True
  | hd :: hds, (c', n, b) :: hs => ClOk X Γ hd c' n b ∧ ClsOk X Γ hds hs
  | _, _ => False
theorem lookup_of {K : PySem.W.Frag} {F : Hp} {π : List Addr} {fs : List (Str × V)} {ds : List D} {f : Str} {x : D} (r : RelDs K F π ds (fs.map Prod.snd)) (e : ((fs.map Prod.fst).zip ds).lookup f = some x) : ∃ v, fs.lookup f = some v ∧ RelD K F π x v := by
  induction fs generalizing ds with
  | nil => cases ds <;> cases e
  | cons p fs ih =>
    obtain ⟨g, w⟩ := p
    cases r with
    | cons r rs =>
      rw [List.map_cons, List.zip_cons_cons, List.lookup_cons] at e
      rw [List.lookup_cons]
      cases q : (f == g) with
      | true =>
        simp only [show (f == (g, w).fst) = true from q] at e
        cases e
        exact ⟨w, rfl, r⟩
      | false =>
        simp only [show (f == (g, w).fst) = false from q] at e
        exact ih rs e
/-- what the evaluator says of a part is the part's value -/
theorem hp_val {X : Cx} {Γ : MP.Env} {n : Option Nat} {c c' : Str} {ns : List Str} {ds : List D} {p : HP} {x : D} {F H : Hp} {π : List Addr} {M : Mem} {a : Addr} {dd : Option Addr} {ρ : Rho} {σ σ2 : L2.St} (e : hpD Γ (c == c' && n.isSome) c ns ds p = some x) (R : Rep X.K F π M H) (xr : ExR X.K F π H ns ds dd)
    (hσ : ∀ i, n = some i → σ2[i]? = some (some (.ref a))) : ∃ v, RelD X.K F π x v ∧ HpVal (n.getD 0) (ga X.K c') (fun x => (Γ.sub c' x).getD false) σ2 H a (.ref (ga X.K c)) dd p v := by
  cases p with
  | int j => cases e; exact ⟨_, .int j, rfl⟩
  | str j => cases e; exact ⟨_, .str j, rfl⟩
  | bl j => cases e; exact ⟨_, .bl j, rfl⟩
  | non => cases e; exact ⟨_, .non, rfl⟩
  | fld f =>
    replace e : (if (c == c' && n.isSome) = true then (ns.zip ds).lookup f else none) = some x := e
    split at e
    · rename_i ho
      rw [Bool.and_eq_true] at ho
      obtain ⟨i, rfl⟩ := Option.isSome_iff_exists.mp ho.2
      have hc : c = c' := eq_of_beq ho.1
      subst hc
      cases xr with
      | none => cases e
      | some hF hns hr =>
        subst hns
        obtain ⟨v, h1, h2⟩ := lookup_of hr e
        exact ⟨v, h2, hσ i rfl, rfl, _, _, rfl, R.same _ _ hF, h1⟩
    · cases e
  | isi k =>
    replace e : (if (c == c' && n.isSome) = true ∧ ns ≠ [] then (Γ.sub c k).map D.bl else none) = some x := e
    split at e
    · rename_i ho
      obtain ⟨ho, hne⟩ := ho
      rw [Bool.and_eq_true] at ho
      obtain ⟨i, rfl⟩ := Option.isSome_iff_exists.mp ho.2
      have hc : c = c' := eq_of_beq ho.1
      subst hc
      obtain ⟨b, hb, rfl⟩ := Option.map_eq_some_iff.mp e
      cases xr with
      | none => exact absurd rfl hne
      | some hF hns hr => exact ⟨.bl b, .bl b, hσ i rfl, rfl, ⟨_, _, rfl, R.same _ _ hF⟩, by show V.bl b = V.bl ((Γ.sub c k).getD false); rw [hb]; rfl⟩
    · cases e
theorem hps_val {X : Cx} {Γ : MP.Env} {n : Option Nat} {c c' : Str} {ns : List Str} {ds : List D} {F H : Hp} {π : List Addr} {M : Mem} {a : Addr} {dd : Option Addr} {σ2 : L2.St} (R : Rep X.K F π M H) (xr : ExR X.K F π H ns ds dd)
    (hσ : ∀ i, n = some i → σ2[i]? = some (some (.ref a))) : ∀ {ps : List HP} {xs : List D}, hpsD Γ (c == c' && n.isSome) c ns ds ps = some xs → ∃ vs, RelDs X.K F π xs vs ∧ Paired (HpVal (n.getD 0) (ga X.K c') (fun x => (Γ.sub c' x).getD false) σ2 H a (.ref (ga X.K c)) dd) ps vs
  | [], _, e => by cases e; exact ⟨[], .nil, .nil⟩
  | p :: ps, xs, e => by
    unfold hpsD at e
    split at e
    · rename_i d q h1 h2
      cases e
      obtain ⟨v, r1, h3⟩ := hp_val (ρ := []) (σ := []) h1 R xr hσ
      obtain ⟨vs, r2, h4⟩ := hps_val R xr hσ h2
      exact ⟨v :: vs, .cons r1 r2, .cons h3 h4⟩
    · cases e
/-- the clauses together -/
theorem clauses {X : Cx} {Γ : MP.Env} {W : WX} (hsub : ∀ c c' b, Γ.csub c c' = some b → PySem.W.exmOne X.K (.ref (ga X.K c)) (.ref (ga X.K c')) = some b) : ∀ {hds : List ExceptHandler} {hs : List (Str × Option Nat × HB)}, ClsOk X Γ hds hs → ∃ l, HdsA X hds l ∧ ∀ (D : Ends) F π M H c ns ds ρ dd σ, Rep X.K F π M H → EnvR X.K F π ρ σ → ExR X.K F π H ns ds dd →
    PostS X.K F π H W D (evH Γ hs c ns ds ρ M) → wManyA X.K W D l (.ref (ga X.K c)) dd σ H
  | [], [], _ => ⟨[], .nil, fun D F π M H c ns ds ρ dd σ R en xr p => p F π H dd σ .refl R en xr⟩
  | hd :: hds, (c', n, b) :: hs, h => by
    obtain ⟨h1, h2⟩ := h
    obtain ⟨l, hl, ih⟩ := clauses (W := W) hsub h2
    obtain ⟨nm, np, rp, pos', E, rfl, hnm, hn, hb⟩ := h1.ex
    -- the suite
    have suite : ∃ ts : Addr → Value → Option Addr → TS, (∀ (a : Addr) (oe : Obj) (cls : Value) (d : Option Addr) (pn : List (Addr × Obj)), Zc cls d oe → (∃ vs, oe.data = .fields vs) → PSs (X.suite a ((a, oe) :: pn)) [.Return (some E) rp] (ts a cls d)) ∧
        ∀ (D : Ends) F π M H c ns ds dd σ2 a oe, Rep X.K F π M H → ExR X.K F π H ns ds dd → Zc (.ref (ga X.K c)) dd oe → (∃ vs, oe.data = .fields vs) → (∀ i, n = some i → σ2[i]? = some (some (.ref a))) → PostS X.K F π H W D (match b with
      | .ret p => optS (hpD Γ (c == c' && n.isSome) c ns ds p) fun d => .rt d M
      | .rtup ps => optS (hpsD Γ (c == c' && n.isSome) c ns ds ps) fun xs => if xs.length ≤ sizeLine then .rt (.tup xs) M else .bad) → ts a (.ref (ga X.K c)) dd D σ2 H := by
      cases b with
      | ret p =>
        obtain ⟨t, ht⟩ := hb
        refine ⟨fun a cls d => tRet (t a cls d), fun a oe cls d pn hz hf => pss_one (ps_ret (ht a oe cls d pn hz hf).1), fun D F π M H c ns ds dd σ2 a oe R xr hz hf hσ p => ?_⟩
        obtain ⟨x, e, p⟩ := PostS.opt p
        obtain ⟨v, r, hv⟩ := hp_val (ρ := []) (σ := []) e R xr hσ
        exact (ht a oe _ dd [] hz hf).2 σ2 H _ v (p F π H v .refl R r) hv
      | rtup ps =>
        obtain ⟨es, k, p, rfl, hps⟩ := hb
        obtain ⟨t, ht⟩ := hps_pa hps
        refine ⟨fun a cls d => tRet (tTup (t a cls d)), fun a oe cls d pn hz hf => pss_one (ps_ret (pe_tup (ht a oe cls d pn hz hf).1)), fun D F π M H c ns ds dd σ2 a oe R xr hz hf hσ p => ?_⟩
        obtain ⟨xs, e, p⟩ := PostS.opt p
        obtain ⟨vs, r, hv⟩ := hps_val R xr hσ e
        split at p
        · rename_i hz2
          refine (ht a oe _ dd [] hz hf).2 σ2 H _ vs ⟨by rw [← r.length]; exact hz2, fun q hq => ?_⟩ hv
          obtain ⟨R1, x1⟩ := R.frz (o := .tup vs) hq
          exact p _ _ _ _ x1 R1 (.tup (SqT.of upd_same) (r.ext x1))
        · exact p.elim
    obtain ⟨ts, hts, rd⟩ := suite
    have mkoe : ∀ (c : Str) (dd : Option Addr), ∃ oe : Obj, Zc (.ref (ga X.K c)) dd oe ∧ ∃ vs, oe.data = .fields vs := fun c dd => ⟨⟨.ref (ga X.K c), dd, .fields #[], #[]⟩, ⟨rfl, rfl⟩, _, rfl⟩
    cases n with
    | none =>
      cases nm with
      | some _ => exact hn.elim
      | none =>
        refine ⟨(.ref (ga X.K c'), none, ts) :: l, .cons hnm hts hl, fun D F π M H c ns ds ρ dd σ R en xr p => ?_⟩
        have p : PostS X.K F π H W D (match Γ.csub c c' with
          | some true => if slotOk none ρ = true then (match b with
            | .ret p => optS (hpD Γ (c == c' && (none : Option Nat).isSome) c ns ds p) fun d => .rt d M
            | .rtup ps => optS (hpsD Γ (c == c' && (none : Option Nat).isSome) c ns ds ps) fun xs => if xs.length ≤ sizeLine then .rt (.tup xs) M else .bad) else .bad
          | some false => evH Γ hs c ns ds ρ M
          | none => .bad) := p
        cases hs' : Γ.csub c c' with
        | none => rw [hs'] at p; exact p.elim
        | some k =>
          rw [hs'] at p
          refine ⟨k, hsub _ _ _ hs', fun hk a na => ?_, fun hk => ?_⟩
          · subst hk
            obtain ⟨oe, hz, hf⟩ := mkoe c dd
            exact rd D F π M H c ns ds dd σ a oe R xr hz hf (fun i e => by cases e) p
          · subst hk
            exact ih D F π M H c ns ds ρ dd σ R en xr p
    | some i =>
      cases nm with
      | none => exact hn.elim
      | some x =>
        have hx := hn
        refine ⟨(.ref (ga X.K c'), some i, ts) :: l, .as hnm hx.1 hx.2 hts hl, fun D F π M H c ns ds ρ dd σ R en xr p => ?_⟩
        have p : PostS X.K F π H W D (match Γ.csub c c' with
          | some true => if slotOk (some i) ρ = true then (match b with
            | .ret p => optS (hpD Γ (c == c' && (some i).isSome) c ns ds p) fun d => .rt d M
            | .rtup ps => optS (hpsD Γ (c == c' && (some i).isSome) c ns ds ps) fun xs => if xs.length ≤ sizeLine then .rt (.tup xs) M else .bad) else .bad
          | some false => evH Γ hs c ns ds ρ M
          | none => .bad) := p
        cases hs' : Γ.csub c c' with
        | none => rw [hs'] at p; exact p.elim
        | some k =>
          rw [hs'] at p
          refine ⟨k, hsub _ _ _ hs', fun hk a na => ?_, fun hk => ?_⟩
          · subst hk
            obtain ⟨oe, hz, hf⟩ := mkoe c dd
            by_cases hsl : slotOk (some i) ρ = true
            · simp only [hsl, if_true] at p
              have hi : i < σ.length := by
                rw [← en.1]
                exact of_decide_eq_true hsl
              refine rd _ F π M H c ns ds dd _ a oe R xr hz hf (fun j e => by cases e; exact List.getElem?_set_self hi) ?_
              -- only rt is reached
              cases b with
              | ret q =>
                obtain ⟨y, e, p⟩ := PostS.opt p
                simp only [e]
                exact p
              | rtup q =>
                obtain ⟨y, e, p⟩ := PostS.opt p
                simp only [e]
                show PostS _ _ _ _ _ _ (if y.length ≤ sizeLine then .rt (.tup y) M else .bad)
                split at p
                · rename_i hz2
                  rw [if_pos hz2]
                  exact p
                · exact p.elim
            · simp only [hsl, if_false] at p
              exact p.elim
          · subst hk
            exact ih D F π M H c ns ds ρ dd σ R en xr p
  | [], _ :: _, h => h.elim
  | _ :: _, [], h => h.elim
theorem s_try {X : Cx} {Γ : MP.Env} {body : List Stmt} {h₀ : ExceptHandler} {hds : List ExceptHandler} {hs : List (Str × Option Nat × HB)} {pos : Pos} {f : Rho → Mem → RS} (hst : X.stack = X.env :: X.outer) (hf : X.env.frame = some X.env.locals) (hN : X.N.Nodup) (hsub : ∀ c c' b, Γ.csub c c' = some b → PySem.W.exmOne X.K (.ref (ga X.K c)) (.ref (ga X.K c')) = some b)
    (hb : ∀ (pn : List (Addr × Obj)) (xe : Value → Shared → Prop), PassesOwn (model X.prog X.w) X.A X.env xe → Sss (X.tr pn xe) body f) (hh : ClsOk X Γ (h₀ :: hds) hs) :
    Ss X (.Try body (h₀ :: hds) [] [] pos) (fun r M => match f r M with
    | .exc c ns ds r M => evH Γ hs c ns ds r M
    | y => y) := Ss.of fun W tk ρ M => by
  obtain ⟨l, hl, rd⟩ := clauses (W := W) hsub hh
  refine (ps_try_manyA (tb := fun W' => TDSu X.K f W') hst hf hN tk (fun W' pn xe tk' po => hb pn xe po W' tk') hl).mono fun D σ H ⟨F, π, R, en, p⟩ => ⟨ρ, M, F, π, R, en, ?_⟩
  cases q : f ρ M with
  | exc c ns ds r M2 =>
    simp only [q] at p
    exact fun F' π' H' dd σ' x R' en' xr => rd D F' π' M2 H' c ns ds r dd σ' R' en' xr (PostS.shift x p)
  | nx r M2 => simp only [q] at p; exact p
  | bk r M2 => simp only [q] at p; exact p
  | ct r M2 => simp only [q] at p; exact p
  | rt d M2 => simp only [q] at p; exact p
  | bad => simp only [q] at p; exact p
end MP

/-! Own classes: making an instance, its fields, its methods. What a def leaves behind. -/
namespace MP
open PySem PySem.Spec PyProof.Rows L2 EV
open He (ga ma)

/-- behind a def its new objects do not change any more -/
def froz (F H : Hp) (t : List Addr) : Hp := fun a => if a ∈ t then H a else F a
section
variable {K : PySem.W.Frag} {F F0 H H0 : Hp} {π π0 t : List Addr} {M M' : Mem}
mutual
theorem RelD.cut (hF : ∀ a o, F a = some o → froz F H t a = some o) : ∀ {d : D} {v : V}, lowD π0.length d = true → RelD K F (π0 ++ t) d v → RelD K (froz F H t) π0 d v
  | _, _, _, .non => .non
  | _, _, _, .bl b => .bl b
  | _, _, _, .int i => .int i
  | _, _, _, .str x => .str x
  | _, _, _, .ty n => .ty n
  | .lst _, _, l, .lst h r => .lst (hF _ _ h) (RelDs.cut hF l r)
  | .tup _, _, l, .tup h r => .tup (Same.sqt (fun a o e => hF a o e) h) (RelDs.cut hF l r)
  | _, _, _, .scr h => .scr (L2.Same.seq (fun a o e => hF a o e) h)
  | .obj _ _ _, _, l, .obj h e r => .obj (hF _ _ h) e (RelDs.cut hF l r)
  | .ref _, _, l, .ref h => .ref (by
    have l := of_decide_eq_true l
    rw [List.getElem?_append_left l] at h
    exact h)
theorem RelDs.cut (hF : ∀ a o, F a = some o → froz F H t a = some o) : ∀ {ds : List D} {vs : List V}, lowDs π0.length ds = true → RelDs K F (π0 ++ t) ds vs → RelDs K (froz F H t) π0 ds vs
  | _, _, _, .nil => .nil
  | _, _, l, .cons r q => by
    have l := Bool.and_eq_true_iff.mp (show (lowD _ _ && lowDs _ _) = true from l)
    exact .cons (RelD.cut hF l.1 r) (RelDs.cut hF l.2 q)
end
mutual
theorem RelD.frz (hF : ∀ a o, F a = some o → froz F H t a = some o) {r : Nat → Option D} (hr : ∀ i d a, r i = some d → (π0 ++ t)[i]? = some a → RelD K (froz F H t) π0 d (.ref a)) : ∀ {d e : D} {v : V}, frzD r d = some e → RelD K F (π0 ++ t) d v → RelD K (froz F H t) π0 e v
  | .non, _, _, e, .non => by cases (Option.some.inj (show some D.non = some _ from e)); exact .non
  | .bl b, _, _, e, .bl _ => by cases (Option.some.inj (show some (D.bl b) = some _ from e)); exact .bl b
  | .int b, _, _, e, .int _ => by cases (Option.some.inj (show some (D.int b) = some _ from e)); exact .int b
  | .str b, _, _, e, .str _ => by cases (Option.some.inj (show some (D.str b) = some _ from e)); exact .str b
  | .ty b, _, _, e, .ty _ => by cases (Option.some.inj (show some (D.ty b) = some _ from e)); exact .ty b
  | .lst _, _, _, e, .lst h q => by
    obtain ⟨ys, e1, rfl⟩ := Option.map_eq_some_iff.mp (show (frzDs r _).map D.lst = some _ from e)
    exact .lst (hF _ _ h) (RelDs.frz hF hr e1 q)
  | .tup _, _, _, e, .tup h q => by
    obtain ⟨ys, e1, rfl⟩ := Option.map_eq_some_iff.mp (show (frzDs r _).map D.tup = some _ from e)
    exact .tup (Same.sqt (fun a o e => hF a o e) h) (RelDs.frz hF hr e1 q)
  | .scr ns, _, _, e, .scr h => by cases (Option.some.inj (show some (D.scr ns) = some _ from e)); exact .scr (L2.Same.seq (fun a o e => hF a o e) h)
  | .obj _ _ _, _, _, e, .obj h h2 q => by
    obtain ⟨ys, e1, rfl⟩ := Option.map_eq_some_iff.mp (show (frzDs r _).map (D.obj _ _) = some _ from e)
    exact .obj (hF _ _ h) h2 (RelDs.frz hF hr e1 q)
  | .ref _, _, _, e, .ref h => hr _ _ _ e h
theorem RelDs.frz (hF : ∀ a o, F a = some o → froz F H t a = some o) {r : Nat → Option D} (hr : ∀ i d a, r i = some d → (π0 ++ t)[i]? = some a → RelD K (froz F H t) π0 d (.ref a)) : ∀ {ds es : List D} {vs : List V}, frzDs r ds = some es → RelDs K F (π0 ++ t) ds vs → RelDs K (froz F H t) π0 es vs
  | _, _, _, e, .nil => by cases e; exact .nil
  | d :: ds, es, _, e, .cons q qs => by
    unfold frzDs at e
    split at e
    · rename_i x xs h1 h2
      cases e
      exact .cons (RelD.frz hF hr h1 q) (RelDs.frz hF hr h2 qs)
    · cases e
end
/-- the state behind a def -/
theorem Rep.froz (R : Rep K F (π0 ++ t) M H) (x : Ext F0 π0 H0 F (π0 ++ t) H) (hc : cutM π0.length M = some M') : Rep K (froz F H t) π0 M' H ∧ Ext F0 π0 H0 (froz F H t) π0 H ∧ (∀ a o, F a = some o → MP.froz F H t a = some o) ∧
    ∀ k i d a, frzR M π0.length k i = some d → (π0 ++ t)[i]? = some a → RelD K (MP.froz F H t) π0 d (.ref a) := by
  unfold cutM at hc
  by_cases h0 : M.length = π0.length
  · rw [if_pos h0] at hc
    cases hc
    have ht : t = [] := by
      have := R.len
      rw [List.length_append] at this
      exact List.eq_nil_of_length_eq_zero (by omega)
    subst ht
    have e0 : MP.froz F H [] = F := funext fun a => if_neg (by simp)
    rw [List.append_nil] at R x ⊢
    rw [e0]
    refine ⟨R, x, fun _ _ h => h, fun k i d a e ha => ?_⟩
    cases k with
    | zero => cases e
    | succ k =>
      unfold frzR at e
      rw [if_pos (List.getElem?_eq_some_iff.mp ha).1] at e
      cases e
      exact .ref ha
  rw [if_neg h0] at hc
  split at hc
  · rename_i hl
    cases hc
    obtain ⟨hl, hlen⟩ := hl
    have nd := R.nd
    rw [List.nodup_append] at nd
    have hF : ∀ a o, F a = some o → MP.froz F H t a = some o := fun a o e => by
      unfold MP.froz
      split
      · exact R.same a o e
      · exact e
    have fresh : ∀ a ∈ t, H0 a = none := fun a ha => by
      obtain ⟨t', e, h⟩ := x.pre
      rw [List.append_cancel_left e] at ha
      exact h a ha
    have hfr : ∀ k i d a, frzR M π0.length k i = some d → (π0 ++ t)[i]? = some a → RelD K (MP.froz F H t) π0 d (.ref a) := by
      intro k
      induction k with
      | zero => intro i d a e; cases e
      | succ k ih =>
        intro i d a e ha
        unfold frzR at e
        split at e
        · rename_i hi
          cases e
          rw [List.getElem?_append_left hi] at ha
          exact .ref ha
        · rename_i hi
          have hi : π0.length ≤ i := by omega
          have ht : a ∈ t := by
            rw [List.getElem?_append_right hi] at ha
            exact List.mem_of_getElem? ha
          have here : MP.froz F H t a = H a := by unfold MP.froz; rw [if_pos ht]
          split at e
          · rename_i xs hm
            obtain ⟨ys, e1, rfl⟩ := Option.map_eq_some_iff.mp e
            have q := R.get hm ha
            generalize ho : H a = o at q
            cases q with
            | lst q => exact .lst (by rw [here, ho]) (q.frz hF (fun i d a e h => ih i d a e h) e1)
          · rename_i c ns ds hm
            obtain ⟨ys, e1, rfl⟩ := Option.map_eq_some_iff.mp e
            have q := R.get hm ha
            generalize ho : H a = o at q
            cases q with
            | ins h2 q => exact .obj (by rw [here, ho]) h2 (q.frz hF (fun i d a e h => ih i d a e h) e1)
          · cases e
    refine ⟨⟨fun a o e => ?_, ?_, nd.1, fun a ha => ?_, fun a ha => R.trk a (by simp [ha]), fun i m a h1 h2 => ?_⟩, ⟨fun a o e => hF a o (x.fle a o e), ⟨[], by simp, by simp⟩, x.keep, x.trk, fun a o e => ?_⟩, hF, hfr⟩
    · unfold MP.froz at e
      split at e
      · exact e
      · exact R.same a o e
    · rw [List.length_take]
      have := R.len
      rw [List.length_append] at this
      omega
    · unfold MP.froz
      rw [if_neg (fun z => nd.2.2 a ha a z rfl)]
      exact R.free a (by simp [ha])
    · have hi := (List.getElem?_eq_some_iff.mp h2).1
      rw [List.getElem?_take_of_lt hi] at h1
      have ha : (π0 ++ t)[i]? = some a := by rw [List.getElem?_append_left hi]; exact h2
      have q := R.get h1 ha
      have low : lowM π0.length m = true := by
        have hm : m ∈ M.take π0.length := List.mem_of_getElem? (show (M.take π0.length)[i]? = some m by rw [List.getElem?_take_of_lt hi]; exact h1)
        exact List.all_eq_true.mp hl m hm
      generalize H a = o at q
      cases q with
      | lst q => exact .lst (q.cut hF low)
      | dct h q => exact .dct h (q.cut hF low)
      | ins h q => exact .ins h (q.cut hF low)
      | gone => exact .gone
    · unfold MP.froz at e
      split at e
      · rename_i ha
        exact .inr (fresh a ha)
      · exact x.new a o e
  · cases hc
end

theorem EnvR.forget {K : PySem.W.Frag} {F : Hp} {π : List Addr} {ρ : Rho} {σ : L2.St} (e : EnvR K F π ρ σ) (i : Nat) : EnvR K F π (ρ.set i none) σ := by
  refine ⟨by rw [List.length_set, e.1], fun j x h => ?_⟩
  by_cases hj : i = j
  · subst hj
    have hl : i < ρ.length := by
      have := (List.getElem?_eq_some_iff.mp h).1
      rwa [List.length_set] at this
    rw [List.getElem?_set_self hl] at h
    cases h
  · rw [List.getElem?_set_ne hj] at h
    exact e.2 j x h
theorem EnvR.forgets {K : PySem.W.Frag} {F : Hp} {π : List Addr} {ρ : Rho} {σ : L2.St} (e : EnvR K F π ρ σ) : ∀ vs : List Nat, EnvR K F π (wipeD ρ vs) σ
  | [] => e
  | v :: vs => (EnvR.forgets e vs).forget v
theorem EnvR.cut {K : PySem.W.Frag} {F H : Hp} {π0 t : List Addr} {ρ : Rho} {σ : L2.St} (hF : ∀ a o, F a = some o → froz F H t a = some o) (hl : lowR π0.length ρ = true) (e : EnvR K F (π0 ++ t) ρ σ) : EnvR K (froz F H t) π0 ρ σ :=
  ⟨e.1, fun i d h => by
    obtain ⟨v, h1, h2⟩ := e.2 i d h
    have hd : lowD π0.length d = true := List.all_eq_true.mp hl (some d) (List.mem_of_getElem? h)
    exact ⟨v, h1, h2.cut hF hd⟩⟩
/-- behind a block -/
theorem gc_post {K : PySem.W.Frag} {F H : Hp} {π : List Addr} {M : Mem} {W : WX} {D : Ends} {dead : List Nat} (R : Rep K F π M H) : ∀ {r : RS}, PostS K F π H W D (gcR dead M.length r) → PostS K F π H W D r
  | .nx r' M', p => fun F1 π1 H1 σ x R1 en => by
    have p : PostS K F π H W D (if lowR M.length (wipeD r' dead) = true then (match cutM M.length M' with
      | some M' => .nx (wipeD r' dead) M'
      | none => .bad) else .bad) := p
    split at p
    · rename_i hl
      split at p
      · rename_i M2 h2
        obtain ⟨t, rfl, _⟩ := x.pre
        rw [← R.len] at hl h2
        obtain ⟨R2, x2, hF, _⟩ := R1.froz x h2
        exact p _ _ _ σ x2 R2 ((en.forgets dead).cut hF hl)
      · exact p.elim
    · exact p.elim
  | .ct r' M', p => fun F1 π1 H1 σ x R1 en => by
    have p : PostS K F π H W D (if lowR M.length (wipeD r' dead) = true then (match cutM M.length M' with
      | some M' => .ct (wipeD r' dead) M'
      | none => .bad) else .bad) := p
    split at p
    · rename_i hl
      split at p
      · rename_i M2 h2
        obtain ⟨t, rfl, _⟩ := x.pre
        rw [← R.len] at hl h2
        obtain ⟨R2, x2, hF, _⟩ := R1.froz x h2
        exact p _ _ _ σ x2 R2 ((en.forgets dead).cut hF hl)
      · exact p.elim
    · exact p.elim
  | .rt _ _, p => p
  | .bk _ _, p => p
  | .exc _ _ _ _ _, p => p
  | .bad, p => p
theorem ss_gc {X : Cx} {st : List Stmt} {ev : Rho → Mem → RS} {dead : List Nat} (h : Sss X st ev) : Sss X st (fun r M => gcR dead M.length (ev r M)) := fun W tk => (h W tk).mono fun D σ H ⟨ρ, M, F, π, R, en, p⟩ => ⟨ρ, M, F, π, R, en, gc_post R p⟩
/-! ### own classes -/
def tysL : List String := ["NoneType", "bool", "int", "str", "list", "tuple", "dict"]
/-- what the top says of a class -/
structure ClF (K : PySem.W.Frag) (mg : Str → Option Value) (G : Glob) (c : Str) (d : List Str × List Str) : Prop where
  cls : Cls K (ga K c)
  noat : ∀ f ∈ d.1, NoAttr K (ga K c) f
  meth : ∀ m ∈ d.2, Meth K (ga K c) m (ma K (ga K c) m)
  mkr : ("__init__" : Str) ∈ d.2 → Mk K (ga K c) (ma K (ga K c) "__init__")
  glo : mg c = some (.ref (ga K c))
  ha : PySem.W.findIn K (.ref (ga K c)) "__class__" = some (some (.builtin "object.__class__"))
  hn : PySem.W.specialIn K (.builtin "object.__class__") "__get__" = some (some (.builtin "getset_descriptor.__get__"))
  tk : PySem.W.takesIn K (.builtin "object.__class__") = some true
  hm : PySem.W.mroIn K (ga K c) (.type "object") = some true
  kitT : ∀ t ∈ tysL, PySem.W.kitOne K (.type t) (.ref (ga K c)) = some false
  kitC : ∀ p ∈ G.clss, PySem.W.kitOne K (.ref (ga K c)) (.ref (ga K p.1)) = some (decide (c = p.1))
theorem mem_lk {α : Type} {l : List (Str × α)} {x : Str} {a : α} (h : l.lookup x = some a) : (x, a) ∈ l := by
  induction l with
  | nil => cases h
  | cons p l ih =>
    rw [List.lookup_cons] at h
    split at h
    · rename_i e
      cases h
      rw [eq_of_beq e]
      simp
    · exact List.mem_cons_of_mem _ (ih h)
theorem fok_mem {G : Glob} {c f : Str} (h : G.fok c f = true) : ∃ p ∈ G.clss, p.1 = c ∧ f ∈ p.2.1 := by
  unfold Glob.fok at h
  split at h
  · rename_i d hd
    exact ⟨_, mem_lk hd, rfl, of_decide_eq_true h⟩
  · cases h
theorem mok_mem {G : Glob} {c f : Str} (h : G.mok c f = true) : ∃ p ∈ G.clss, p.1 = c ∧ f ∈ p.2.2 := by
  unfold Glob.mok at h
  split at h
  · rename_i d hd
    exact ⟨_, mem_lk hd, rfl, of_decide_eq_true h⟩
  · cases h
section
variable {K : PySem.W.Frag} {F H : Hp} {π : List Addr} {M : Mem}
theorem ins_of {d : D} {c : Str} {ns : List Str} {v : V} (e : insD M d = some (c, ns)) (R : Rep K F π M H) (r : RelD K F π d v) :
    ∃ a dx fs ds, v = .ref a ∧ H a = some (.ins (ga K c) dx fs) ∧ fs.map Prod.fst = ns ∧ RelDs K F π ds (fs.map Prod.snd) ∧ (d = .obj c ns ds ∨ ∃ i, d = .ref i ∧ M[i]? = some (.ins c ns ds) ∧ π[i]? = some a) := by
  cases r with
  | obj h h2 q =>
    cases e
    exact ⟨_, _, _, _, rfl, R.same _ _ h, h2, q, .inl rfl⟩
  | @ref a i h =>
    unfold insD at e
    dsimp only at e
    split at e
    · rename_i c' ns' ds' hm
      cases e
      have q := R.get hm h
      generalize ho : H a = o at q
      cases q with
      | ins h2 q => exact ⟨_, _, _, _, rfl, ho, h2, q, .inr ⟨i, rfl, hm, h⟩⟩
    · cases e
  | _ => cases e
/-- fields by name -/
theorem putN_rel {f : Str} {d : D} {v : V} (rv : RelD K F π d v) : ∀ {fs : List (Str × V)} {ds : List D}, RelDs K F π ds (fs.map Prod.snd) → (putF f v fs).map Prod.fst = (putN f d (fs.map Prod.fst) ds).1 ∧ RelDs K F π (putN f d (fs.map Prod.fst) ds).2 ((putF f v fs).map Prod.snd)
  | [], _, _ => ⟨rfl, .cons rv .nil⟩
  | (g, x) :: fs, d0 :: ds, .cons r0 r => by
    unfold putF putN
    simp only [List.map_cons]
    by_cases h : g = f
    · rw [if_pos h, if_pos h]
      exact ⟨rfl, .cons rv r⟩
    · rw [if_neg h, if_neg h]
      obtain ⟨h1, h2⟩ := putN_rel rv r
      exact ⟨by simp [h1], .cons r0 h2⟩
end
/-- the store behind an instance that is being made -/
theorem mk_post {K : PySem.W.Frag} {F F4 H H4 : Hp} {π : List Addr} {M : Mem} {x : Addr} {Q : VK} {E : XK} {m : Bool} (hl : π.length = M.length) (x0 : Ext F π H F4 (π ++ [x]) H4) : ∀ {r : Rs D}, Post K F π H E (kD K Q) (mkI m M.length r) → Post K F4 (π ++ [x]) H4 E (kD K fun v H' => v = .non ∧ Q (.ref x) H') r
  | .ok d M1, p => fun F1 π1 H1 xe R1 v rv => by
    cases d with
    | non =>
      cases rv
      refine ⟨rfl, ?_⟩
      obtain ⟨t, rfl, _⟩ := xe.pre
      have hx : (π ++ [x] ++ t)[M.length]? = some x := by
        rw [← hl, List.append_assoc, List.getElem?_append_right (Nat.le_refl _)]
        simp
      cases m with
      | true => exact (show Post K F π H E (kD K Q) (.ok (.ref M.length) M1) from p) F1 _ H1 (x0.trans xe) R1 (.ref x) (.ref hx)
      | false =>
        have p : Post K F π H E (kD K Q) (match frzR M1 M.length 64 M.length, cutM M.length M1 with
          | some d', some M' => .ok d' M'
          | _, _ => .bad) := p
        split at p
        · rename_i d' M' h1 h2
          rw [← hl] at h1 h2
          have xt := x0.trans xe
          rw [List.append_assoc] at R1 xt hx
          obtain ⟨R2, x2, hF, hfr⟩ := R1.froz xt h2
          rw [← hl] at hx
          exact p _ _ _ x2 R2 (.ref x) (hfr 64 _ d' x h1 hx)
        · exact p.elim
    | _ => exact p.elim
  | .exc c ns ds M1, p => fun F1 π1 H1 dd xe R1 xr => by
    have p : Post K F π H E (kD K Q) (match frzDs (frzR M1 M.length 64) ds, cutM M.length M1 with
      | some d', some M' => .exc c ns d' M'
      | _, _ => .bad) := p
    split at p
    · rename_i d' M' h1 h2
      obtain ⟨t, rfl, _⟩ := xe.pre
      rw [← hl] at h1 h2
      have xt := x0.trans xe
      rw [List.append_assoc] at R1 xt
      obtain ⟨R2, x2, hF, hfr⟩ := R1.froz xt h2
      refine p _ _ _ dd x2 R2 ?_
      rw [List.append_assoc] at xr
      cases xr with
      | none => cases h1; exact .none
      | some h3 h4 h5 => exact .some (hF _ _ h3) h4 (h5.frz hF (fun i d a e h => hfr 64 i d a e h) h1)
    · exact p.elim
  | .bad, p => p.elim
/-! ### rules with what is passed on -/
section
variable {X : Cx} {k : Nat} {C g : Addr} {x m : Str} {sp : Sp} {E : L2.St → XK} {o e : Expr} {es : List Expr} {ta : TE} {t : TA} {p apos pos : Pos} {pl : Sem Bool}
theorem run_frA {pins : List (Addr × Obj)} {σ : L2.St} {H : Hp} {s : Shared} {Q : VK} {us : List Value} {vs : List V} (F : FnR X.prog X.w X.K X.mg X.base (L2.CX X.prog X.w) k g sp) (hr : Room k X.A)
    (hx : PassesAt (L2.CX X.prog X.w) X σ (E σ)) (I : Inv X pins σ H s) (r : Vals vs us) (h : sp vs H Q (E σ)) : wpAny (model X.prog X.w) X.A (call (.ref g) us) (EP X pins σ Q) X.xe s := by
  refine wpAny_call (codeAny_mono (F X.A X.stack s H us vs Q (E σ) hr I.env0 r h) fun r s' hq => ?_)
  match r, hq with
  | .error u, hq => exact hx pins H s u s' I hq
  | .ok (.ret u), hq => exact I.after hq
  | .ok .next, hq => exact False.elim hq
  | .ok .brk, hq => exact False.elim hq
  | .ok .cont, hq => exact False.elim hq
def tMtA (C : Addr) (m : Str) (sp : Sp) (E : L2.St → XK) (ta : TE) (t : TA) : TE := fun σ H Q => ta σ H fun x H1 => ∃ a dx fs, x = .ref a ∧ H1 a = some (.ins C dx fs) ∧ fs.lookup m = none ∧ t σ H1 fun vs H2 => sp (x :: vs) H2 Q (E σ)
theorem meth_eval {args : List Expr} {env : PySem.Env} (hbase : attributeBase o m env (eval o env) = eval o env) (hform : methodCallForm (args.length + ([] : List Keyword).length) (backTo pos (starEach args env)) (backToKw pos (keywordEach [] env)) = true) (hline : (apos.endLine == pos.line) = true) :
    eval (.Call (.Attribute o m apos) args [] pos) env = (do
      let ov ← eval o env
      standAt apos.atName
      let (f, first) ← holding [ov] (getMethod ov m (do return (← importBound o env).getD true))
      callWith pos f first (backTo pos (starEach args env)) (backToKw pos (keywordEach [] env))) := by
  rw [arm_eval_Call, hbase]
  unfold methodCall calleeOf methodCallPos
  rw [hform, hline]
  rfl
theorem pe_mtA (he : PE X o ta) (c : Cls X.K C) (hm : Meth X.K C m g) (F : FnR X.prog X.w X.K X.mg X.base (L2.CX X.prog X.w) k g sp) (hr : Room k X.A) (hx : ∀ σ, PassesAt (L2.CX X.prog X.w) X σ (E σ)) (ha : PA X (e :: es) t)
    (hst : starEach (e :: es) X.env = (false, eval e X.env) :: starEach es X.env) (hpl : (backTo pos (starEach es X.env)).any (·.1) = false)
    (ht : eval (.Call (.Attribute o m apos) (e :: es) [] pos) X.env = (do
      let ov ← eval o X.env
      standAt apos.atName
      let (f, first) ← holding [ov] (getMethod ov m pl)
      callWith pos f first (backTo pos (starEach (e :: es) X.env)) (backToKw pos (keywordEach [] X.env)))) :
    PE X (.Call (.Attribute o m apos) (e :: es) [] pos) (tMtA C m sp E ta t) := by
  refine ⟨fun pins s σ H Q I h => ?_⟩
  refine PySem.W.methodCall_KW (pl := pl) (thn (he.run pins s σ H _ I h) fun u s1 ⟨x, H1, I1, rx, a, dx, fs, ex, ea, l, q⟩ => ?_) ht
  subst ex
  obtain rfl : u = Value.ref a := rx
  refine getmeth_ok I1 ea c hm l ?_
  refine PySem.W.callWith_K (first := [.ref a]) (h₀ := X.base) I.ok.mod.kin hm.kp (thn (ha.run pos pins s1 σ H1 _ I1 q) fun us s2 ⟨vs, H2, I2, r, q2⟩ => ⟨I2.kIn, ?_⟩) hst hpl
  exact run_frA (us := .ref a :: us) (vs := .ref a :: vs) F hr (hx σ) I2 (.cons rfl r) q2
theorem pe_mtA0 (he : PE X o ta) (c : Cls X.K C) (hm : Meth X.K C m g) (F : FnR X.prog X.w X.K X.mg X.base (L2.CX X.prog X.w) k g sp) (hr : Room k X.A) (hx : ∀ σ, PassesAt (L2.CX X.prog X.w) X σ (E σ))
    (ht : eval (.Call (.Attribute o m apos) [] [] pos) X.env = (do
      let ov ← eval o X.env
      standAt apos.atName
      let (f, first) ← holding [ov] (getMethod ov m pl)
      callWith pos f first (backTo pos (starEach [] X.env)) (backToKw pos (keywordEach [] X.env)))) :
    PE X (.Call (.Attribute o m apos) [] [] pos) (tMtA C m sp E ta tNil) := by
  refine ⟨fun pins s σ H Q I h => ?_⟩
  refine PySem.W.methodCall_KW (pl := pl) (thn (he.run pins s σ H _ I h) fun u s1 ⟨x, H1, I1, rx, a, dx, fs, ex, ea, l, q⟩ => ?_) ht
  subst ex
  obtain rfl : u = Value.ref a := rx
  refine getmeth_ok I1 ea c hm l ?_
  exact PySem.W.callWith_K0 (first := [.ref a]) I1.kIn hm.kp (run_frA (us := [.ref a]) (vs := [.ref a]) F hr (hx σ) I1 (.cons rfl .nil) q)
def tMkA (C : Addr) (sp : Sp) (E : L2.St → XK) (t : TA) : TE := fun σ H Q => t σ H fun vs H1 => ∀ x dx, H1 x = none → H1 dx = none → dx ≠ x → sp (V.ref x :: vs) (upd (upd H1 dx (.own x)) x (.ins C dx [])) (fun v H2 => v = .non ∧ Q (.ref x) H2) (E σ)
theorem pe_mkA (M : Mk X.K C g) (F : FnR X.prog X.w X.K X.mg X.base (L2.CX X.prog X.w) k g sp) (hr : Room (k + 1) X.A) (hg : Gl X x) (hm : X.mg x = some (.ref C)) (hx : ∀ σ, PassesAt (L2.CX X.prog X.w) X σ (E σ)) (ha : PA X (e :: es) t)
    (hdb : (x == ("__debug__" : Str)) = false) (he : starEach (e :: es) X.env = (false, eval e X.env) :: starEach es X.env) (hpl : (backTo pos (starEach es X.env)).any (·.1) = false) : PE X (.Call (.Name x p) (e :: es) [] pos) (tMkA C sp E t) := by
  refine ⟨fun pins s σ H Q I h => ?_⟩
  refine wpAny_Call_Name_kw (ld_glob I hg hm ?_ hdb)
  refine PySem.W.callWith_K (h₀ := X.base) I.ok.mod.kin M.kp (thn (ha.run pos pins s σ H _ I h) fun us s1 ⟨vs, H1, I1, r, q⟩ => ⟨I1.kIn, ?_⟩) he hpl
  have hq := q (s1.heap.objs.size + 1) s1.heap.objs.size (I1.hok.fresh (Nat.le_succ _)) (I1.hok.fresh (Nat.le_refl _)) (Nat.ne_of_lt (Nat.lt_succ_self _))
  have I2 := Inv.made (C := C) I1
  have r2 : Vals (V.ref (s1.heap.objs.size + 1) :: vs) (Value.ref (s1.heap.objs.size + 1) :: us) := .cons rfl r
  refine wpAny_call (make_map (f := g) I1.kIn M.makes M.init (beq_iff_eq.mp M.fn) (codeAny_mono (F _ X.stack _ _ (Value.ref (s1.heap.objs.size + 1) :: us) _ _ (E σ) (hr.make C us []) (I2.env0.make C us []) r2 hq) fun r s' hq' => ?_))
  match r, hq' with
  | .error e, hq' => exact hx σ pins _ _ e s' I2 hq'
  | .ok (.ret u), hq' =>
    obtain ⟨v, H', I3, rv, ev, q3⟩ := I2.after hq'
    subst ev
    exact ⟨rv, ⟨V.ref (s1.heap.objs.size + 1), H', I3, rfl, q3⟩⟩
  | .ok .next, hq' => exact False.elim hq'
  | .ok .brk, hq' => exact False.elim hq'
  | .ok .cont, hq' => exact False.elim hq'
end
/-! ### the evaluator's words -/
section
variable {X : Cx} {G : Glob} {e o a b : Expr} {es : List Expr} {ea ei : Rho → Mem → Rs D} {ees : Rho → Mem → Rs (List D)} {pos p apos : Pos} {f m c : Str}
theorem s_fld (hcl : ∀ p ∈ G.clss, ClF X.K X.mg G p.1 p.2) (ha : Sx X e ea) (hb : attributeBase e f X.env (eval e X.env) = eval e X.env) : Sx X (.Attribute e f pos) (fun r M => (ea r M).bind fun x M => fldD G M x f) := fun W tk ρ M => by
  refine (pe_fld (ha W tk ρ M) hb).mono fun σ H Q ⟨F, π, R, en, p⟩ => ?_
  refine TD.then R en p fun d M1 F1 π1 H1 v er x1 R1 en1 rv p1 => ?_
  have key : ∀ {c : Str} {ns : List Str} {ds : List D}, insD M1 d = some (c, ns) → (∀ ds', (d = .obj c ns ds' ∨ ∃ i, d = .ref i ∧ M1[i]? = some (.ins c ns ds')) → ds' = ds) → Post X.K F1 π1 H1 (WE W σ) (kD X.K Q) (if G.fok c f = true then opt ((ns.zip ds).lookup f) fun d => .ok d M1 else .bad) →
      ∃ a C dx fs v', v = V.ref a ∧ H1 a = some (.ins C dx fs) ∧ Cls X.K C ∧ NoAttr X.K C f ∧ fs.lookup f = some v' ∧ Q v' H1 := fun {c ns ds} hi hd p1 => by
    obtain ⟨hf, p2⟩ := p1.ite
    obtain ⟨y, hy, p3⟩ := p2.opt
    obtain ⟨a, dx, fs, ds', rfl, ha', hn, hr, hk⟩ := ins_of hi R1 rv
    obtain rfl : ds' = ds := hd ds' (hk.imp id fun ⟨i, h1, h2, _⟩ => ⟨i, h1, h2⟩)
    obtain ⟨q, hq, rfl, hfq⟩ := fok_mem hf
    subst hn
    obtain ⟨v', hl, hv⟩ := lookup_of hr hy
    exact ⟨a, _, dx, fs, v', rfl, ha', (hcl q hq).cls, (hcl q hq).noat f hfq, hl, p3.now R1 _ hv⟩
  unfold fldD at p1
  split at p1
  · refine key rfl (fun ds' h => ?_) p1
    rcases h with h | ⟨i, h, _⟩
    · cases h; rfl
    · cases h
  · split at p1
    · rename_i i c ns ds hm
      refine key (c := c) (ns := ns) (ds := ds) (by unfold insD; dsimp only; rw [hm]) (fun ds' h => ?_) p1
      rcases h with h | ⟨j, h, h2⟩
      · cases h
      · cases h
        rw [hm] at h2
        cases h2
        rfl
    · exact p1.elim
  · exact p1.elim
/-- o.m(e, ..) -/
theorem s_cm {cs : Calls} (hcl : ∀ p ∈ G.clss, ClF X.K X.mg G p.1 p.2) (hmt : ∀ p ∈ G.clss, ∀ m ∈ p.2.2, ∃ k, FnR X.prog X.w X.K X.mg X.base (L2.CX X.prog X.w) k (ma X.K (ga X.K p.1) m) (SpC X.K (cs.f (mkey p.1 m))) ∧ Room (k + 1) X.A)
    (hex : ∃ p ∈ G.clss, m ∈ p.2.2) (ho : Sx X o ea) (ha : Sa X (e :: es) ees) (hbase : attributeBase o m X.env (eval o X.env) = eval o X.env)
    (hform : methodCallForm ((e :: es).length + ([] : List Keyword).length) (backTo pos (starEach (e :: es) X.env)) (backToKw pos (keywordEach [] X.env)) = true) (hline : (apos.endLine == pos.line) = true)
    (hst : starEach (e :: es) X.env = (false, eval e X.env) :: starEach es X.env) (hpl : (backTo pos (starEach es X.env)).any (·.1) = false) :
    Sx X (.Call (.Attribute o m apos) (e :: es) [] pos) (fun r M => (ea r M).bind fun x M => opt (mclsD G M x m) fun c => (ees r M).bind fun xs M => cs.f (mkey c m) (x :: xs) M) := fun W tk ρ M => by
  have hp : ∃ p ∈ G.clss, m ∈ p.2.2 ∧ ∀ c, mclsD G ((ea ρ M).mem M) (ea ρ M).val m = some c → p.1 = c := by
    cases q : mclsD G ((ea ρ M).mem M) (ea ρ M).val m with
    | none =>
      obtain ⟨p, hp, hm⟩ := hex
      exact ⟨p, hp, hm, fun c h => by cases h⟩
    | some c =>
      have q2 := q
      unfold mclsD at q
      split at q
      · split at q
        · rename_i h
          cases q
          obtain ⟨p, hp, h1, h2⟩ := mok_mem h.1
          exact ⟨p, hp, h2, fun c h => by cases h; exact h1⟩
        · cases q
      · cases q
  obtain ⟨p, hp, hm, hc⟩ := hp
  obtain ⟨k, F, hr⟩ := hmt p hp m hm
  have C := hcl p hp
  refine (pe_mtA (ho W tk ρ M) C.cls (C.meth m hm) F (hr.mono (by omega)) (fun σ => passAt tk σ) (ha W tk ρ ((ea ρ M).mem M)) hst hpl (meth_eval hbase hform hline)).mono fun σ H Q ⟨F, π, R, en, p⟩ => ?_
  refine TD.then R en p fun d M1 F1 π1 H1 v er x1 R1 en1 rv p1 => ?_
  rw [er] at hc ⊢
  obtain ⟨c, hq, p1⟩ := p1.opt
  have e0 := hc c hq
  subst e0
  unfold mclsD at hq
  split at hq
  · rename_i c' ns hi
    split at hq
    · rename_i hk
      have e1 := Option.some.inj hq
      subst e1
      obtain ⟨a, dx, fs, ds, rfl, ha', hn, hrl, _⟩ := ins_of hi R1 rv
      refine ⟨a, dx, fs, rfl, ha', ?_, ?_⟩
      · rw [List.lookup_eq_none_iff]
        intro q hq'
        have : m ∉ fs.map Prod.fst := by rw [hn]; exact hk.2
        have h3 : q.1 ≠ m := fun z => this (List.mem_map.mpr ⟨q, hq', z⟩)
        simpa using fun z => h3 z.symm
      · refine TDs.then R1 en1 p1 fun xs M2 F2 π2 H2 vs er2 x2 R2 en2 rvs p2 => ?_
        exact ⟨F2, π2, M2, d :: xs, R2, .cons (rv.ext x2) rvs, p2⟩
    · cases hq
  · cases hq
/-- o.m() -/
theorem s_cm0 {cs : Calls} (hcl : ∀ p ∈ G.clss, ClF X.K X.mg G p.1 p.2) (hmt : ∀ p ∈ G.clss, ∀ m ∈ p.2.2, ∃ k, FnR X.prog X.w X.K X.mg X.base (L2.CX X.prog X.w) k (ma X.K (ga X.K p.1) m) (SpC X.K (cs.f (mkey p.1 m))) ∧ Room (k + 1) X.A)
    (hex : ∃ p ∈ G.clss, m ∈ p.2.2) (ho : Sx X o ea) (hbase : attributeBase o m X.env (eval o X.env) = eval o X.env) (hline : (apos.endLine == pos.line) = true) :
    Sx X (.Call (.Attribute o m apos) [] [] pos) (fun r M => (ea r M).bind fun x M => opt (mclsD G M x m) fun c => (Rs.ok [] M).bind fun xs M => cs.f (mkey c m) (x :: xs) M) := fun W tk ρ M => by
  have hp : ∃ p ∈ G.clss, m ∈ p.2.2 ∧ ∀ c, mclsD G ((ea ρ M).mem M) (ea ρ M).val m = some c → p.1 = c := by
    cases q : mclsD G ((ea ρ M).mem M) (ea ρ M).val m with
    | none =>
      obtain ⟨p, hp, hm⟩ := hex
      exact ⟨p, hp, hm, fun c h => by cases h⟩
    | some c =>
      have q2 := q
      unfold mclsD at q
      split at q
      · split at q
        · rename_i h
          cases q
          obtain ⟨p, hp, h1, h2⟩ := mok_mem h.1
          exact ⟨p, hp, h2, fun c h => by cases h; exact h1⟩
        · cases q
      · cases q
  obtain ⟨p, hp, hm, hc⟩ := hp
  obtain ⟨k, F, hr⟩ := hmt p hp m hm
  have C := hcl p hp
  refine (pe_mtA0 (ho W tk ρ M) C.cls (C.meth m hm) F (hr.mono (by omega)) (fun σ => passAt tk σ) (meth_eval hbase rfl hline)).mono fun σ H Q ⟨F, π, R, en, p⟩ => ?_
  refine TD.then R en p fun d M1 F1 π1 H1 v er x1 R1 en1 rv p1 => ?_
  rw [er] at hc
  obtain ⟨c, hq, p1⟩ := p1.opt
  have e0 := hc c hq
  subst e0
  unfold mclsD at hq
  split at hq
  · rename_i c' ns hi
    split at hq
    · rename_i hk
      have e1 := Option.some.inj hq
      subst e1
      obtain ⟨a, dx, fs, ds, rfl, ha', hn, hrl, _⟩ := ins_of hi R1 rv
      refine ⟨a, dx, fs, rfl, ha', ?_, ?_⟩
      · rw [List.lookup_eq_none_iff]
        intro q hq'
        have : m ∉ fs.map Prod.fst := by rw [hn]; exact hk.2
        have h3 : q.1 ≠ m := fun z => this (List.mem_map.mpr ⟨q, hq', z⟩)
        simpa using fun z => h3 z.symm
      · exact ⟨F1, π1, M1, [d], R1, .cons rv .nil, p1⟩
    · cases hq
  · cases hq
/-- C(e, ..) -/
theorem s_make {cs : Calls} {mm : Bool} {q : Str × List Str × List Str} (hcl : ClF X.K X.mg G q.1 q.2) (hin : ("__init__" : Str) ∈ q.2.2) (hmt : ∃ k, FnR X.prog X.w X.K X.mg X.base (L2.CX X.prog X.w) k (ma X.K (ga X.K q.1) "__init__") (SpC X.K (cs.f (mkey q.1 "__init__"))) ∧ Room (k + 1) X.A)
    (hg : Gl X q.1) (hdb : (q.1 == ("__debug__" : Str)) = false) (ha : Sa X (e :: es) ees) (he : starEach (e :: es) X.env = (false, eval e X.env) :: starEach es X.env) (hpl : (backTo pos (starEach es X.env)).any (·.1) = false) :
    Sx X (.Call (.Name q.1 p) (e :: es) [] pos) (fun r M => (ees r M).bind fun xs M => mkI mm M.length (cs.f (mkey q.1 "__init__") (.ref M.length :: xs) (M ++ [.ins q.1 [] []]))) := fun W tk ρ M => by
  obtain ⟨k, F, hr⟩ := hmt
  refine (pe_mkA (hcl.mkr hin) F hr hg hcl.glo (fun σ => passAt tk σ) (ha W tk ρ M) hdb he hpl).mono fun σ H Q ⟨F, π, R, en, p⟩ => ?_
  refine TDs.then R en p fun ds M2 F2 π2 H2 vs er2 x2 R2 en2 rvs p2 => ?_
  intro x dx hx hdx hne
  obtain ⟨R3, x3⟩ := R2.frz (o := .own x) hdx
  have hx3 : (upd H2 dx (.own x)) x = none := by rw [upd_ne (Ne.symm hne)]; exact hx
  obtain ⟨R4, x4⟩ := R3.mut (o := .ins (ga X.K q.1) dx []) (m := .ins q.1 [] []) hx3 (.ins rfl .nil)
  refine ⟨_, _, _, .ref M2.length :: ds, R4, .cons (.ref ?_) ((rvs.ext x3).ext x4), mk_post R2.len (x3.trans x4) p2⟩
  rw [← R2.len]
  simp
/-- isinstance(e, C), C an own class -/
theorem isc_one {d : D} {b : Bool} {v : V} {F H : Hp} {π : List Addr} {M : Mem} {q : Str × List Str × List Str} (hcl : ∀ p ∈ G.clss, ClF X.K X.mg G p.1 p.2) (hq : q ∈ G.clss) (e : iscD G M d q.1 = some b) (R : Rep X.K F π M H) (r : RelD X.K F π d v) : ∃ ty, TyX X.K H v ty ∧ PySem.W.kitOne X.K ty (.ref (ga X.K q.1)) = some b := by
  have C := hcl q hq
  have kt : ∀ t, t ∈ tysL → PySem.W.kitOne X.K (.type t) (.ref (ga X.K q.1)) = some false := C.kitT
  have own : ∀ {b}, (match insD M d with
    | some (c', _) => if (G.clss.lookup c').isSome = true then some (decide (c' = q.1)) else none
    | none => none) = some b → ∃ ty, TyX X.K H v ty ∧ PySem.W.kitOne X.K ty (.ref (ga X.K q.1)) = some b := fun {b} e => by
    split at e
    · rename_i c' ns hi
      split at e
      · rename_i hs
        cases e
        obtain ⟨dd, hd⟩ := Option.isSome_iff_exists.mp hs
        have C' := hcl _ (mem_lk hd)
        obtain ⟨a, dx, fs, ds, rfl, ha, _⟩ := ins_of hi R r
        exact ⟨_, .base (.ins ha C'.cls C'.ha C'.hn C'.tk C'.hm), C'.kitC q hq⟩
      · cases e
    · cases e
  cases r with
  | non => cases e; exact ⟨_, .base .non, kt _ (by decide)⟩
  | bl k => cases e; exact ⟨_, .base (.bl k), kt _ (by decide)⟩
  | int k => cases e; exact ⟨_, .base (.int k), kt _ (by decide)⟩
  | str k => cases e; exact ⟨_, .base (.str k), kt _ (by decide)⟩
  | lst h q => cases e; exact ⟨_, .base (.lst (R.same _ _ h)), kt _ (by decide)⟩
  | tup h q =>
    cases e
    rcases Same.sqt R.same h with h | ⟨o, its, n, h1, h2, _⟩
    · rcases h with h | ⟨o, h⟩
      · exact ⟨_, .base (.tup h), kt _ (by decide)⟩
      · exact ⟨_, .fTuple h, kt _ (by decide)⟩
    · exact ⟨_, .kTuple h1 h2, kt _ (by decide)⟩
  | ty n => exact own e
  | scr h => exact own e
  | obj h h2 q' => exact own e
  | ref h => exact own e
theorem s_isc {p2 : Pos} {q : Str × List Str × List Str} (hcl : ∀ p ∈ G.clss, ClF X.K X.mg G p.1 p.2) (hq : q ∈ G.clss) (hg : Gl X "isinstance") (hm : X.mg "isinstance" = none) (hgt : Gl X q.1) (hdb : (q.1 == ("__debug__" : Str)) = false) (hst : ∀ r : List Expr, starEach (a :: r) X.env = (false, eval a X.env) :: starEach r X.env) (ha : Sx X a ea) :
    Sx X (.Call (.Name "isinstance" p) [a, .Name q.1 p2] [] pos) (fun r M => (ea r M).bind fun x M => opt (iscD G M x q.1) fun b => .ok (.bl b) M) := by
  have hty : PE X (.Name q.1 p2) (tC (.ref (ga X.K q.1))) := pe_glob hgt (hcl q hq).glo rfl hdb
  refine s_one (P := fun r => r = fun v H Q => rIsi X.K [v, .ref (ga X.K q.1)] H Q) ha (fun r ta pr h => ?_) fun d M => ⟨_, rfl, fun F π H E v Q R r p => ?_⟩
  · subst pr
    exact pe_callB call_isi hg hm (by decide +kernel) (pa_cons h (pa_cons hty pa_nil) (hst _)) (by decide) (by decide) (hst _) rfl
  · obtain ⟨b, e, p⟩ := Post.opt p
    obtain ⟨ty, h1, h2⟩ := isc_one hcl hq e R r
    exact ⟨v, .ref (ga X.K q.1), ty, .ref (ga X.K q.1), b, rfl, .own _, h1, h2, Post.now p R _ (.bl _)⟩
/-- what is compared with an instance: its type -/
def YT (K : PySem.W.Frag) (H : Hp) (y : V) (tb : Value) : Prop := (∃ x, y = .str x ∧ tb = .type "str") ∨ (∃ x, y = .int x ∧ tb = .type "int") ∨ (∃ x, y = .bl x ∧ tb = .type "bool") ∨ (y = .non ∧ tb = .type "NoneType") ∨ ∃ b C dx fs, y = .ref b ∧ H b = some (.ins C dx fs) ∧ tb = .ref C
def rOwn (K : PySem.W.Frag) (C : Addr) (sp : Sp) : R2 := fun x y H Q => ∃ a dx fs tb, x = .ref a ∧ H a = some (.ins C dx fs) ∧ YT K H y tb ∧ PySem.W.notFirst K C tb = true ∧ sp [x, y] H (fun v H' => ∃ k, v = .bl k ∧ Q (.bl k) H') (fun _ _ _ => False)
theorem yt_looks {pins : List (Addr × Obj)} {σ : L2.St} {H : Hp} {s : Shared} {y : V} {u tb : Value} (I : Inv X pins σ H s) (ry : RelV y u) (h : YT X.K H y tb) : PySem.W.Looks (model X.prog X.w) s.heap (typeOf u) tb := by
  rcases h with ⟨x, rfl, rfl⟩ | ⟨x, rfl, rfl⟩ | ⟨x, rfl, rfl⟩ | ⟨rfl, rfl⟩ | ⟨b, C, dx, fs, rfl, hb, rfl⟩
  · obtain ⟨t, rfl⟩ := (show ∃ t, u = Value.str x t from ry)
    exact PySem.W.Looks.of_pure rfl
  · obtain ⟨t, rfl⟩ := (show ∃ t, u = Value.int x t from ry)
    exact PySem.W.Looks.of_pure rfl
  · cases (show u = Value.bool x from ry)
    exact PySem.W.Looks.of_pure rfl
  · cases (show u = Value.none from ry)
    exact PySem.W.Looks.of_pure rfl
  · cases (show u = Value.ref b from ry)
    obtain ⟨mA, J, _⟩ := ins_get I.hok hb
    obtain ⟨od, J, _⟩ := J.look
    exact J.type
theorem op_own {C f : Addr} {k : Nat} {sp : Sp} (hs : Meth X.K C "__eq__" f) (F : FnR X.prog X.w X.K X.mg X.base (L2.CX X.prog X.w) k f sp) (hr : Room k X.A) : OpR X (compareOp .Eq) (rOwn X.K C sp) := by
  intro pins s σ H x y v u Q I rx ry h
  obtain ⟨a, dx, fs, tb, rfl, ha, hy, hn, q⟩ := h
  cases (show v = Value.ref a from rx)
  obtain ⟨mA, J, _⟩ := ins_get I.hok ha
  obtain ⟨od, J, _⟩ := J.look
  obtain ⟨m, hF⟩ := I.fr
  show wpAny (model X.prog X.w) X.A (richCompare .Eq (.ref a) u) (EP X pins σ Q) X.xe s
  refine PySem.W.cmp_K (op := .Eq) (tb := tb) hr.units0 hF I.ok.mod.kin J (yt_looks I ry hy) hn hs.at_ hs.fn ?_
  refine wpAny_call (codeAny_mono (F X.A X.stack s H [.ref a, u] [.ref a, y] _ (fun _ _ _ => False) hr I.env0 (.cons rfl (.cons ry .nil)) q) fun r s' hq => ?_)
  match r, hq with
  | .error e, hq => exact passes0 pins σ H s e s' I hq
  | .ok (.ret w), hq =>
    obtain ⟨z, H', I', rz, kk, ez, q3⟩ := I.after hq
    subst ez
    cases rz
    exact ⟨.bl kk, H', I', rfl, q3⟩
  | .ok .next, hq => exact False.elim hq
  | .ok .brk, hq => exact False.elim hq
  | .ok .cont, hq => exact False.elim hq
theorem sub_ty {K : PySem.W.Frag} {C : Addr} {t : String} (h : ((fastBuiltinMro t).map fun l => l.all fun v => match v with | .ref _ => false | _ => true) = some true) : PySem.W.notFirst K C (.type t) = true := by
  have e : PySem.W.subIn K (.type t) (.ref C) = some false := by
    show (fastBuiltinMro t).map (·.contains (.ref C)) = some false
    cases q : fastBuiltinMro t with
    | none => rw [q] at h; cases h
    | some l =>
      rw [q] at h
      have h := Option.some.inj (show some (l.all _) = some true from h)
      show some (l.contains (Value.ref C)) = some false
      have : l.contains (Value.ref C) = false := by
        rw [Bool.eq_false_iff]
        intro z
        have m := List.contains_iff_mem.mp z
        have := List.all_eq_true.mp h _ m
        cases this
      rw [this]
  unfold PySem.W.notFirst
  rw [e]
  simp
theorem noExc_post {α : Type} {K : PySem.W.Frag} {F H : Hp} {π : List Addr} {E E' : XK} {k : Hp → List Addr → Mem → Hp → α → Prop} : ∀ {r : Rs α}, Post K F π H E k (noExc r) → Post K F π H E' k r
  | .ok _ _, h => h
  | .exc _ _ _ _, h => h.elim
  | .bad, h => h.elim
theorem eqo_does {cs : Calls} (hcl : ∀ p ∈ G.clss, ClF X.K X.mg G p.1 p.2) (hmt : ∀ p ∈ G.clss, ∀ m ∈ p.2.2, ∃ k, FnR X.prog X.w X.K X.mg X.base (L2.CX X.prog X.w) k (ma X.K (ga X.K p.1) m) (SpC X.K (cs.f (mkey p.1 m))) ∧ Room (k + 1) X.A) (d1 d2 : D) (M : Mem) :
    ∃ r, OpR X (compareOp .Eq) r ∧ Does2 X (eqoD ⟨G, cs⟩) d1 d2 M r := by
  by_cases hb : eqoD ⟨G, cs⟩ d1 d2 M = .bad
  · exact ⟨_, op_eq, Does2.bad hb⟩
  unfold eqoD at hb
  split at hb
  · rename_i c ns hi
    split at hb
    · rename_i hk
      obtain ⟨p, hp, rfl, hm⟩ := mok_mem hk.1
      obtain ⟨k, F, hr⟩ := hmt p hp _ hm
      have C := hcl p hp
      refine ⟨_, op_own (C.meth _ hm) F (hr.mono (by omega)), fun F1 π H E v1 v2 Q R r1 r2 p1 => ?_⟩
      obtain ⟨a, dx, fs, ds, rfl, ha, hn, hrl, _⟩ := ins_of hi R r1
      have hy : ∃ tb, YT X.K H v2 tb ∧ PySem.W.notFirst X.K (ga X.K p.1) tb = true := by
        have he := hk.2
        have own : (match insD M d2 with
          | some (c', _) => decide (c' = p.1)
          | none => false) = true → ∃ tb, YT X.K H v2 tb ∧ PySem.W.notFirst X.K (ga X.K p.1) tb = true := fun he => by
          split at he
          · rename_i c' ns' hi'
            obtain rfl := of_decide_eq_true he
            obtain ⟨b, dy, gs, es, rfl, hb', _⟩ := ins_of hi' R r2
            exact ⟨_, .inr (.inr (.inr (.inr ⟨b, _, dy, gs, rfl, hb', rfl⟩))), by unfold PySem.W.notFirst; simp⟩
          · cases he
        cases r2 with
        | str x => exact ⟨_, .inl ⟨x, rfl, rfl⟩, sub_ty (by decide +kernel)⟩
        | int x => exact ⟨_, .inr (.inl ⟨x, rfl, rfl⟩), sub_ty (by decide +kernel)⟩
        | bl x => exact ⟨_, .inr (.inr (.inl ⟨x, rfl, rfl⟩)), sub_ty (by decide +kernel)⟩
        | non => exact ⟨_, .inr (.inr (.inr (.inl ⟨rfl, rfl⟩))), sub_ty (by decide +kernel)⟩
        | ty n => exact own he
        | lst h q => exact own he
        | tup h q => exact own he
        | scr h => exact own he
        | obj h h2 q' => exact own he
        | ref h => exact own he
      obtain ⟨tb, hy, hn'⟩ := hy
      refine ⟨a, dx, fs, tb, rfl, ha, hy, hn', F1, π, M, [d1, d2], R, .cons r1 (.cons r2 .nil), ?_⟩
      have p2 : Post X.K F1 π H E (kD X.K Q) (eqoD ⟨G, cs⟩ d1 d2 M) := p1
      unfold eqoD at p2
      rw [hi] at p2
      have p2 : Post X.K F1 π H E (kD X.K Q) (if Glob.mok G p.1 "__eq__" = true ∧ eqTy M p.1 d2 = true then (noExc (cs.f (mkey p.1 "__eq__") [d1, d2] M)).bind blD1 else .bad) := p2
      rw [if_pos hk] at p2
      refine noExc_post ((Post.then p2).imp fun F3 π3 M3 H3 d er x3 R3 p3 v rv => ?_)
      cases d with
      | bl b =>
        cases rv
        exact ⟨b, rfl, (show Post X.K F3 π3 H3 E (kD X.K Q) (.ok (.bl b) M3) from p3).now R3 _ (.bl b)⟩
      | _ => exact (show False from p3).elim
    · exact absurd rfl hb
  · exact absurd rfl hb
theorem s_eqo {cs : Calls} {ebb : Rho → Mem → Rs D} (hcl : ∀ p ∈ G.clss, ClF X.K X.mg G p.1 p.2) (hmt : ∀ p ∈ G.clss, ∀ m ∈ p.2.2, ∃ k, FnR X.prog X.w X.K X.mg X.base (L2.CX X.prog X.w) k (ma X.K (ga X.K p.1) m) (SpC X.K (cs.f (mkey p.1 m))) ∧ Room (k + 1) X.A)
    (ha : Sx X a ea) (hb : Sx X b ebb) (hm : behindInMarks .Eq b = false) : Sx X (.Compare a [.Eq] [b] pos) (fun r M => (ea r M).bind fun x M => (ebb r M).bind fun y M => eqoD ⟨G, cs⟩ x y M) :=
  s_two (P := OpR X (compareOp .Eq)) ha hb (fun r ta tb h h1 h2 => pe_cmpR h h1 h2 hm) fun d1 d2 M => eqo_does hcl hmt d1 d2 M
theorem s_teqo {cs : Calls} {ebb : Rho → Mem → Rs D} (hcl : ∀ p ∈ G.clss, ClF X.K X.mg G p.1 p.2) (hmt : ∀ p ∈ G.clss, ∀ m ∈ p.2.2, ∃ k, FnR X.prog X.w X.K X.mg X.base (L2.CX X.prog X.w) k (ma X.K (ga X.K p.1) m) (SpC X.K (cs.f (mkey p.1 m))) ∧ Room (k + 1) X.A)
    (ha : Sx X a ea) (hb : Sx X b ebb) (hm : behindInMarks .Eq b = false) : Sb X (.Compare a [.Eq] [b] pos) (fun r M => ((ea r M).bind fun x M => (ebb r M).bind fun y M => eqoD ⟨G, cs⟩ x y M).bind fun x M => match x with
    | .bl b => .ok b M
    | _ => .bad) :=
  sb_of (s_twoJ (J := Jt X (.Compare a [.Eq] [b] pos)) (P := OpR X (compareOp .Eq)) Jt.mono ha hb (fun r ta tb h h1 h2 => pt_cmpR h h1 h2 hm) fun d1 d2 M => eqo_does hcl hmt d1 d2 M)
/-- *e among items -/
theorem s_star (ha : Sx X a ea) (hr : Sa X es ees) : Sa X (.Starred a p :: es) (fun r M => (ea r M).bind fun x M => match seqOf M x with
    | some q => (ees r M).bind fun xs M => .ok (q.2 ++ xs) M
    | none => .bad) := fun W tk ρ M => by
  refine (StX.pa_star (ha W tk ρ M) (hr W tk ρ ((ea ρ M).mem M)) rfl).mono fun σ H Q ⟨F, π, R, en, p⟩ => ?_
  refine TD.then R en p fun d M1 F1 π1 H1 v er x1 R1 en1 rv p1 => ?_
  rw [er]
  split at p1
  case h_2 => exact p1.elim
  rename_i q hq
  obtain ⟨b, xs⟩ := q
  obtain ⟨ad, vs, rfl, hrl, hsq⟩ := seq_of hq R1 rv
  refine ⟨ad, vs, rfl, hsq.or.symm, ?_⟩
  refine TDs.then R1 en1 p1 fun ds M2 F2 π2 H2 vs2 er2 x2 R2 en2 rvs p2 => ?_
  exact p2.now R2 _ ((hrl.ext x2).append rvs)
/-- o.f = e -/
theorem s_fset {eo : Rho → Mem → Rs D} (hcl : ∀ p ∈ G.clss, ClF X.K X.mg G p.1 p.2) (hv : Sx X e ea) (ho : Sx X o eo) (hs : swapsWith e (some (.Attribute o f p)) pos.line X.env = pure false) :
    Ss X (.Assign [.Attribute o f p] e pos) (fun r M => (ea r M).go r fun v M => (eo r M).go r fun x M => optS (fsetD G M x f v) fun M => .nx r M) := Ss.of fun W tk ρ M => by
  refine (ps_fld (ho W tk ρ ((ea ρ M).mem M)) (hv W tk ρ M) hs).mono fun D σ H ⟨F, π, R, en, p⟩ => ⟨F, π, R, en, ?_⟩
  refine p.expr en fun v M1 F1 π1 H1 er x1 R1 en1 p1 vv rv => ?_
  rw [er]
  refine ⟨F1, π1, R1, en1, ?_⟩
  refine p1.expr en1 fun x M2 F2 π2 H2 er2 x2 R2 en2 p2 ov ro => ?_
  obtain ⟨M3, e3, p3⟩ := p2.opt
  unfold fsetD at e3
  split at e3
  · rename_i j
    split at e3
    · rename_i c ns ds hm
      split at e3
      · rename_i hk
        cases e3
        obtain ⟨hk1, hk2, hk3⟩ := hk
        cases ro with
        | @ref ad _ h =>
          have q := R2.get hm h
          generalize hq : H2 ad = u at q
          cases q with
          | @ins _ _ _ dx fs hn hr =>
            subst hn
            obtain ⟨q, hq', rfl, hfq⟩ := fok_mem hk3
            obtain ⟨h1, h2⟩ := putN_rel (f := f) (rv.ext x2) hr
            obtain ⟨R4, x4⟩ := R2.put (o := .ins (ga X.K q.1) dx (putF f vv fs)) (m := .ins q.1 (putN f v (fs.map Prod.fst) ds).1 (putN f v (fs.map Prod.fst) ds).2) h (.ins h1 h2)
            exact ⟨ad, _, dx, fs, rfl, hq, (hcl q hq').cls, (hcl q hq').noat f hfq, by simpa using hk1, p3 F2 π2 _ σ x4 R4 en2⟩
      · cases e3
    · cases e3
  · cases e3
end
def isTupX : Expr → Bool
  | .Tuple _ _ _ => true
  | _ => false
theorem s_dct0 {X : Cx} {pos : Pos} : Sx X (.Dict [] [] pos) (fun r M => (Rs.ok [] (M ++ [.dct []])).bind fun xs M1 => opt (pairs2 xs) fun ps => match M1[M.length]? with
      | some (.dct []) => if ps.length ≤ 15 then .ok (.ref M.length) (M1.set M.length (.dct (ps.foldl (fun acc kv => storeK acc kv.1 kv.2) []))) else .bad
      | _ => .bad) := fun W tk ρ M => by
  have e : ((Rs.ok ([] : List D) (M ++ [MO.dct []])).bind fun xs M1 => opt (pairs2 xs) fun ps => match M1[M.length]? with
      | some (.dct []) => if ps.length ≤ 15 then .ok (.ref M.length) (M1.set M.length (.dct (ps.foldl (fun acc kv => storeK acc kv.1 kv.2) []))) else .bad
      | _ => .bad) = Rs.ok (D.ref M.length) (M ++ [MO.dct []]) := by
    show (match (M ++ [MO.dct []])[M.length]? with
      | some (.dct []) => if 0 ≤ 15 then Rs.ok (D.ref M.length) ((M ++ [MO.dct []]).set M.length (MO.dct [])) else .bad
      | _ => .bad) = _
    have h1 : (M ++ [MO.dct []])[M.length]? = some (.dct []) := by simp
    have h2 : (M ++ [MO.dct []]).set M.length (.dct []) = M ++ [.dct []] := by
      rw [List.set_append_right _ _ (Nat.le_refl _), Nat.sub_self]
      rfl
    rw [h1, h2]
    rfl
  have key : PE X (.Dict [] [] pos) (TD X.K (Rs.ok (D.ref M.length) (M ++ [MO.dct []])) ρ M W) := by
    refine pe_dnewK.mono fun σ H Q ⟨F, π, R, en, p⟩ => ?_
    intro a ha
    obtain ⟨R1, x1⟩ := R.mut (o := .dK []) (m := .dct []) ha (.dct (us := []) rfl .nil)
    refine p _ _ _ x1 R1 _ (.ref ?_)
    rw [← R.len]
    simp
  rw [← e] at key
  exact key
theorem swapped_sub2 {o i o2 i2 : Expr} {p p2 pt : Pos} {k : Nat} {e : Expr} {env : PySem.Env} : swappedStores [.Tuple [.Subscript o i p, .Subscript o2 i2 p2] k pt] e env = pure none := by
  by_cases h : isTupX e = true
  · cases e with
    | Tuple vs k2 pt2 =>
      unfold swappedStores
      simp only [List.filterMap_cons, List.filterMap_nil, List.length_cons, List.length_nil]
      split
      · rfl
      · split
        · rfl
        · rfl
    | _ => cases h
  · cases e <;> first | rfl | exact absurd rfl h
/-- a list's item is stored -/
theorem sub_put {K : PySem.W.Frag} {F H : Hp} {π : List Addr} {M M' : Mem} {x y v : D} {vx vy vv : V} (e : subL M x y v = some M') (R : Rep K F π M H) (rx : RelD K F π x vx) (ry : RelD K F π y vy) (rv : RelD K F π v vv) :
    ∃ (a : Addr) (vs : List V) (k : Int) (n : Nat), vx = .ref a ∧ vy = .int k ∧ H a = some (.lst vs) ∧ ixN vs.length k = some n ∧ Rep K F π M' (upd H a (.lst (vs.set n vv))) ∧ Ext F π H F π (upd H a (.lst (vs.set n vv))) := by
  unfold subL at e
  split at e
  · rename_i j k
    split at e
    · rename_i xs hm
      obtain ⟨n, e5, rfl⟩ := Option.map_eq_some_iff.mp e
      cases rx with
      | @ref a _ h =>
        cases ry
        have q := R.get hm h
        generalize hq : H a = u at q
        cases q with
        | @lst _ vs q =>
          obtain ⟨R4, x4⟩ := R.put (o := .lst (vs.set n vv)) (m := .lst (xs.set n v)) h (.lst (q.set rv n))
          exact ⟨a, vs, k, n, rfl, rfl, hq, by rw [← q.length]; exact e5, R4, x4⟩
    · cases e
  · cases e
theorem two_rel {K : PySem.W.Frag} {F H : Hp} {π : List Addr} {v : D} {vv : V} {ab : D × D} (e : two v = some ab) (r : RelD K F π v vv) : ∃ (a : Addr) (w1 w2 : V), vv = .ref a ∧ SqT K F a [w1, w2] ∧ RelD K F π ab.1 w1 ∧ RelD K F π ab.2 w2 := by
  unfold two at e
  split at e
  · cases e
    cases r with
    | tup hT hr =>
      cases hr with
      | cons r1 hr =>
        cases hr with
        | cons r2 hr =>
          cases hr
          exact ⟨_, _, _, rfl, hT, r1, r2⟩
  · cases e
/-- o[i], p[j] = e -/
theorem s_sub2 {X : Cx} {o i o2 i2 e : Expr} {pos p1 p2 pt : Pos} {kt : Nat} {ea eo ei eo2 ei2 : Rho → Mem → Rs D} (hc : X.calm = true) (hv : Sx X e ea) (ho : Sx X o eo) (hi : Sx X i ei) (ho2 : Sx X o2 eo2) (hi2 : Sx X i2 ei2)
    (hs : swapsWith e (some (.Tuple [.Subscript o i p1, .Subscript o2 i2 p2] kt pt)) pos.line X.env = pure false)
    (hass : ∀ v, assign (.Subscript o i p1) X.env v = (do
      let ov ← holding [v] (eval o X.env)
      let iv ← holding [v, ov] (eval i X.env)
      standAt p1
      holding [v, ov, iv] (setItem ov iv v)
      release [v, ov, iv] []))
    (hass2 : ∀ v, assign (.Subscript o2 i2 p2) X.env v = (do
      let ov ← holding [v] (eval o2 X.env)
      let iv ← holding [v, ov] (eval i2 X.env)
      standAt p2
      holding [v, ov, iv] (setItem ov iv v)
      release [v, ov, iv] [])) :
    Ss X (.Assign [.Tuple [.Subscript o i p1, .Subscript o2 i2 p2] kt pt] e pos) (fun r M => (ea r M).go r fun v M => optS (two v) fun ab => (eo r M).go r fun x M => (ei r M).go r fun y M => optS (subL M x y ab.1) fun M => (eo2 r M).go r fun x M => (ei2 r M).go r fun y M => optS (subL M x y ab.2) fun M => .nx r M) := Ss.of fun W tk ρ M => by
  let M0 := (ea ρ M).mem M
  let M1 := (eo ρ M0).mem M0
  let M2 := (ei ρ M1).mem M1
  let M3 := ((two (ea ρ M).val).bind fun ab => subL M2 (eo ρ M0).val (ei ρ M1).val ab.1).getD M2
  let M4 := (eo2 ρ M3).mem M3
  have hs1 : swapsWithSole [.Tuple [.Subscript o i p1, .Subscript o2 i2 p2] kt pt] e pos.line X.env = pure false := hs
  refine (ps_asg (hv W tk ρ M) (pg_tup (n := 2) hc (pgs_cons (pg_sub (ho W tk ρ M0) (hi W tk ρ M1) set_list hass) (pgs_cons (pg_sub (ho2 W tk ρ M3) (hi2 W tk ρ M4) set_list hass2) pgs_nil rfl) rfl) rfl rfl) hs1 swapped_sub2 rfl).mono fun D σ H ⟨F, π, R, en, p⟩ => ⟨F, π, R, en, ?_⟩
  refine p.expr en fun v M0' F0 π0 H0 er x0 R0 en0 p0 vv rv => ?_
  have e0 : M0 = M0' := by show (ea ρ M).mem M = M0'; rw [er]; rfl
  have v0 : (ea ρ M).val = v := by rw [er]; rfl
  obtain ⟨ab, hab, p0⟩ := p0.opt
  obtain ⟨ad, w1, w2, rfl, hT, r1, r2⟩ := two_rel (H := H) hab rv
  refine ⟨ad, [w1, w2], rfl, Same.sqt R0.same hT, rfl, w1, [w2], rfl, F0, π0, e0 ▸ R0, en0, ?_⟩
  refine (e0 ▸ p0 : PostS X.K F0 π0 H0 W D ((eo ρ M0).go ρ fun x M => (ei ρ M).go ρ fun y M => optS (subL M x y ab.1) fun M => (eo2 ρ M).go ρ fun x M => (ei2 ρ M).go ρ fun y M => optS (subL M x y ab.2) fun M => .nx ρ M)).expr en0 fun x M1' F1 π1 H1 er1 x1 R1 en1 p1 ov ro => ?_
  have e1 : M1 = M1' := by show (eo ρ M0).mem M0 = M1'; rw [er1]; rfl
  have v1 : (eo ρ M0).val = x := by rw [er1]; rfl
  refine ⟨F1, π1, e1 ▸ R1, en1, ?_⟩
  refine (e1 ▸ p1 : PostS X.K F1 π1 H1 W D ((ei ρ M1).go ρ fun y M => optS (subL M x y ab.1) fun M => (eo2 ρ M).go ρ fun x M => (ei2 ρ M).go ρ fun y M => optS (subL M x y ab.2) fun M => .nx ρ M)).expr en1 fun y M2' F2 π2 H2 er2 x2 R2 en2 p2 iv ri => ?_
  have e2 : M2 = M2' := by show (ei ρ M1).mem M1 = M2'; rw [er2]; rfl
  have v2 : (ei ρ M1).val = y := by rw [er2]; rfl
  obtain ⟨M3', e3, p3⟩ := p2.opt
  have e3' : M3 = M3' := by
    show ((two (ea ρ M).val).bind fun ab => subL M2 (eo ρ M0).val (ei ρ M1).val ab.1).getD M2 = M3'
    rw [v0, v1, v2, e2, hab]
    show (subL M2' x y ab.1).getD M2' = M3'
    rw [e3]
    rfl
  obtain ⟨a1, l1, k1, n1, rfl, rfl, hq, hix, R3, x3⟩ := sub_put e3 R2 (ro.ext x2) ri ((r1.ext x1).ext x2)
  refine ⟨a1, l1, k1, n1, rfl, rfl, hq, hix, w2, [], rfl, F2, π2, e3' ▸ R3, en2.ext x3, ?_⟩
  have en3 := en2.ext x3
  refine (e3' ▸ PostS.shift x3 p3 : PostS X.K F2 π2 _ W D ((eo2 ρ M3).go ρ fun x M => (ei2 ρ M).go ρ fun y M => optS (subL M x y ab.2) fun M => .nx ρ M)).expr en3 fun x' M4' F4 π4 H4 er4 x4 R4 en4 p4 ov2 ro2 => ?_
  have e4 : M4 = M4' := by show (eo2 ρ M3).mem M3 = M4'; rw [er4]; rfl
  refine ⟨F4, π4, e4 ▸ R4, en4, ?_⟩
  refine (e4 ▸ p4 : PostS X.K F4 π4 H4 W D ((ei2 ρ M4).go ρ fun y M => optS (subL M x' y ab.2) fun M => .nx ρ M)).expr en4 fun y' M5 F5 π5 H5 er5 x5 R5 en5 p5 iv2 ri2 => ?_
  obtain ⟨M6, e6, p6⟩ := p5.opt
  obtain ⟨a2, l2, k2, n2, rfl, rfl, hq2, hix2, R6, x6⟩ := sub_put e6 R5 (ro2.ext x5) ri2 (((((r2.ext x1).ext x2).ext x3).ext x4).ext x5)
  exact ⟨a2, l2, k2, n2, rfl, rfl, hq2, hix2, rfl, p6 F5 π5 _ σ x6 R6 (en5.ext x6)⟩
end MP

/-! A text of Python and a text of the small Python: the same, by a check. -/
namespace MP
open PySem PySem.Spec PyProof.Rows L2 EV
open He (ga ma)

/-- where one stands: the slots' names, the scope, the names whose cells are one's own, whether it is a def's body -/
structure Sco where
  N : List Str
  sc : Scope
  fn : Str → Bool
  top : Bool
/-! ### checks -/
def isStar : Expr → Bool
  | .Starred _ _ => true
  | _ => false
def isCall0 : Expr → Bool
  | .Call _ [] _ _ => true
  | _ => false
def isComp : Expr → Bool
  | .ListComp _ _ _ _ => true
  | .SetComp _ _ _ _ => true
  | .DictComp _ _ _ _ _ => true
  | _ => false
def isSlice : Expr → Bool
  | .Slice _ _ _ _ => true
  | _ => false
def isSet : Expr → Bool
  | .Set _ _ _ => true
  | _ => false
def isTup : Expr → Bool
  | .Tuple _ _ _ => true
  | _ => false
def isPlainTest : Expr → Bool
  | .UnaryOp _ _ _ => false
  | .BoolOp _ _ _ => false
  | .IfExp _ _ _ _ => false
  | .Compare _ _ _ _ => false
  | _ => true
theorem star_cons {e : Expr} {es : List Expr} {env : PySem.Env} (h : isStar e = false) : starEach (e :: es) env = (false, eval e env) :: starEach es env := by
  cases e <;> first | rfl | cases h
theorem star_any {pos : Pos} {env : PySem.Env} : ∀ {es : List Expr}, es.all (fun e => !isStar e) = true → (backTo pos (starEach es env)).any (·.1) = false
  | [], _ => rfl
  | e :: es, h => by
    rw [List.all_cons, Bool.and_eq_true] at h
    rw [star_cons (by simpa using h.1)]
    unfold backTo
    rw [List.map_cons, List.any_cons]
    have := star_any (pos := pos) (env := env) h.2
    unfold backTo at this
    rw [this]
    rfl
theorem star_all {pos : Pos} {env : PySem.Env} : ∀ {es : List Expr}, es.all (fun e => !isStar e) = true → (backTo pos (starEach es env)).all (fun x => !x.1) = true
  | [], _ => rfl
  | e :: es, h => by
    rw [List.all_cons, Bool.and_eq_true] at h
    rw [star_cons (by simpa using h.1)]
    unfold backTo
    rw [List.map_cons, List.all_cons]
    have := star_all (pos := pos) (env := env) h.2
    unfold backTo at this
    rw [this]
    rfl
theorem star_one {e : Expr} {env : PySem.Env} (h : isStar e = false) : starEach [e] env = [(false, eval e env)] := star_cons h
theorem star_two {e f : Expr} {env : PySem.Env} (h : isStar e = false) (h2 : isStar f = false) : starEach [e, f] env = [(false, eval e env), (false, eval f env)] := by
  rw [star_cons h, star_one h2]
theorem base_of {o : Expr} {a : Str} {env : PySem.Env} {w : Sem Value} (h : isCall0 o = false) : attributeBase o a env w = w := by
  cases o with
  | Call f as ks p =>
    cases as with
    | nil => cases h
    | cons x l => cases f <;> rfl
  | _ => rfl
theorem plainIx_of {i : Expr} (h : isSlice i = false) : PlainIx i := by
  cases i <;> first | (intro _ _; rfl) | cases h
theorem fold_of {e : Expr} {env : PySem.Env} (h : isSet e = false) : ∀ x, foldedSetIterable e env x = pure x := by
  cases e <;> first | (intro _; rfl) | cases h
theorem swaps_of {e : Expr} {t : Option Expr} {l : Nat} {env : PySem.Env} (h : isComp e = false) : swapsWith e t l env = pure false := by
  cases e <;> first | rfl | cases h
theorem swaps_sub {e o i : Expr} {p : Pos} {l : Nat} {env : PySem.Env} : swapsWith e (some (.Subscript o i p)) l env = pure false := by
  cases e <;> rfl
theorem swaps_tup {e : Expr} {ts : List Expr} {k l : Nat} {p : Pos} {env : PySem.Env} : swapsWith e (some (.Tuple ts k p)) l env = pure false := by
  cases e <;> rfl
theorem test_of {e : Expr} {env : PySem.Env} (h : isPlainTest e = true) : ∀ whole, isTrue e env whole = (do let v ← whole; standAt e.pos; holding [v] (truthy v)) := by
  cases e <;> first | (intro _; rfl) | cases h
def visB (S : Sco) (x : Str) : Bool := (match S.sc.names.lookup x with
  | some .local | some .cell | some .free => true
  | _ => false) && !(x == "__debug__") && !(x == "__classdict__")
def glB (S : Sco) (x : Str) : Bool := decide (S.sc.names.lookup x = some .globalImplicit) && !(x == "__debug__")
/-- a name that may be stored to -/
def locB (S : Sco) (i : Nat) (x : Str) : Bool := decide (S.N[i]? = some x) && (match S.sc.names.lookup x with
  | some .local => true
  | some .cell => S.fn x
  | _ => false)
def blnB (G : Glob) (S : Sco) (x : Str) : Bool := glB S x && decide (x ∈ G.free) && !(x == "__name__")
def opB : BO → Operator → Bool
  | .add, .Add => true | .sub, .Sub => true | .mul, .Mult => true | .fdiv, .FloorDiv => true | .mod, .Mod => true | .pow, .Pow => true
  | _, _ => false
def copB : CO → CmpOp → Bool
  | .eq, .Eq => true | .ne, .NotEq => true | .lt, .Lt => true | .le, .LtE => true | .gt, .Gt => true | .ge, .GtE => true
  | .in_, .In => true | .notin, .NotIn => true | .is_, .Is => true | .isnot, .IsNot => true
  | _, _ => false
def chB : CO → Bool
  | .in_ | .notin => false
  | _ => true
def mnB : Mn → Bool
  | .append | .pop | .popAt | .insert | .clear | .extend | .reverse | .startswith | .join | .split _ => true
  | _ => false
theorem opB_of {o : BO} {p : Operator} (h : opB o p = true) : p = o.py := by cases o <;> cases p <;> first | rfl | cases h
theorem copB_of {o : CO} {p : CmpOp} (h : copB o p = true) : p = o.py := by cases o <;> cases p <;> first | rfl | cases h
/-- a target -/
def namesB (S : Sco) : List Nat → List Expr → Bool
  | [], [] => true
  | i :: is, .Name x _ :: es => locB S i x && namesB S is es
  | _, _ => false
def okG (S : Sco) (g : SG) (e : Expr) : Bool := match g, e with
  | .nm i, .Name x _ => locB S i x
  | .tp is, .Tuple es _ _ => namesB S is es
  | _, _ => false
def relC (S : Sco) (scope : Scope) : Sco := ⟨S.N, relS scope S.sc, fun x => scope.names.lookup x == some .cell, false⟩
def ownB (S : Sco) (own : List Nat) : List (Str × Nat) := own.filterMap fun i => (S.N[i]?).map fun x => (x, i)
def nilS : SEs → Bool
  | .nil => true
  | _ => false
mutual
def okE (G : Glob) (S : Sco) : SE → Expr → Bool
  | .int i, e => (match e with
    | .Constant (.int j) _ _ => decide (i = j)
    | _ => false)
  | .str i, e => (match e with
    | .Constant (.str j) _ _ => decide (i = j)
    | _ => false)
  | .bl i, e => (match e with
    | .Constant (.bool j) _ _ => decide (i = j)
    | _ => false)
  | .non, e => (match e with
    | .Constant .none _ _ => true
    | _ => false)
  | .var i, e => (match e with
    | .Name x _ => decide (S.N[i]? = some x) && visB S x
    | _ => false)
  | .cst x, e => (match e with
    | .Name y _ => decide (x = y) && glB S x
    | _ => false)
  | .bin _ o a b, e => (match e with
    | .BinOp l p r _ => opB o p && (okE G S a l && okE G S b r)
    | _ => false)
  | .neg a, e => (match e with
    | .UnaryOp .USub l _ => okE G S a l
    | _ => false)
  | .not a, e => (match e with
    | .UnaryOp .Not l _ => okE G S a l
    | _ => false)
  | .cmp o a b, e => (match e with
    | .Compare l [p] [r] _ => copB o p && (!behindInMarks p r && (okE G S a l && okE G S b r))
    | _ => false)
  | .cmp2 o o2 a b c, e => (match e with
    | .Compare l [p, p2] [r, r2] _ => copB o p && (copB o2 p2 && (chB o && (chB o2 && (!behindInMarks p2 r2 && (okE G S a l && (okE G S b r && okE G S c r2))))))
    | _ => false)
  | .and a b, e => (match e with
    | .BoolOp .And (l :: r :: rest) p => okE G S a l && (match rest with
      | [] => okE G S b r
      | _ => okE G S b (.BoolOp .And (r :: rest) p))
    | _ => false)
  | .or a b, e => (match e with
    | .BoolOp .Or (l :: r :: rest) p => okE G S a l && (match rest with
      | [] => okE G S b r
      | _ => okE G S b (.BoolOp .Or (r :: rest) p))
    | _ => false)
  | .ife c a b, e => (match e with
    | .IfExp t l r _ => okT G S c t && (okE G S a l && okE G S b r)
    | _ => false)
  | .tup es, e => (match e with
    | .Tuple l _ _ => okEt G S es l
    | _ => false)
  | .lst _ es, e => (match e with
    | .List l _ => okEt G S es l
    | _ => false)
  | .ix a i, e => (match e with
    | .Subscript l r _ => !isSlice r && (okE G S a l && okE G S i r)
    | _ => false)
  | .sl _ a lo hi, e => (match e with
    | .Subscript l (.Slice x y none _) _ => okE G S a l && (okO G S lo x && okO G S hi y)
    | _ => false)
  | .rev _ a, e => (match e with
    | .Subscript l (.Slice none none (some (.UnaryOp .USub (.Constant (.int 1) _ _) _)) _) _ => okE G S a l
    | _ => false)
  | .call f es, e => (match e with
    | .Call (.Name g _) l [] _ => decide (f = g) && (glB S f && (decide (f ∈ G.fns) && okEs G S es l))
    | _ => false)
  | .make _ c es, e => (match e with
    | .Call (.Name g _) (x :: l) [] _ => decide (g = c) && (glB S c && (G.mok c "__init__" && okEs G S es (x :: l)))
    | _ => false)
  | .cm f o es, e => (match e with
    | .Call (.Attribute x n p) l [] q => decide (n = f) && (!isCall0 x && ((p.endLine == q.line) && (decide (l.length < 29) && (G.clss.any (fun p => decide (f ∈ p.2.2)) && (okE G S o x && okEs G S es l)))))
    | _ => false)
  | .blt f es, e => (match f with
    | .divmod => false
    | f => (match e with
      | .Call (.Name g _) (x :: l) [] _ => decide (g = f.name) && (blnB G S f.name && okEs G S es (x :: l))
      | _ => false))
  | .meth f o es, e => (match e with
    | .Call (.Attribute x n p) l [] q => decide (n = f.name) && (mnB f && (!isCall0 x && ((p.endLine == q.line) && (decide (l.length < 29) && (okE G S o x && okEs G S es l)))))
    | _ => false)
  | .fld o f, e => (match e with
    | .Attribute x n _ => decide (n = f) && (!isCall0 x && okE G S o x)
    | _ => false)
  | .lc _ own g it c el, e => (match e with
    | .ListComp x [⟨tg, iter, ifs, 0⟩] scope _ => blkC S.N S.sc scope (ownB S own) && (decide ((ownB S own).map (·.2) = own) && (g.all.all (fun i => decide (i ∈ own)) && (!isSet iter && (okG (relC S scope) g tg && (okI G S it tg iter && (okC G (relC S scope) c ifs && okE G (relC S scope) el x))))))
    | _ => false)
  | .dct es, e => (match e with
    | .Dict keys values _ => (nilS es && (keys.isEmpty && values.isEmpty)) || keys.all (·.isSome) && (decide (keys.length = values.length) && (!keys.isEmpty && (decide (keys.length ≤ 15) && okKV G S es keys values)))
    | _ => false)
  | .isi a t, e => (match e with
    | .Call (.Name g _) [x, .Name y _] [] _ => decide (g = "isinstance") && (blnB G S "isinstance" && (decide (y = Str.ofString t) && (decide (t = "int" ∨ t = "bool" ∨ t = "str" ∨ t = "list" ∨ t = "tuple") && (blnB G S (Str.ofString t) && (!isStar x && okE G S a x)))))
    | _ => false)
  | .isc a c, e => (match e with
    | .Call (.Name g _) [x, .Name y _] [] _ => decide (g = "isinstance") && (blnB G S "isinstance" && (decide (y = c) && (glB S c && ((G.clss.lookup c).isSome && (!isStar x && okE G S a x)))))
    | _ => false)
  | .eqo a b, e => (match e with
    | .Compare l [.Eq] [r] _ => !behindInMarks .Eq r && (okE G S a l && okE G S b r)
    | _ => false)
  | .lrg _ a b, e => (match e with
    | .Call (.Name g _) [.Call (.Name h _) [x] [] _] [] _ => decide (g = "list") && (decide (h = "range") && (blnB G S "list" && (blnB G S "range" && (!isStar x && ((match a with
      | .int 0 => true
      | _ => false) && okE G S b x)))))
    | .Call (.Name g _) [.Call (.Name h _) [x, y] [] _] [] _ => decide (g = "list") && (decide (h = "range") && (blnB G S "list" && (blnB G S "range" && (!isStar x && (!isStar y && (okE G S a x && okE G S b y))))))
    | _ => false)
def okEs (G : Glob) (S : Sco) : SEs → List Expr → Bool
  | .nil, l => l.isEmpty
  | .cons a r, l => (match l with
    | x :: l => !isStar x && (okE G S a x && okEs G S r l)
    | [] => false)
  | .star _ _, _ => false
def okEt (G : Glob) (S : Sco) : SEs → List Expr → Bool
  | .nil, l => l.isEmpty
  | .cons a r, l => (match l with
    | x :: l => !isStar x && (okE G S a x && okEt G S r l)
    | [] => false)
  | .star a r, l => (match l with
    | .Starred x _ :: l => okE G S a x && okEt G S r l
    | _ => false)
def okKV (G : Glob) (S : Sco) : SEs → List (Option Expr) → List Expr → Bool
  | .nil, l, m => l.isEmpty && m.isEmpty
  | .cons a r, l, m => (match r, l, m with
    | .cons b r, some k :: l, v :: m => okE G S a k && (okE G S b v && okKV G S r l m)
    | _, _, _ => false)
  | .star _ _, _, _ => false
def okO (G : Glob) (S : Sco) : SO → Option Expr → Bool
  | .none, o => o.isNone
  | .some a, o => (match o with
    | some e => okE G S a e
    | none => false)
def okT (G : Glob) (S : Sco) : ST → Expr → Bool
  | .val a, e => okE G S a e && (isPlainTest e || (match a with
    | .cmp _ _ _ => true
    | .cmp2 _ _ _ _ _ => true
    | .eqo _ _ => true
    | _ => false))
  | .tru a, e => isPlainTest e && okE G S a e
  | .and a b, e => (match e with
    | .BoolOp .And (l :: r :: rest) p => okT G S a l && (match rest with
      | [] => okT G S b r
      | _ => okT G S b (.BoolOp .And (r :: rest) p))
    | _ => false)
  | .or a b, e => (match e with
    | .BoolOp .Or (l :: r :: rest) p => okT G S a l && (match rest with
      | [] => okT G S b r
      | _ => okT G S b (.BoolOp .Or (r :: rest) p))
    | _ => false)
  | .not a, e => (match e with
    | .UnaryOp .Not l _ => okT G S a l
    | _ => false)
def okC (G : Glob) (S : Sco) : SC → List Expr → Bool
  | .yes, l => l.isEmpty
  | .one t, l => (match l with
    | [e] => okT G S t e
    | _ => false)
def okI (G : Glob) (S : Sco) : SI → Expr → Expr → Bool
  | .seq a, _, e => okE G S a e
  | .rng1 a, _, e => (match e with
    | .Call (.Name g _) [x] [] _ => decide (g = "range") && (blnB G S "range" && (!isStar x && okE G S a x))
    | _ => false)
  | .rng2 a b, _, e => (match e with
    | .Call (.Name g _) [x, y] [] _ => decide (g = "range") && (blnB G S "range" && (!isStar x && (!isStar y && (okE G S a x && okE G S b y))))
    | _ => false)
  | .enum a, tg, e => isTup tg && (match e with
    | .Call (.Name g _) [x] [] _ => decide (g = "enumerate") && (blnB G S "enumerate" && (!isStar x && okE G S a x))
    | _ => false)
  | _, _, _ => false
end
end MP

/-! What passes the check is read by the evaluator. -/
namespace MP
open PySem PySem.Spec PyProof.Rows L2 EV
open He (ga ma)

/-- what the context must say -/
structure Fits (Γ : MP.Env) (S : Sco) (X : Cx) : Prop where
  N : X.N = S.N
  sc : X.env.scope = S.sc
  nd : X.N.Nodup
  calm : X.calm = true
  fn : ∀ x, S.fn x = true → X.fn x = true
  units : X.A.units + 65 < cLine
  free : ∀ x ∈ Γ.g.free, X.mg x = none
  cst : ∀ x d, Γ.cst x = some d → ∃ u v, X.mg x = some u ∧ RelV v u ∧ ∀ F π, RelD X.K F π d v
  call : ∀ f ∈ Γ.g.fns, ∃ k, Gd X.prog X.w X.K X.mg X.base k f (SpC X.K (Γ.cs.f f)) ∧ Room k X.A
  rai : ∀ c f, Γ.g.excs.lookup c = some f → RzOk X c f
  top : S.top = true → X.stack = X.env :: X.outer ∧ X.env.frame = some X.env.locals
  exm : ∀ c c' b, Γ.csub c c' = some b → PySem.W.exmOne X.K (.ref (ga X.K c)) (.ref (ga X.K c')) = some b
  xcl : ∀ c f, Γ.g.excs.lookup c = some f → XcOk X.K (ga X.K c) ∧ PySem.W.findIn X.K (.ref (ga X.K c)) f = some none
  own : ∀ c, (c = Γ.g.root ∨ (Γ.g.excs.lookup c).isSome = true) → X.mg c = some (.ref (ga X.K c))
  kit : ∀ c x b, Γ.sub c x = some b → x ≠ "ValueError" → PySem.W.kitOne X.K (.ref (ga X.K c)) (.ref (ga X.K x)) = some b
  kitV : ∀ c b, Γ.sub c "ValueError" = some b → PySem.W.kitOne X.K (.ref (ga X.K c)) (.type "ValueError") = some b
  cl : ∀ p ∈ Γ.g.clss, ClF X.K X.mg Γ.g p.1 p.2
  mt : ∀ p ∈ Γ.g.clss, ∀ m ∈ p.2.2, ∃ k, FnR X.prog X.w X.K X.mg X.base (L2.CX X.prog X.w) k (ma X.K (ga X.K p.1) m) (SpC X.K (Γ.cs.f (mkey p.1 m))) ∧ Room (k + 1) X.A
section
variable {Γ : MP.Env} {S : Sco} {X : Cx}
theorem Fits.gl (T : Fits Γ S X) {x : Str} (h : glB S x = true) : Gl X x ∧ (x == ("__debug__" : Str)) = false := by
  unfold glB at h
  rw [Bool.and_eq_true, decide_eq_true_eq] at h
  exact ⟨by show X.env.scope.names.lookup x = _; rw [T.sc]; exact h.1, by simpa using h.2⟩
theorem Fits.vis (T : Fits Γ S X) {x : Str} (h : visB S x = true) : Vis X.env.scope x ∧ (x == ("__debug__" : Str)) = false ∧ (x == ("__classdict__" : Str)) = false := by
  unfold visB at h
  simp only [Bool.and_eq_true, Bool.not_eq_true'] at h
  obtain ⟨⟨h1, h2⟩, h3⟩ := h
  refine ⟨?_, h2, h3⟩
  rw [T.sc]
  split at h1
  · exact .inl (by assumption)
  · exact .inr (.inl (by assumption))
  · exact .inr (.inr (by assumption))
  · cases h1
theorem Fits.loc (T : Fits Γ S X) {i : Nat} {x : Str} (h : locB S i x = true) : X.N[i]? = some x ∧ Loc X.env.scope x ∧ (X.fn x = true ∨ X.env.scope.names.lookup x = some .local) := by
  unfold locB at h
  rw [Bool.and_eq_true, decide_eq_true_eq] at h
  refine ⟨by rw [T.N]; exact h.1, ?_⟩
  have h2 := h.2
  rw [T.sc]
  split at h2
  · rename_i q
    exact ⟨.inl q, .inr q⟩
  · rename_i q
    exact ⟨.inr q, .inl (T.fn x h2)⟩
  · cases h2
theorem Fits.bln (T : Fits Γ S X) {x : Str} (h : blnB Γ.g S x = true) : Gl X x ∧ X.mg x = none ∧ (x == ("__debug__" : Str)) = false ∧ x ≠ "__name__" := by
  unfold blnB at h
  simp only [Bool.and_eq_true, decide_eq_true_eq, Bool.not_eq_true'] at h
  obtain ⟨⟨h1, h2⟩, h3⟩ := h
  obtain ⟨h4, h5⟩ := T.gl h1
  exact ⟨h4, T.free x h2, h5, fun e => by subst e; cases h3⟩
theorem Fits.pgs (T : Fits Γ S X) : ∀ {is : List Nat} {es : List Expr}, namesB S is es = true → PGs X es (gNames is) ∧ es.length = is.length ∧ (assignEach es X.env).length = is.length ∧ (assignEach es X.env).findIdx? (·.1) = none
  | [], [], _ => ⟨pgs_nil, rfl, rfl, rfl⟩
  | i :: is, e :: es, h => by
    cases e with
    | Name x p =>
      have h : (locB S i x && namesB S is es) = true := h
      rw [Bool.and_eq_true] at h
      obtain ⟨h1, h2, h3⟩ := T.loc h.1
      obtain ⟨q1, q2, q3, q4⟩ := T.pgs h.2
      refine ⟨pgs_cons (pg_name T.nd h1 h2 h3) q1 rfl, by simp [q2], ?_, ?_⟩
      · show (assignEach es X.env).length + 1 = _
        rw [q3]
        rfl
      · show List.findIdx? _ ((false, assign (.Name x p) X.env) :: assignEach es X.env) = none
        rw [List.findIdx?_cons]
        simp [q4]
    | _ => cases h
  | [], _ :: _, h => by cases h
  | _ :: _, [], h => by cases h
theorem Fits.pg (T : Fits Γ S X) {g : SG} {e : Expr} (h : okG S g e = true) : PG X e (tgOf X.K g) := by
  cases g with
  | nm i =>
    cases e with
    | Name x p =>
      obtain ⟨h1, h2, h3⟩ := T.loc h
      exact pg_name T.nd h1 h2 h3
    | _ => cases h
  | tp is =>
    cases e with
    | Tuple es k p =>
      obtain ⟨q1, q2, q3, q4⟩ := T.pgs h
      exact pg_tup T.calm q1 q3 q4
    | _ => cases h
/-- in a comprehension's block -/
theorem Fits.blk (T : Fits Γ S X) {scope : Scope} (s : Shared) (H : Hp) (C : Addr) (cl : List (Str × Addr)) (fp : List Addr) (hr : ∀ k, Room k X.A → Room k X.A) : Fits Γ (relC S scope) (X.blk s H scope (compEnvC scope cl C X.env) fp) where
  N := T.N
  sc := by show relS scope X.env.scope = _; rw [T.sc]; rfl
  nd := T.nd
  calm := T.calm
  fn := fun x h => h
  units := T.units
  free := T.free
  cst := T.cst
  call := T.call
  rai := fun c f h => ⟨(T.rai c f h).oex, (T.rai c f h).glo, (T.rai c f h).init⟩
  top := fun h => by cases h
  exm := T.exm
  xcl := T.xcl
  own := T.own
  kit := T.kit
  kitV := T.kitV
  cl := T.cl
  mt := T.mt
theorem boot_list' : bootBuiltins "list" = some (.type "list") := by decide +kernel
theorem boot_sorted' : bootBuiltins "sorted" = some (.builtin "sorted") := by decide +kernel
theorem boot_bn (f : Bn) : bootBuiltins f.name = some f.val := by cases f <;> first | exact boot_list' | exact boot_sorted' | decide +kernel
theorem own_eq {S : Sco} {own : List Nat} : ∀ p ∈ ownB S own, S.N[p.2]? = some p.1 := fun p hp => by
  obtain ⟨i, _, h⟩ := List.mem_filterMap.mp hp
  obtain ⟨x, h1, rfl⟩ := Option.map_eq_some_iff.mp h
  exact h1
theorem Takes.blk0 {s : Shared} : True := True.intro
theorem sw_bool {e : Expr} {op : BoolOp} {vs : List Expr} {p : Pos} {ev : Rho → Mem → Rs Bool} (h : Sw X (.BoolOp op vs p) ev) : Sb X (.BoolOp op vs p) ev := fun W tk ρ M => (h W tk ρ M).pt
/-- the built-in classes that isinstance is asked about -/
theorem isi_one {d : D} {t : String} {b : Bool} {v : V} {F H : Hp} {π : List Addr} {M : Mem} (e : isiD d t = some b) (ht : t = "int" ∨ t = "bool" ∨ t = "str" ∨ t = "list" ∨ t = "tuple") (R : Rep X.K F π M H) (r : RelD X.K F π d v) : ∃ ty, TyX X.K H v ty ∧ PySem.W.kitOne X.K ty (.type t) = some b := by
  cases r with
  | non =>
    cases e
    refine ⟨_, .base .non, ?_⟩
    rcases ht with rfl | rfl | rfl | rfl | rfl <;> exact kit_ty (by decide +kernel)
  | bl k =>
    cases e
    refine ⟨_, .base (.bl k), ?_⟩
    rcases ht with rfl | rfl | rfl | rfl | rfl <;> exact kit_ty (by decide +kernel)
  | int k =>
    cases e
    refine ⟨_, .base (.int k), ?_⟩
    rcases ht with rfl | rfl | rfl | rfl | rfl <;> exact kit_ty (by decide +kernel)
  | str k =>
    cases e
    refine ⟨_, .base (.str k), ?_⟩
    rcases ht with rfl | rfl | rfl | rfl | rfl <;> exact kit_ty (by decide +kernel)
  | lst h q =>
    cases e
    refine ⟨_, .base (.lst (R.same _ _ h)), ?_⟩
    rcases ht with rfl | rfl | rfl | rfl | rfl <;> exact kit_ty (by decide +kernel)
  | tup h q =>
    cases e
    rename_i ad _ _
    have key : ∃ ty, TyX X.K H (.ref ad) ty ∧ ty = .type "tuple" := by
      rcases Same.sqt R.same h with h | ⟨o, its, n, h1, h2, _⟩
      · rcases h with h | ⟨o, h⟩
        · exact ⟨_, .base (.tup h), rfl⟩
        · exact ⟨_, .fTuple h, rfl⟩
      · exact ⟨_, .kTuple h1 h2, rfl⟩
    obtain ⟨ty, h1, rfl⟩ := key
    refine ⟨_, h1, ?_⟩
    rcases ht with rfl | rfl | rfl | rfl | rfl <;> exact kit_ty (by decide +kernel)
  | _ => cases e
theorem s_isi {a : Expr} {ea : Rho → Mem → Rs D} {t : String} {p p2 pos : Pos} (ht : t = "int" ∨ t = "bool" ∨ t = "str" ∨ t = "list" ∨ t = "tuple") (hg : Gl X "isinstance") (hm : X.mg "isinstance" = none) (hgt : Gl X (Str.ofString t)) (hmt : X.mg (Str.ofString t) = none) (hs : isStar a = false) (ha : Sx X a ea) :
    Sx X (.Call (.Name "isinstance" p) [a, .Name (Str.ofString t) p2] [] pos) (fun r M => (ea r M).bind fun x M => opt (isiD x t) fun b => .ok (.bl b) M) := by
  have hty : PE X (.Name (Str.ofString t) p2) (tC (.ty t)) := by
    rcases ht with rfl | rfl | rfl | rfl | rfl <;> exact pe_bltn hgt hmt (u := .type _) (by decide +kernel) rfl (by decide) (by decide)
  refine s_one (P := fun r => r = fun v H Q => rIsi X.K [v, .ty t] H Q) ha (fun r ta pr h => ?_) fun d M => ⟨_, rfl, fun F π H E v Q R r p => ?_⟩
  · subst pr
    exact pe_callB call_isi hg hm (by decide +kernel) (pa_cons h (pa_cons hty pa_nil) (star_cons hs)) (by decide) (by decide) (star_cons hs) rfl
  · obtain ⟨b, e, p⟩ := Post.opt p
    obtain ⟨ty, h1, h2⟩ := isi_one e ht R r
    exact ⟨v, .ty t, ty, .type t, b, rfl, .ty t, h1, h2, Post.now p R _ (.bl _)⟩
theorem rng_rel {K : PySem.W.Frag} {F : Hp} {π : List Addr} (a b : Int) : RelDs K F π (rngD (b - a).toNat a) (rgV a b) := by
  unfold rngD rgV
  generalize List.range (b - a).toNat = l
  induction l with
  | nil => exact .nil
  | cons i l ih => exact .cons (.int _) ih
theorem lrg_post {m : Bool} {M : Mem} {x y : D} {F H : Hp} {π : List Addr} {E : XK} {Q : VK} {i j : Int} (p : Post X.K F π H E (kD X.K Q) (lrgD m M (.int i) (.int j))) (R : Rep X.K F π M H) : RgOk i j ∧ ∀ q, H q = none → Q (.ref q) (upd H q (.lst (rgV i j))) := by
  obtain ⟨⟨h1, h2⟩, p⟩ := Post.ite p
  have h1 := rngOk_iff h1
  exact ⟨⟨h1.1, h1.2.1, h1.2.2.1, h1.2.2.2, h2⟩, fun l hl => mkL_new p R (rng_rel i j) hl⟩
theorem s_lrg1 {b : Expr} {eb : Rho → Mem → Rs D} {m : Bool} {p p2 pos pos2 : Pos} (hc : X.calm = true) (hg : Gl X "list") (hm : X.mg "list" = none) (hg2 : Gl X "range") (hm2 : X.mg "range" = none) (hs : isStar b = false) (hb : Sx X b eb) :
    Sx X (.Call (.Name "list" p) [.Call (.Name "range" p2) [b] [] pos2] [] pos) (fun r M => (Rs.ok (.int 0) M).bind fun x M => (eb r M).bind fun y M => lrgD m M x y) := fun W tk ρ M => by
  refine (pe_listRg hc hg hm (prg_1 hg2 hm2 (hb W tk ρ M) (star_one hs))).mono fun σ H Q ⟨F, π, R, en, p⟩ => ?_
  refine TD.then (r := eb ρ M) R en p fun d M1 F1 π1 H1 v er x1 R1 en1 rv p1 => ?_
  cases d with
  | int j =>
    cases rv
    obtain ⟨h1, h2⟩ := lrg_post (x := .non) (y := .non) p1 R1
    exact ⟨j, rfl, h1, h2⟩
  | _ => exact p1.elim
theorem s_lrg2 {a b : Expr} {ea eb : Rho → Mem → Rs D} {m : Bool} {p p2 pos pos2 : Pos} (hc : X.calm = true) (hg : Gl X "list") (hm : X.mg "list" = none) (hg2 : Gl X "range") (hm2 : X.mg "range" = none) (hs : isStar a = false) (hs2 : isStar b = false) (ha : Sx X a ea) (hb : Sx X b eb) :
    Sx X (.Call (.Name "list" p) [.Call (.Name "range" p2) [a, b] [] pos2] [] pos) (fun r M => (ea r M).bind fun x M => (eb r M).bind fun y M => lrgD m M x y) := fun W tk ρ M => by
  refine (pe_listRg hc hg hm (prg_2 hg2 hm2 (ha W tk ρ M) (hb W tk ρ ((ea ρ M).mem M)) (by rw [star_two hs hs2, star_one hs2]) (star_one hs2) (by rw [star_one hs2]; rfl))).mono fun σ H Q ⟨F, π, R, en, p⟩ => ?_
  refine TD.then (r := ea ρ M) R en p fun d M1 F1 π1 H1 v er x1 R1 en1 rv p1 => ?_
  rw [er]
  refine TD.then R1 en1 p1 fun d2 M2 F2 π2 H2 v2 er2 x2 R2 en2 rv2 p2 => ?_
  cases d with
  | int i =>
    cases d2 with
    | int j =>
      cases rv
      cases rv2
      obtain ⟨h1, h2⟩ := lrg_post (x := .non) (y := .non) p2 R2
      exact ⟨i, j, rfl, rfl, h1, h2⟩
    | _ => exact p2.elim
  | _ => cases d2 <;> exact p2.elim
end
mutual
theorem okE_sound {cs : Calls} {G : Glob} : ∀ (a : SE) {S : Sco} {X : Cx} {e : Expr}, Fits ⟨G, cs⟩ S X → okE G S a e = true → Sx X e (evE ⟨G, cs⟩ a)
  | .int i, S, X, e, T, h => by
    simp only [okE] at h
    split at h
    · rw [decide_eq_true_eq] at h
      subst h
      exact s_pure pe_int fun F π => .int _
    · cases h
  | .str i, S, X, e, T, h => by
    simp only [okE] at h
    split at h
    · rw [decide_eq_true_eq] at h
      subst h
      exact s_pure pe_str fun F π => .str _
    · cases h
  | .bl i, S, X, e, T, h => by
    simp only [okE] at h
    split at h
    · rw [decide_eq_true_eq] at h
      subst h
      exact s_pure pe_bl fun F π => .bl _
    · cases h
  | .non, S, X, e, T, h => by
    simp only [okE] at h
    split at h
    · exact s_pure pe_non fun F π => .non
    · cases h
  | .var i, S, X, e, T, h => by
    simp only [okE] at h
    split at h
    · rw [Bool.and_eq_true, decide_eq_true_eq] at h
      obtain ⟨h1, h2, h3⟩ := T.vis h.2
      exact s_var (pe_var (by rw [T.N]; exact h.1) h1 h2 h3)
    · cases h
  | .cst x, S, X, e, T, h => by
    simp only [okE] at h
    split at h
    · rw [Bool.and_eq_true, decide_eq_true_eq] at h
      obtain ⟨rfl, h⟩ := h
      obtain ⟨h1, h2⟩ := T.gl h
      intro W tk ρ M
      show PE X _ (TD X.K (opt (Env.cst ⟨G, cs⟩ x) fun d => .ok d M) ρ M W)
      cases q : Env.cst ⟨G, cs⟩ x with
      | none => exact ⟨fun pins s σ H Q I ⟨F, π, R, en, p⟩ => p.elim⟩
      | some d =>
        obtain ⟨u, v, h3, h4, h5⟩ := T.cst x d q
        exact s_pure (pe_glob h1 h3 h4 h2) h5 W tk ρ M
    · cases h
  | .bin m o a b, S, X, e, T, h => by
    simp only [okE] at h
    split at h
    · simp only [Bool.and_eq_true] at h
      obtain ⟨h1, h2, h3⟩ := h
      rw [opB_of h1]
      exact s_bin (okE_sound a T h2) (okE_sound b T h3)
    · cases h
  | .neg a, S, X, e, T, h => by
    simp only [okE] at h
    split at h
    · exact s_neg (okE_sound a T h)
    · cases h
  | .not a, S, X, e, T, h => by
    simp only [okE] at h
    split at h
    · exact s_not (okE_sound a T h)
    · cases h
  | .cmp o a b, S, X, e, T, h => by
    simp only [okE] at h
    split at h
    · simp only [Bool.and_eq_true, Bool.not_eq_true'] at h
      obtain ⟨h1, h2, h3, h4⟩ := h
      rw [copB_of h1] at h2 ⊢
      exact s_cmp T.units (okE_sound a T h3) (okE_sound b T h4) h2
    · cases h
  | .cmp2 o p a b c, S, X, e, T, h => by
    simp only [okE] at h
    split at h
    · simp only [Bool.and_eq_true, Bool.not_eq_true'] at h
      obtain ⟨h1, h2, h3, h4, h5, h6, h7, h8⟩ := h
      rw [copB_of h2] at h5
      rw [copB_of h1, copB_of h2]
      exact s_cmp2 T.units (okE_sound a T h6) (okE_sound b T h7) (okE_sound c T h8) h3 h4 h5
    · cases h
  | .and a b, S, X, e, T, h => by
    simp only [okE] at h
    split at h
    · rename_i l r rest p
      rw [Bool.and_eq_true] at h
      obtain ⟨h1, h2⟩ := h
      cases rest with
      | nil => exact s_and (okE_sound a T h1) (s_onev (okE_sound b T h2))
      | cons r2 rest => exact s_and (okE_sound a T h1) (okE_sound b T h2)
    · cases h
  | .or a b, S, X, e, T, h => by
    simp only [okE] at h
    split at h
    · rename_i l r rest p
      rw [Bool.and_eq_true] at h
      obtain ⟨h1, h2⟩ := h
      cases rest with
      | nil => exact s_or (okE_sound a T h1) (s_onev (okE_sound b T h2))
      | cons r2 rest => exact s_or (okE_sound a T h1) (okE_sound b T h2)
    · cases h
  | .ife c a b, S, X, e, T, h => by
    simp only [okE] at h
    split at h
    · simp only [Bool.and_eq_true] at h
      obtain ⟨h1, h2, h3⟩ := h
      exact s_ife (okT_sound c T h1).1 (okE_sound a T h2) (okE_sound b T h3)
    · cases h
  | .tup es, S, X, e, T, h => by
    simp only [okE] at h
    split at h
    · exact s_tup (okEt_sound es T h)
    · cases h
  | .lst m es, S, X, e, T, h => by
    simp only [okE] at h
    split at h
    · exact s_lst (okEt_sound es T h)
    · cases h
  | .ix a i, S, X, e, T, h => by
    simp only [okE] at h
    split at h
    · simp only [Bool.and_eq_true, Bool.not_eq_true'] at h
      obtain ⟨h1, h2, h3⟩ := h
      exact s_ix T.units (okE_sound a T h2) (okE_sound i T h3) (plainIx_of h1)
    · cases h
  | .sl m a lo hi, S, X, e, T, h => by
    simp only [okE] at h
    split at h
    · simp only [Bool.and_eq_true] at h
      obtain ⟨h1, h2, h3⟩ := h
      exact s_sl (okE_sound a T h1) (okO_sound lo T h2) (okO_sound hi T h3)
    · cases h
  | .rev m a, S, X, e, T, h => by
    simp only [okE] at h
    split at h
    · exact s_rev (okE_sound a T h)
    · cases h
  | .call f es, S, X, e, T, h => by
    simp only [okE] at h
    split at h
    · simp only [Bool.and_eq_true, decide_eq_true_eq] at h
      obtain ⟨rfl, h1, h2, h3⟩ := h
      obtain ⟨g1, g2⟩ := T.gl h1
      obtain ⟨k, Gf, hr⟩ := T.call f h2
      rename_i g p l q
      cases es with
      | nil =>
        cases l with
        | nil => exact s_call0 Gf hr g1 g2
        | cons _ _ => cases h3
      | star _ _ => cases h3
      | cons e0 es =>
        cases l with
        | nil => cases h3
        | cons x l =>
          have hs := okEs_star (.cons e0 es) h3
          rw [List.all_cons, Bool.and_eq_true] at hs
          exact s_call Gf hr (okEs_sound (.cons e0 es) T h3) g1 g2 (star_cons (by simpa using hs.1)) (star_any hs.2)
    · cases h
  | .make m c es, S, X, e, T, h => by
    simp only [okE] at h
    split at h
    · simp only [Bool.and_eq_true, decide_eq_true_eq] at h
      obtain ⟨rfl, h1, h2, h3⟩ := h
      obtain ⟨g1, g2⟩ := T.gl h1
      obtain ⟨q, hq, rfl, hi⟩ := mok_mem h2
      have hs := okEs_star es h3
      rw [List.all_cons, Bool.and_eq_true] at hs
      exact s_make (T.cl q hq) hi (T.mt q hq _ hi) g1 g2 (okEs_sound es T h3) (star_cons (by simpa using hs.1)) (star_any hs.2)
    · cases h
  | .cm f o es, S, X, e, T, h => by
    simp only [okE] at h
    split at h
    · simp only [Bool.and_eq_true, decide_eq_true_eq, Bool.not_eq_true'] at h
      obtain ⟨rfl, h2, h3, h4, h7, h5, h6⟩ := h
      obtain ⟨q0, hq0, hm0⟩ := List.any_eq_true.mp h7
      have hex : ∃ p ∈ G.clss, _ ∈ p.2.2 := ⟨q0, hq0, of_decide_eq_true hm0⟩
      rename_i x n p l q
      cases es with
      | nil =>
        cases l with
        | nil => exact s_cm0 T.cl T.mt hex (okE_sound o T h5) (base_of h2) h3
        | cons _ _ => cases h6
      | star _ _ => cases h6
      | cons e0 es =>
        cases l with
        | nil => cases h6
        | cons y l =>
          have hs := okEs_star (.cons e0 es) h6
          have hall := star_all (pos := q) (env := X.env) hs
          rw [List.all_cons, Bool.and_eq_true] at hs
          refine s_cm T.cl T.mt hex (okE_sound o T h5) (okEs_sound (.cons e0 es) T h6) (base_of h2) ?_ h3 (star_cons (by simpa using hs.1)) (star_any hs.2)
          unfold methodCallForm
          rw [hall]
          simp only [List.length_cons] at h4 ⊢
          exact decide_eq_true (show l.length + 1 + 0 + 0 < 30 by omega)
    · cases h
  | .blt f es, S, X, e, T, h => by
    cases f with
    | divmod => simp only [okE] at h; cases h
    | _ =>
      simp only [okE] at h
      split at h
      · simp only [Bool.and_eq_true, decide_eq_true_eq] at h
        obtain ⟨rfl, h1, h2⟩ := h
        obtain ⟨g1, g2, g3, g4⟩ := T.bln h1
        have hs := okEs_star es h2
        rw [List.all_cons, Bool.and_eq_true] at hs
        exact s_blt T.calm (okEs_sound es T h2) g1 g2 (boot_bn _) g4 g3 (star_cons (by simpa using hs.1)) (star_any hs.2)
      · cases h
  | .meth f o es, S, X, e, T, h => by
    simp only [okE] at h
    split at h
    · simp only [Bool.and_eq_true, decide_eq_true_eq, Bool.not_eq_true'] at h
      obtain ⟨rfl, h1, h2, h3, h4, h5, h6⟩ := h
      rename_i x p l q
      cases es with
      | nil =>
        cases l with
        | nil => exact s_meth0 h1 (okE_sound o T h5) (base_of h2) h3
        | cons _ _ => cases h6
      | star _ _ => cases h6
      | cons e0 es =>
        cases l with
        | nil => cases h6
        | cons y l =>
          have hs := okEs_star (.cons e0 es) h6
          have hall := star_all (pos := q) (env := X.env) hs
          rw [List.all_cons, Bool.and_eq_true] at hs
          refine s_meth h1 (okE_sound o T h5) (okEs_sound (.cons e0 es) T h6) (base_of h2) ?_ h3 (star_cons (by simpa using hs.1)) (star_any hs.2)
          rw [hall]
          simp only [List.length_cons] at h4 ⊢
          exact decide_eq_true (show l.length + 1 + 0 + 0 < 30 by omega)
    · cases h
  | .fld o f, S, X, e, T, h => by
    simp only [okE] at h
    split at h
    · simp only [Bool.and_eq_true, decide_eq_true_eq, Bool.not_eq_true'] at h
      obtain ⟨rfl, h1, h2⟩ := h
      exact s_fld T.cl (okE_sound o T h2) (base_of h1)
    · cases h
  | .lc m own g it c el, S, X, e, T, h => by
    simp only [okE] at h
    split at h
    · simp only [Bool.and_eq_true, decide_eq_true_eq, Bool.not_eq_true', List.all_eq_true] at h
      obtain ⟨h1, h2, h3, h4, h5, h6, h7, h8⟩ := h
      rename_i x tg iter ifs scope pos
      have key := s_lc (X := X) (m := m) (g := g) (pos := pos) (own := ownB S own) T.calm T.nd (okI_sound it T h6) (by rw [T.N, T.sc]; exact blkOk_by h1)
        (fun s H C cl fp => (T.blk (scope := scope) s H C cl fp fun _ h => h).pg h5) (fun s H C cl fp => okC_sound c (T.blk (scope := scope) s H C cl fp fun _ h => h) h7) (fun s H C cl fp => okE_sound el (T.blk (scope := scope) s H C cl fp fun _ h => h) h8) (fold_of h4) (fun i hi => by rw [h2]; exact h3 i hi)
      rw [h2] at key
      exact key
    · cases h
  | .dct es, S, X, e, T, h => by
    simp only [okE] at h
    split at h
    · simp only [Bool.and_eq_true, decide_eq_true_eq, Bool.not_eq_true', Bool.or_eq_true] at h
      rcases h with ⟨h1, h2, h3⟩ | h
      · rw [List.isEmpty_iff.mp h2, List.isEmpty_iff.mp h3]
        cases es with
        | nil => exact s_dct0
        | _ => cases h1
      obtain ⟨h1, h2, h3, h4, h5⟩ := h
      exact s_dct (okKV_sound es T h5) h1 h2 (fun z => by rw [z] at h3; cases h3) h4
    · cases h
  | .isi a t, S, X, e, T, h => by
    simp only [okE] at h
    split at h
    · simp only [Bool.and_eq_true, decide_eq_true_eq, Bool.not_eq_true'] at h
      obtain ⟨rfl, h1, rfl, h3, h4, h5, h6⟩ := h
      obtain ⟨g1, g2, g3, g4⟩ := T.bln h1
      obtain ⟨k1, k2, k3, k4⟩ := T.bln h4
      exact s_isi h3 g1 g2 k1 k2 h5 (okE_sound a T h6)
    · cases h
  | .isc a c, S, X, e, T, h => by
    simp only [okE] at h
    split at h
    · simp only [Bool.and_eq_true, decide_eq_true_eq, Bool.not_eq_true'] at h
      obtain ⟨rfl, h1, rfl, h3, h4, h5, h6⟩ := h
      obtain ⟨g1, g2, g3, g4⟩ := T.bln h1
      obtain ⟨k1, k2⟩ := T.gl h3
      obtain ⟨d, hd⟩ := Option.isSome_iff_exists.mp h4
      exact s_isc (q := (_, d)) T.cl (mem_lk hd) g1 g2 k1 k2 (fun r => star_cons h5) (okE_sound a T h6)
    · cases h
  | .eqo a b, S, X, e, T, h => by
    simp only [okE] at h
    split at h
    · simp only [Bool.and_eq_true, Bool.not_eq_true'] at h
      obtain ⟨h1, h2, h3⟩ := h
      exact s_eqo T.cl T.mt (okE_sound a T h2) (okE_sound b T h3) h1
    · cases h
  | .lrg m a b, S, X, e, T, h => by
    simp only [okE] at h
    split at h
    · simp only [Bool.and_eq_true, decide_eq_true_eq, Bool.not_eq_true'] at h
      obtain ⟨rfl, rfl, h1, h2, h3, h4, h5⟩ := h
      obtain ⟨g1, g2, g3, g4⟩ := T.bln h1
      obtain ⟨k1, k2, k3, k4⟩ := T.bln h2
      split at h4
      · exact s_lrg1 T.calm g1 g2 k1 k2 h3 (okE_sound b T h5)
      · cases h4
    · simp only [Bool.and_eq_true, decide_eq_true_eq, Bool.not_eq_true'] at h
      obtain ⟨rfl, rfl, h1, h2, h3, h4, h5, h6⟩ := h
      obtain ⟨g1, g2, g3, g4⟩ := T.bln h1
      obtain ⟨k1, k2, k3, k4⟩ := T.bln h2
      exact s_lrg2 T.calm g1 g2 k1 k2 h3 h4 (okE_sound a T h5) (okE_sound b T h6)
    · cases h
theorem okKV_sound {cs : Calls} {G : Glob} : ∀ (a : SEs) {S : Sco} {X : Cx} {l : List (Option Expr)} {m : List Expr}, Fits ⟨G, cs⟩ S X → okKV G S a l m = true → Spp X l m (evEs ⟨G, cs⟩ a)
  | .nil, S, X, l, m, T, h => by
    simp only [okKV, Bool.and_eq_true] at h
    rw [List.isEmpty_iff.mp h.1, List.isEmpty_iff.mp h.2]
    exact s_pnil
  | .cons a .nil, S, X, l, m, T, h => by
    unfold okKV at h
    split at h
    · rename_i heq
      cases heq
    · cases h
  | .cons a (.cons b r), S, X, l, m, T, h => by
    unfold okKV at h
    split at h
    · rename_i heq
      cases heq
      simp only [Bool.and_eq_true] at h
      obtain ⟨h1, h2, h3⟩ := h
      exact s_pcons (okE_sound a T h1) (okE_sound b T h2) (okKV_sound r T h3)
    · cases h
  | .cons a (.star _ _), S, X, l, m, T, h => by
    unfold okKV at h
    split at h
    · rename_i heq
      cases heq
    · cases h
  | .star _ _, S, X, l, m, T, h => by cases h
theorem okEt_sound {cs : Calls} {G : Glob} : ∀ (a : SEs) {S : Sco} {X : Cx} {l : List Expr}, Fits ⟨G, cs⟩ S X → okEt G S a l = true → Sa X l (evEs ⟨G, cs⟩ a)
  | .nil, S, X, l, T, h => by
    simp only [okEt] at h
    rw [List.isEmpty_iff.mp h]
    exact s_nil
  | .cons a r, S, X, l, T, h => by
    simp only [okEt] at h
    split at h
    · simp only [Bool.and_eq_true, Bool.not_eq_true'] at h
      exact s_cons (okE_sound a T h.2.1) (okEt_sound r T h.2.2) (star_cons h.1)
    · cases h
  | .star a r, S, X, l, T, h => by
    simp only [okEt] at h
    split at h
    · simp only [Bool.and_eq_true] at h
      exact s_star (okE_sound a T h.1) (okEt_sound r T h.2)
    · cases h
theorem okEs_star {G : Glob} {S : Sco} : ∀ (a : SEs) {l : List Expr}, okEs G S a l = true → l.all (fun e => !isStar e) = true
  | .nil, l, h => by
    simp only [okEs] at h
    rw [List.isEmpty_iff.mp h]
    rfl
  | .cons a r, l, h => by
    simp only [okEs] at h
    split at h
    · simp only [Bool.and_eq_true] at h
      rw [List.all_cons, Bool.and_eq_true]
      exact ⟨h.1, okEs_star r h.2.2⟩
    · cases h
  | .star _ _, l, h => by cases h
theorem okEs_sound {cs : Calls} {G : Glob} : ∀ (a : SEs) {S : Sco} {X : Cx} {l : List Expr}, Fits ⟨G, cs⟩ S X → okEs G S a l = true → Sa X l (evEs ⟨G, cs⟩ a)
  | .nil, S, X, l, T, h => by
    simp only [okEs] at h
    rw [List.isEmpty_iff.mp h]
    exact s_nil
  | .cons a r, S, X, l, T, h => by
    simp only [okEs] at h
    split at h
    · simp only [Bool.and_eq_true, Bool.not_eq_true'] at h
      exact s_cons (okE_sound a T h.2.1) (okEs_sound r T h.2.2) (star_cons h.1)
    · cases h
  | .star _ _, S, X, l, T, h => by cases h
theorem okO_sound {cs : Calls} {G : Glob} : ∀ (a : SO) {S : Sco} {X : Cx} {o : Option Expr}, Fits ⟨G, cs⟩ S X → okO G S a o = true → So X o (evO ⟨G, cs⟩ a)
  | .none, S, X, o, T, h => by
    simp only [okO] at h
    rw [Option.isNone_iff_eq_none.mp h]
    exact s_o0
  | .some a, S, X, o, T, h => by
    simp only [okO] at h
    split at h
    · exact s_o1 (okE_sound a T h)
    · cases h
theorem okT_sound {cs : Calls} {G : Glob} : ∀ (a : ST) {S : Sco} {X : Cx} {e : Expr}, Fits ⟨G, cs⟩ S X → okT G S a e = true → Sb X e (evT ⟨G, cs⟩ a) ∧ ((∃ op vs p, e = .BoolOp op vs p) → Sw X e (evT ⟨G, cs⟩ a))
  | .val a, S, X, e, T, h => by
    simp only [okT] at h
    rw [Bool.and_eq_true, Bool.or_eq_true] at h
    obtain ⟨h1, h2⟩ := h
    rcases h2 with h2 | h2
    · refine ⟨s_val (okE_sound a T h1) fun t ht => pt_val ht (test_of h2), fun ⟨op, vs, p, z⟩ => by subst z; cases h2⟩
    · split at h2
      · rename_i o x y
        simp only [okE] at h1
        split at h1
        · simp only [Bool.and_eq_true, Bool.not_eq_true'] at h1
          obtain ⟨k1, k2, k3, k4⟩ := h1
          rw [copB_of k1] at k2 ⊢
          exact ⟨s_tcmp T.units (okE_sound x T k3) (okE_sound y T k4) k2, fun ⟨_, _, _, z⟩ => by cases z⟩
        · cases h1
      · rename_i o p x y z
        simp only [okE] at h1
        split at h1
        · simp only [Bool.and_eq_true, Bool.not_eq_true'] at h1
          obtain ⟨k1, k2, k3, k4, k5, k6, k7, k8⟩ := h1
          rw [copB_of k2] at k5
          rw [copB_of k1, copB_of k2]
          exact ⟨s_tcmp2 T.units (okE_sound x T k6) (okE_sound y T k7) (okE_sound z T k8) k3 k4 k5, fun ⟨_, _, _, z⟩ => by cases z⟩
        · cases h1
      · rename_i x y
        simp only [okE] at h1
        split at h1
        · simp only [Bool.and_eq_true, Bool.not_eq_true'] at h1
          obtain ⟨k1, k2, k3⟩ := h1
          exact ⟨s_teqo T.cl T.mt (okE_sound x T k2) (okE_sound y T k3) k1, fun ⟨_, _, _, z⟩ => by cases z⟩
        · cases h1
      · cases h2
  | .tru a, S, X, e, T, h => by
    simp only [okT] at h
    rw [Bool.and_eq_true] at h
    exact ⟨s_tru (okE_sound a T h.2) (test_of h.1), fun ⟨op, vs, p, z⟩ => by subst z; cases h.1⟩
  | .and a b, S, X, e, T, h => by
    simp only [okT] at h
    split at h
    · rename_i l r rest p
      rw [Bool.and_eq_true] at h
      obtain ⟨h1, h2⟩ := h
      have key : Sw X (.BoolOp .And (l :: r :: rest) p) (evT ⟨G, cs⟩ (.and a b)) := by
        cases rest with
        | nil => exact s_tand (okT_sound a T h1).1 (s_tand1 (okT_sound b T h2).1)
        | cons r2 rest => exact s_tand (okT_sound a T h1).1 ((okT_sound b T h2).2 ⟨_, _, _, rfl⟩)
      exact ⟨fun W tk ρ M => (key W tk ρ M).pt, fun _ => key⟩
    · cases h
  | .or a b, S, X, e, T, h => by
    simp only [okT] at h
    split at h
    · rename_i l r rest p
      rw [Bool.and_eq_true] at h
      obtain ⟨h1, h2⟩ := h
      have key : Sw X (.BoolOp .Or (l :: r :: rest) p) (evT ⟨G, cs⟩ (.or a b)) := by
        cases rest with
        | nil => exact s_tor (okT_sound a T h1).1 (s_tor1 (okT_sound b T h2).1)
        | cons r2 rest => exact s_tor (okT_sound a T h1).1 ((okT_sound b T h2).2 ⟨_, _, _, rfl⟩)
      exact ⟨fun W tk ρ M => (key W tk ρ M).pt, fun _ => key⟩
    · cases h
  | .not a, S, X, e, T, h => by
    simp only [okT] at h
    split at h
    · exact ⟨s_tnot (okT_sound a T h).1, fun ⟨op, vs, p, z⟩ => by cases z⟩
    · cases h
theorem okC_sound {cs : Calls} {G : Glob} : ∀ (a : SC) {S : Sco} {X : Cx} {l : List Expr}, Fits ⟨G, cs⟩ S X → okC G S a l = true → Sc X l (evC ⟨G, cs⟩ a)
  | .yes, S, X, l, T, h => by
    simp only [okC] at h
    rw [List.isEmpty_iff.mp h]
    exact s_yes
  | .one t, S, X, l, T, h => by
    simp only [okC] at h
    split at h
    · exact s_onec (okT_sound t T h).1
    · cases h
theorem okI_sound {cs : Calls} {G : Glob} : ∀ (a : SI) {S : Sco} {X : Cx} {tg e : Expr}, Fits ⟨G, cs⟩ S X → okI G S a tg e = true → Si X tg e (evI ⟨G, cs⟩ a)
  | .seq a, S, X, tg, e, T, h => by
    simp only [okI] at h
    exact s_seq (okE_sound a T h)
  | .rng1 a, S, X, tg, e, T, h => by
    simp only [okI] at h
    split at h
    · simp only [Bool.and_eq_true, decide_eq_true_eq, Bool.not_eq_true'] at h
      obtain ⟨rfl, h1, h2, h3⟩ := h
      obtain ⟨g1, g2, g3, g4⟩ := T.bln h1
      exact s_rng1 g1 g2 (okE_sound a T h3) (star_one h2)
    · cases h
  | .rng2 a b, S, X, tg, e, T, h => by
    simp only [okI] at h
    split at h
    · simp only [Bool.and_eq_true, decide_eq_true_eq, Bool.not_eq_true'] at h
      obtain ⟨rfl, h1, h2, h3, h4, h5⟩ := h
      obtain ⟨g1, g2, g3, g4⟩ := T.bln h1
      exact s_rng2 g1 g2 (okE_sound a T h4) (okE_sound b T h5) (star_two h2 h3) (star_one h3)
    · cases h
  | .enum a, S, X, tg, e, T, h => by
    simp only [okI] at h
    rw [Bool.and_eq_true] at h
    obtain ⟨h0, h⟩ := h
    cases tg with
    | Tuple elts k p =>
      split at h
      · simp only [Bool.and_eq_true, decide_eq_true_eq, Bool.not_eq_true'] at h
        obtain ⟨rfl, h1, h2, h3⟩ := h
        obtain ⟨g1, g2, g3, g4⟩ := T.bln h1
        exact s_enum g1 g2 (okE_sound a T h3) (star_one h2)
      · cases h
    | _ => cases h0
  | .rng3 _ _ _, S, X, tg, e, T, h => by cases h
  | .zip _ _, S, X, tg, e, T, h => by cases h
  | .chars _, S, X, tg, e, T, h => by cases h
end
end MP

/-! Statements: the check, and that it is right. -/
namespace MP
open PySem PySem.Spec PyProof.Rows L2 EV
open He (ga ma)

theorem blockKind_of {env : PySem.Env} (hk : env.scope.kind = .function) : env.blockKind = .function := by unfold Env.blockKind; rw [hk]; rfl
/-- a comprehension that is given to a name -/
def swB (sc : Scope) (y : Str) (py : Pos) (scope : Scope) (pos : Pos) : Bool := decide (sc.names.lookup y = some .local) && (py.line == pos.line) && !(scope.names.any fun (n, k) => n == y && (k == .local || k == .cell))
theorem sw_lc {elt : Expr} {gs : List Comprehension} {scope : Scope} {pos py : Pos} {y : Str} {l : Nat} {env : PySem.Env} (hk : env.scope.kind = .function) : swapsWith (.ListComp elt gs scope pos) (some (.Name y py)) l env = pure (swB env.scope y py scope pos) := by
  unfold swapsWith swB
  simp only [blockKind_of hk]
  have e : (env.kindOf y == some NameKind.local) = decide (env.scope.names.lookup y = some .local) := by
    show (env.scope.names.lookup y == some NameKind.local) = _
    cases q : env.scope.names.lookup y with
    | none => rfl
    | some k => cases k <;> rfl
  rw [e]
  rfl
theorem swapped_none {ts : List Expr} {k : Nat} {pt : Pos} {e : Expr} {env : PySem.Env} (h : isTup e = false) : swappedStores [.Tuple ts k pt] e env = pure none := by
  cases e <;> first | rfl | cases h
theorem swapped_sub {o i : Expr} {p : Pos} {e : Expr} {env : PySem.Env} : swappedStores [.Subscript o i p] e env = pure none := by
  cases e <;> rfl
theorem swapped_fold {ts vs : List Expr} {k k2 : Nat} {pt pt2 : Pos} {env : PySem.Env} (h : vs.all (foldedForSure 8) = true) : swappedStores [.Tuple ts k pt] (.Tuple vs k2 pt2) env = pure none := by
  unfold swappedStores
  simp only [h]
  repeat (first | rfl | split)
theorem swapped2 {x y : Str} {px py pt pt2 : Pos} {a b : Expr} {k k2 : Nat} {env : PySem.Env} (hk : env.scope.kind = .function) (hx : env.scope.names.lookup x = some .local) (hy : env.scope.names.lookup y = some .local) (hl : (px.line == py.line) = true) (hne : x ≠ y)
    (h1 : isStar a = false) (h2 : isStar b = false) (hf : [a, b].all (foldedForSure 8) = false) (hc : [a, b].all (constantsAlone 8) = false) : swappedStores [.Tuple [.Name x px, .Name y py] k pt] (.Tuple [a, b] k2 pt2) env = pure (some [x, y]) := by
  have kx : env.kindOf x = some .local := hx
  have ky : env.kindOf y = some .local := hy
  have hl2 : (py.line == px.line) = true := by rw [beq_iff_eq] at hl ⊢; exact hl.symm
  have es : ∀ e : Expr, (match e with | .Starred .. => true | _ => false) = isStar e := fun e => by cases e <;> rfl
  have hs : ([a, b].any fun | .Starred .. => true | _ => false) = false := by
    simp only [List.any_cons, List.any_nil, es, h1, h2, Bool.or_false]
  have hne2 : (x == y) = false := by simpa using hne
  unfold swappedStores
  simp only [blockKind_of hk, hs, hf, hc]
  simp only [List.filterMap_cons, List.filterMap_nil, kx, ky, List.head?_cons, Option.map_some, Option.getD_some, Expr.pos, beq_self_eq_true, hl2, Bool.and_self, if_true, Bool.true_and]
  have he : [x, y].eraseDups = [x, y] := by
    have : (y == x) = false := by simpa using fun e => hne e.symm
    simp [List.eraseDups_cons, this]
  simp only [he]
  rw [if_neg (by simp)]
  refine Eq.trans (if_neg (fun z => absurd (hs.symm.trans z) (by decide))) ?_
  rw [if_neg (by simp), if_neg (by simp), if_neg (by simp)]
theorem swapped3 {x y z : Str} {px py pz pt pt2 : Pos} {a b c : Expr} {k k2 : Nat} {env : PySem.Env} (hk : env.scope.kind = .function) (hx : env.scope.names.lookup x = some .local) (hy : env.scope.names.lookup y = some .local) (hz : env.scope.names.lookup z = some .local)
    (hl : (px.line == py.line) = true) (hl' : (px.line == pz.line) = true) (hne : x ≠ y) (hne' : x ≠ z) (hne'' : y ≠ z)
    (h1 : isStar a = false) (h2 : isStar b = false) (h3 : isStar c = false) (hf : [a, b, c].all (foldedForSure 8) = false) (hc : [a, b, c].all (constantsAlone 8) = false) : swappedStores [.Tuple [.Name x px, .Name y py, .Name z pz] k pt] (.Tuple [a, b, c] k2 pt2) env = pure (some [x, y, z]) := by
  have kx : env.kindOf x = some .local := hx
  have ky : env.kindOf y = some .local := hy
  have kz : env.kindOf z = some .local := hz
  have hl2 : (py.line == px.line) = true := by rw [beq_iff_eq] at hl ⊢; exact hl.symm
  have hl3 : (pz.line == px.line) = true := by rw [beq_iff_eq] at hl' ⊢; exact hl'.symm
  have es : ∀ e : Expr, (match e with | .Starred .. => true | _ => false) = isStar e := fun e => by cases e <;> rfl
  have hs : ([a, b, c].any fun | .Starred .. => true | _ => false) = false := by
    simp only [List.any_cons, List.any_nil, es, h1, h2, h3, Bool.or_false]
  unfold swappedStores
  simp only [blockKind_of hk, hs, hf, hc]
  simp only [List.filterMap_cons, List.filterMap_nil, kx, ky, kz, List.head?_cons, Option.map_some, Option.getD_some, Expr.pos, beq_self_eq_true, hl2, hl3, Bool.and_self, if_true, Bool.true_and]
  have he : [x, y, z].eraseDups = [x, y, z] := by
    have q1 : (y == x) = false := by simpa using fun e => hne e.symm
    have q2 : (z == x) = false := by simpa using fun e => hne' e.symm
    have q3 : (z == y) = false := by simpa using fun e => hne'' e.symm
    simp [List.eraseDups_cons, q1, q2, q3]
  simp only [he]
  rw [if_neg (by simp)]
  refine Eq.trans (if_neg (fun z => absurd (hs.symm.trans z) (by decide))) ?_
  rw [if_neg (by simp), if_neg (by simp), if_neg (by simp)]
theorem asg_sub {o i : Expr} {p : Pos} {env : PySem.Env} (h : isSlice i = false) : ∀ v, assign (.Subscript o i p) env v = (do
      let ov ← holding [v] (eval o env)
      let iv ← holding [v, ov] (eval i env)
      standAt p
      holding [v, ov, iv] (setItem ov iv v)
      release [v, ov, iv] []) := by
  cases i <;> first | (intro _; rfl) | cases h

/-! ### the check -/
/-- a part of an except suite -/
def okP (G : Glob) (S : Sco) (c : Str) (x : Option Str) (p : HP) (e : Expr) : Bool := match p with
  | .int i => (match e with
    | .Constant (.int j) _ _ => decide (i = j)
    | _ => false)
  | .str i => (match e with
    | .Constant (.str j) _ _ => decide (i = j)
    | _ => false)
  | .bl i => (match e with
    | .Constant (.bool j) _ _ => decide (i = j)
    | _ => false)
  | .non => (match e with
    | .Constant .none _ _ => true
    | _ => false)
  | .fld f => (match x, e with
    | some n, .Attribute (.Name y _) g _ => decide (y = n) && (decide (g = f) && (visB S n && decide (G.excs.lookup c = some f)))
    | _, _ => false)
  | .isi k => (match x, e with
    | some n, .Call (.Name g _) [.Name y _, .Name z _] [] _ => decide (g = "isinstance") && (blnB G S "isinstance" && (decide (y = n) && (decide (z = k) && (visB S n && ((G.excs.lookup c).isSome && ((G.sub c k).isSome && (if k = "ValueError" then blnB G S k else glB S k && (decide (k = G.root) || (G.excs.lookup k).isSome))))))))
    | _, _ => false)
def okPs (G : Glob) (S : Sco) (c : Str) (x : Option Str) : List HP → List Expr → Bool
  | [], [] => true
  | p :: ps, e :: es => !isStar e && (okP G S c x p e && okPs G S c x ps es)
  | _, _ => false
def okTup (G : Glob) (S : Sco) (c : Str) (x : Option Str) (ps : List HP) (e : Expr) : Bool := match e with
  | .Tuple es _ _ => okPs G S c x ps es
  | _ => false
def okHd (G : Glob) (S : Sco) (c : Str) (n : Option Nat) (b : HB) (hd : ExceptHandler) : Bool := match hd with
  | .ExceptHandler (some (.Name y _)) nm [.Return (some E) _] _ => decide (y = c) && (glB S c && ((decide (c = G.root) || (G.excs.lookup c).isSome) && ((match n, nm with
    | none, none => true
    | some i, some x => decide (S.N[i]? = some x) && decide (S.sc.names.lookup x = some .local)
    | _, _ => false) && (match b with
    | .ret p => okP G S c (n.bind fun i => S.N[i]?) p E
    | .rtup ps => okTup G S c (n.bind fun i => S.N[i]?) ps E))))
  | _ => false
def okHds (G : Glob) (S : Sco) : List (Str × Option Nat × HB) → List ExceptHandler → Bool
  | [], [] => true
  | (c, n, b) :: hs, hd :: hds => okHd G S c n b hd && okHds G S hs hds
  | _, _ => false
mutual
def okS (G : Glob) (S : Sco) : SS → Stmt → Bool
  | .set i v, st => (match st with
    | .Assign [.Name x p] e pos => locB S i x && (okE G S v e && (match e with
      | .ListComp elt gs scope q => (if swB S.sc x p scope q then (match v with
        | .lc _ _ _ _ _ _ => true
        | _ => false) else true)
      | e => !isComp e))
    | _ => false)
  | .par is vs, st => (match st, is with
    | .Assign [.Tuple [.Name x p1, .Name y p2] _ _] (.Tuple [a, b] _ _) _, [i, j] => decide (S.N[i]? = some x) && (decide (S.N[j]? = some y) && (decide (S.sc.names.lookup x = some .local) && (decide (S.sc.names.lookup y = some .local) && ((p1.line == p2.line) && (decide (i ≠ j) && (!isStar a && (!isStar b &&
        (!([a, b].all (foldedForSure 8)) && (!([a, b].all (constantsAlone 8)) && okEs G S vs [a, b])))))))))
    | .Assign [.Tuple [.Name x p1, .Name y p2, .Name z p3] _ _] (.Tuple [a, b, c] _ _) _, [i, j, l] => decide (S.N[i]? = some x) && (decide (S.N[j]? = some y) && (decide (S.N[l]? = some z) && (decide (S.sc.names.lookup x = some .local) && (decide (S.sc.names.lookup y = some .local) && (decide (S.sc.names.lookup z = some .local) &&
        ((p1.line == p2.line) && ((p1.line == p3.line) && (decide (i ≠ j) && (decide (i ≠ l) && (decide (j ≠ l) && (!isStar a && (!isStar b && (!isStar c &&
        (!([a, b, c].all (foldedForSure 8)) && (!([a, b, c].all (constantsAlone 8)) && okEs G S vs [a, b, c])))))))))))))))
    | _, _ => false)
  | .unp is v, st => (match st with
    | .Assign [.Tuple ts _ _] e _ => namesB S is ts && (okE G S v e && (!isTup e || (match e with
      | .Tuple vs _ _ => vs.all (foldedForSure 8)
      | _ => false)))
    | _ => false)
  | .sub o i v, st => (match st with
    | .Assign [.Subscript x y _] e _ => !isSlice y && (okE G S v e && (okE G S o x && okE G S i y))
    | _ => false)
  | .sub2 o i p j v, st => (match st with
    | .Assign [.Tuple [.Subscript x y _, .Subscript z w _] _ _] e _ => !isSlice y && (!isSlice w && (okE G S v e && (okE G S o x && (okE G S i y && (okE G S p z && okE G S j w)))))
    | _ => false)
  | .fset o f v, st => (match st with
    | .Assign [.Attribute x n _] e _ => decide (n = f) && (!isComp e && (okE G S v e && okE G S o x))
    | _ => false)
  | .aug i o v, st => (match st with
    | .AugAssign (.Name x _) p e _ => locB S i x && (opB o p && ((match o with
      | .add | .sub => true
      | _ => false) && okE G S v e))
    | _ => false)
  | .ex v, st => (match st with
    | .Expr e _ => !isComp e && okE G S v e
    | _ => false)
  | .ret v, st => (match st with
    | .Return (some e) _ => okE G S v e
    | _ => false)
  | .ret0, st => (match st with
    | .Return none _ => true
    | _ => false)
  | .ife c a b, st => (match st with
    | .If t x y _ => okT G S c t && (okSs G S a x && okSs G S b y)
    | _ => false)
  | .for_ g it b, st => (match st with
    | .For tg iter body [] _ => okG S g tg && (!isSet iter && (okI G S it tg iter && okSs G S b body))
    | _ => false)
  | .whl c b, st => (match st with
    | .While t body [] _ => okT G S c t && okSs G S b body
    | _ => false)
  | .brk, st => (match st with
    | .Break _ => true
    | _ => false)
  | .cnt, st => (match st with
    | .Continue _ => true
    | _ => false)
  | .pas, st => (match st with
    | .Pass _ => true
    | _ => false)
  | .rai c vs, st => (match st with
    | .Raise (some (.Call (.Name x _) (e :: es) [] _)) none _ => decide (x = c) && (glB S c && ((G.excs.lookup c).isSome && okEs G S vs (e :: es)))
    | _ => false)
  | .try_ b hs, st => (match st with
    | .Try body (h0 :: hds) [] [] _ => S.top && (okSs G S b body && okHds G S hs (h0 :: hds))
    | _ => false)
def okSs (G : Glob) (S : Sco) : SSs → List Stmt → Bool
  | .nil, l => l.isEmpty
  | .cons s r, l => (match l with
    | st :: l => okS G S s st && okSs G S r l
    | [] => false)
  | .gc _ b, l => okSs G S b l
end
/-! ### and it is right -/
section
variable {cs : Calls} {G : Glob} {S : Sco} {X : Cx}
theorem okP_sound {Γ : MP.Env} {c : Str} {i : Nat} {n : Option Nat} {p : HP} {e : Expr} (T : Fits Γ S X) (hi : ∀ j, n = some j → j = i) (h : okP Γ.g S c (n.bind fun i => S.N[i]?) p e = true) : HpOk X i (ga X.K c) (fun x => (Γ.sub c x).getD false) e p := by
  cases p with
  | int j =>
    simp only [okP] at h
    split at h
    · rw [decide_eq_true_eq] at h; subst h; exact hp_int
    · cases h
  | str j =>
    simp only [okP] at h
    split at h
    · rw [decide_eq_true_eq] at h; subst h; exact hp_str
    · cases h
  | bl j =>
    simp only [okP] at h
    split at h
    · rw [decide_eq_true_eq] at h; subst h; exact hp_bl
    · cases h
  | non =>
    simp only [okP] at h
    split at h
    · exact hp_non
    · cases h
  | fld f =>
    simp only [okP] at h
    split at h
    · rename_i x m y p1 g p2 hn
      simp only [Bool.and_eq_true, decide_eq_true_eq] at h
      obtain ⟨rfl, rfl, h1, h2⟩ := h
      obtain ⟨v1, v2, v3⟩ := T.vis h1
      obtain ⟨k1, k2⟩ := T.xcl c _ h2
      cases n with
      | none => cases hn
      | some j =>
        cases hi j rfl
        exact hp_fld k1.xf k2 (by rw [T.N]; exact hn) v1 v2 v3
    · cases h
  | isi k =>
    simp only [okP] at h
    split at h
    · rename_i x m g p1 y p2 z p3 p4 hn
      simp only [Bool.and_eq_true, decide_eq_true_eq] at h
      obtain ⟨rfl, h0, rfl, rfl, h1, h2, h3, h4⟩ := h
      obtain ⟨g1, g2, g3, g4⟩ := T.bln h0
      obtain ⟨v1, v2, v3⟩ := T.vis h1
      obtain ⟨f, h2⟩ := Option.isSome_iff_exists.mp h2
      obtain ⟨k1, k2⟩ := T.xcl c _ h2
      obtain ⟨b, hb⟩ := Option.isSome_iff_exists.mp h3
      have hb' : Γ.sub c z = some b := hb
      cases n with
      | none => cases hn
      | some j =>
        cases hi j rfl
        by_cases hz : z = "ValueError"
        · rw [if_pos hz] at h4
          subst hz
          obtain ⟨l1, l2, l3, l4⟩ := T.bln h4
          refine hp_isi (cv := .type "ValueError") k1 (by rw [T.N]; exact hn) v1 v2 v3 g1 g2 ⟨l1, l3, .inr ⟨l2, by decide +kernel, l4⟩⟩ ?_ (.inr ⟨_, rfl⟩)
          rw [T.kitV c b hb', hb']
          rfl
        · rw [if_neg hz, Bool.and_eq_true, Bool.or_eq_true, decide_eq_true_eq] at h4
          obtain ⟨l1, l2⟩ := T.gl h4.1
          refine hp_isi (cv := .ref (ga X.K z)) k1 (by rw [T.N]; exact hn) v1 v2 v3 g1 g2 ⟨l1, l2, .inl (T.own z h4.2)⟩ ?_ (.inl ⟨_, rfl⟩)
          rw [T.kit c z b hb' hz, hb']
          rfl
    · cases h
theorem okPs_sound {Γ : MP.Env} {c : Str} {i : Nat} {n : Option Nat} (T : Fits Γ S X) (hi : ∀ j, n = some j → j = i) : ∀ {ps : List HP} {es : List Expr}, okPs Γ.g S c (n.bind fun i => S.N[i]?) ps es = true → HpsOk X i (ga X.K c) (fun x => (Γ.sub c x).getD false) es ps
  | [], [], _ => True.intro
  | p :: ps, e :: es, h => by
    simp only [okPs, Bool.and_eq_true, Bool.not_eq_true'] at h
    exact ⟨okP_sound T hi h.2.1, fun env => star_cons h.1, okPs_sound T hi h.2.2⟩
  | [], _ :: _, h => by cases h
  | _ :: _, [], h => by cases h
theorem okHds_sound {Γ : MP.Env} (T : Fits Γ S X) : ∀ {hs : List (Str × Option Nat × HB)} {hds : List ExceptHandler}, okHds Γ.g S hs hds = true → ClsOk X Γ hds hs
  | [], [], _ => True.intro
  | (c, n, b) :: hs, hd :: hds, h => by
    simp only [okHds, Bool.and_eq_true] at h
    refine ⟨⟨?_⟩, okHds_sound T h.2⟩
    have h := h.1
    unfold okHd at h
    split at h
    · rename_i y np nm E rp pos' hh
      simp only [Bool.and_eq_true, decide_eq_true_eq, Bool.or_eq_true] at h
      obtain ⟨rfl, h1, h2, h3, h4⟩ := h
      obtain ⟨g1, g2⟩ := T.gl h1
      refine ⟨nm, np, rp, pos', E, rfl, ⟨g1, g2, .inl (T.own _ h2)⟩, ?_, ?_⟩
      · cases n with
        | none => cases nm with
          | none => exact True.intro
          | some _ => cases h3
        | some i => cases nm with
          | none => cases h3
          | some x =>
            simp only [Bool.and_eq_true, decide_eq_true_eq] at h3
            exact ⟨by rw [T.N]; exact h3.1, by show X.env.scope.names.lookup x = _; rw [T.sc]; exact h3.2⟩
      · have hi : ∀ j, n = some j → j = n.getD 0 := fun j e => by subst e; rfl
        cases b with
        | ret p => exact okP_sound T hi h4
        | rtup ps =>
          replace h4 : okTup Γ.g S y (n.bind fun i => S.N[i]?) ps E = true := h4
          unfold okTup at h4
          split at h4
          · exact ⟨_, _, _, rfl, okPs_sound T hi h4⟩
          · cases h4
    · cases h
  | [], _ :: _, h => by cases h
  | _ :: _, [], h => by cases h
/-- within a try's body -/
theorem Fits.tr {Γ : MP.Env} (T : Fits Γ S X) (pn : List (Addr × Obj)) (xe : Value → Shared → Prop) : Fits Γ S (X.tr pn xe) where
  N := T.N
  sc := T.sc
  nd := T.nd
  calm := T.calm
  fn := T.fn
  units := T.units
  free := T.free
  cst := T.cst
  call := T.call
  rai := fun c f h => ⟨(T.rai c f h).oex, (T.rai c f h).glo, (T.rai c f h).init⟩
  top := T.top
  exm := T.exm
  xcl := T.xcl
  own := T.own
  kit := T.kit
  kitV := T.kitV
  cl := T.cl
  mt := T.mt
end

section
variable {X : Cx} {a : Expr} {ea : Rho → Mem → Rs D}
theorem aug_ok {o : BO} (ho : (match o with
      | .add | .sub => true
      | _ => false) = true) : ∃ ti, PIp X o.py ti ∧ ∀ x y M H Q F π E, Rep X.K F π M H → Post X.K F π H E (kD X.K Q) (binD false o (.int x) (.int y) M) → ti (.int x) (.int y) H Q := by
  cases o with
  | add => exact ⟨_, ip_add, fun x y M H Q F π E R p => ⟨x, y, rfl, rfl, Post.now p R _ (.int _)⟩⟩
  | sub => exact ⟨_, ip_sub, fun x y M H Q F π E R p => ⟨x, y, rfl, rfl, Post.now p R _ (.int _)⟩⟩
  | _ => cases ho
end
mutual
theorem okS_sound {cs : Calls} {G : Glob} : ∀ (a : SS) {S : Sco} {X : Cx} {st : Stmt}, Fits ⟨G, cs⟩ S X → S.sc.kind = .function → PassesOwn (model X.prog X.w) X.A X.env X.xe → okS G S a st = true → Ss X st (evS ⟨G, cs⟩ a)
  | .set i v, S, X, st, T, hk, po, h => by
    simp only [okS] at h
    split at h
    · simp only [Bool.and_eq_true] at h
      obtain ⟨h1, h2, h3⟩ := h
      obtain ⟨l1, l2, l3⟩ := T.loc h1
      have hk' : X.env.scope.kind = .function := by rw [T.sc]; exact hk
      rename_i x p e pos
      split at h3
      · rename_i elt gs scope q
        by_cases hw : swB S.sc x p scope q = true
        · rw [if_pos hw] at h3
          split at h3
          · rename_i m own g it c el
            simp only [okE] at h2
            split at h2
            · simp only [Bool.and_eq_true, decide_eq_true_eq, Bool.not_eq_true', List.all_eq_true] at h2
              obtain ⟨k1, k2, k3, k4, k5, k6, k7, k8⟩ := h2
              rename_i el' tg iter ifs sc' pos2 heq
              cases heq
              have hloc : X.env.scope.names.lookup x = some .local := by
                rw [T.sc]
                unfold swB at hw
                simp only [Bool.and_eq_true, decide_eq_true_eq] at hw
                exact hw.1.1
              refine s_set (te := id) fun W tk ρ M => ⟨_, ps_setLc (own := ownB S own) (g := tgOf X.K g) (tt := TBu X.K (evC ⟨G, cs⟩ c) W0) (te := TDu X.K (evE ⟨G, cs⟩ el) W0) T.calm T.nd l1 hloc (by rw [sw_lc hk', T.sc, hw]) (okI_sound it T k6 W tk ρ M) (by rw [T.N, T.sc]; exact blkOk_by k1)
                (fun s H C cl fp => (T.blk (scope := scope) s H C cl fp fun _ h => h).pg k5) (fun s H C cl fp => okC_sound c (T.blk (scope := scope) s H C cl fp fun _ h => h) k7 W0 takes0) (fun s H C cl fp => (okE_sound el (T.blk (scope := scope) s H C cl fp fun _ h => h) k8).u (W := W0) takes0) (fold_of k4), fun σ H Q hq => ?_⟩
              rw [k2]
              exact lc_read (m := m) (own := own) (fun i hi => k3 i hi) hq
            · cases h2
          · cases h3
        · have hw : swB S.sc x p scope q = false := by simpa using hw
          refine s_set (te := id) fun W tk ρ M => ⟨_, ps_set T.nd l1 l2 (okE_sound v T h2 W tk ρ M) (by rw [sw_lc hk', T.sc, hw]) l3, fun σ H Q hq => hq⟩
      · exact s_set (te := id) fun W tk ρ M => ⟨_, ps_set T.nd l1 l2 (okE_sound v T h2 W tk ρ M) (swaps_of (by simpa using h3)) l3, fun σ H Q hq => hq⟩
    · cases h
  | .par is vs, S, X, st, T, hk, po, h => by
    simp only [okS] at h
    split at h
    · simp only [Bool.and_eq_true, decide_eq_true_eq, Bool.not_eq_true'] at h
      obtain ⟨h1, h2, h3, h4, h5, h6, h7, h8, h9, h10, h11⟩ := h
      have hk' : X.env.scope.kind = .function := by rw [T.sc]; exact hk
      rename_i x p1 y p2 kt pt a b k2 pt2 pos i j
      have hx : X.N[i]? = some x := by rw [T.N]; exact h1
      have hy : X.N[j]? = some y := by rw [T.N]; exact h2
      have hne : x ≠ y := fun e => h6 (nd_ix T.nd hx (e ▸ hy))
      have hx2 : X.env.scope.names.lookup x = some .local := by rw [T.sc]; exact h3
      have hy2 : X.env.scope.names.lookup y = some .local := by rw [T.sc]; exact h4
      exact s_par (okEs_sound vs T h11) fun t ht => ps_par T.calm T.nd hx hy h6 hx2 hy2 ht (swapped2 hk' hx2 hy2 h5 hne h7 h8 h9 h10) rfl
    · simp only [Bool.and_eq_true, decide_eq_true_eq, Bool.not_eq_true'] at h
      obtain ⟨h1, h2, h2z, h3, h4, h4z, h5, h5z, h6, h6z, h6y, h7, h8, h8z, h9, h10, h11⟩ := h
      have hk' : X.env.scope.kind = .function := by rw [T.sc]; exact hk
      rename_i x p1 y p2 z p3 kt pt a b c k2 pt2 pos i j l
      have hx : X.N[i]? = some x := by rw [T.N]; exact h1
      have hy : X.N[j]? = some y := by rw [T.N]; exact h2
      have hz : X.N[l]? = some z := by rw [T.N]; exact h2z
      have hne : x ≠ y := fun e => h6 (nd_ix T.nd hx (e ▸ hy))
      have hne' : x ≠ z := fun e => h6z (nd_ix T.nd hx (e ▸ hz))
      have hne'' : y ≠ z := fun e => h6y (nd_ix T.nd hy (e ▸ hz))
      have hx2 : X.env.scope.names.lookup x = some .local := by rw [T.sc]; exact h3
      have hy2 : X.env.scope.names.lookup y = some .local := by rw [T.sc]; exact h4
      have hz2 : X.env.scope.names.lookup z = some .local := by rw [T.sc]; exact h4z
      exact s_par3 (okEs_sound vs T h11) fun t ht => ps_par3 T.calm T.nd hx hy hz h6 h6z h6y hx2 hy2 hz2 ht (swapped3 hk' hx2 hy2 hz2 h5 h5z hne hne' hne'' h7 h8 h8z h9 h10) rfl
    · cases h
  | .unp is v, S, X, st, T, hk, po, h => by
    simp only [okS] at h
    split at h
    · rename_i ts kt pt e pos
      simp only [Bool.and_eq_true, Bool.or_eq_true, Bool.not_eq_true'] at h
      obtain ⟨h1, h2, h3⟩ := h
      have hw : swappedStores [.Tuple ts kt pt] e X.env = pure none := by
        rcases h3 with h3 | h3
        · exact swapped_none h3
        · split at h3
          · exact swapped_fold h3
          · cases h3
      exact s_unp (okE_sound v T h2) fun t ht => ps_asg ht (T.pg (g := .tp is) (e := .Tuple ts kt pt) h1) (show swapsWithSole [.Tuple ts kt pt] e pos.line X.env = pure false from swaps_tup (e := e) (ts := ts) (k := kt) (p := pt) (l := pos.line) (env := X.env)) hw rfl
    · cases h
  | .sub o i v, S, X, st, T, hk, po, h => by
    simp only [okS] at h
    split at h
    · simp only [Bool.and_eq_true, Bool.not_eq_true'] at h
      obtain ⟨h1, h2, h3, h4⟩ := h
      exact s_sub T.units (okE_sound v T h2) (okE_sound o T h3) (okE_sound i T h4) swaps_sub swapped_sub (asg_sub h1)
    · cases h
  | .sub2 o i p j v, S, X, st, T, hk, po, h => by
    simp only [okS] at h
    split at h
    · simp only [Bool.and_eq_true, Bool.not_eq_true'] at h
      obtain ⟨h1, h2, h3, h4, h5, h6, h7⟩ := h
      exact s_sub2 T.calm (okE_sound v T h3) (okE_sound o T h4) (okE_sound i T h5) (okE_sound p T h6) (okE_sound j T h7) swaps_tup (asg_sub h1) (asg_sub h2)
    · cases h
  | .fset o f v, S, X, st, T, hk, po, h => by
    simp only [okS] at h
    split at h
    · simp only [Bool.and_eq_true, decide_eq_true_eq, Bool.not_eq_true'] at h
      obtain ⟨rfl, h1, h2, h3⟩ := h
      exact s_fset T.cl (okE_sound v T h2) (okE_sound o T h3) (swaps_of h1)
    · cases h
  | .aug i o v, S, X, st, T, hk, po, h => by
    simp only [okS] at h
    split at h
    · simp only [Bool.and_eq_true] at h
      obtain ⟨h1, h2, h3, h4⟩ := h
      obtain ⟨l1, l2, l3⟩ := T.loc h1
      rw [opB_of h2]
      refine s_aug fun W tk ρ M => ?_
      obtain ⟨ti, q1, q2⟩ := aug_ok (X := X) h3
      exact ⟨ti, ps_aug T.nd l1 l2 (okE_sound v T h4 W tk ρ M) q1 l3, q2⟩
    · cases h
  | .ex v, S, X, st, T, hk, po, h => by
    simp only [okS] at h
    split at h
    · simp only [Bool.and_eq_true, Bool.not_eq_true'] at h
      exact s_ex (okE_sound v T h.2) (swaps_of h.1)
    · cases h
  | .ret v, S, X, st, T, hk, po, h => by
    simp only [okS] at h
    split at h
    · exact s_ret (okE_sound v T h)
    · cases h
  | .ret0, S, X, st, T, hk, po, h => by
    simp only [okS] at h
    split at h
    · exact s_ret0
    · cases h
  | .ife c a b, S, X, st, T, hk, po, h => by
    simp only [okS] at h
    split at h
    · simp only [Bool.and_eq_true] at h
      exact s_if (okT_sound c T h.1).1 (okSs_sound a T hk po h.2.1) (okSs_sound b T hk po h.2.2)
    · cases h
  | .for_ g it b, S, X, st, T, hk, po, h => by
    simp only [okS] at h
    split at h
    · simp only [Bool.and_eq_true, Bool.not_eq_true'] at h
      obtain ⟨h1, h2, h3, h4⟩ := h
      have hs := fold_of (env := X.env) h2
      exact s_for po T.calm (okI_sound it T h3) (T.pg h1) (okSs_sound b T hk po h4) fun wi tb hi hb => ps_for po T.calm hi (T.pg h1) hb hs
    · cases h
  | .whl c b, S, X, st, T, hk, po, h => by
    simp only [okS] at h
    split at h
    · simp only [Bool.and_eq_true] at h
      exact s_while po (okT_sound c T h.1).1 (okSs_sound b T hk po h.2)
    · cases h
  | .brk, S, X, st, T, hk, po, h => by
    simp only [okS] at h
    split at h
    · exact s_brk
    · cases h
  | .cnt, S, X, st, T, hk, po, h => by
    simp only [okS] at h
    split at h
    · exact s_cnt
    · cases h
  | .pas, S, X, st, T, hk, po, h => by
    simp only [okS] at h
    split at h
    · exact s_pas
    · cases h
  | .rai c vs, S, X, st, T, hk, po, h => by
    simp only [okS] at h
    split at h
    · simp only [Bool.and_eq_true, decide_eq_true_eq] at h
      obtain ⟨rfl, h1, h2, h3⟩ := h
      obtain ⟨g1, g2⟩ := T.gl h1
      obtain ⟨f, hf⟩ := Option.isSome_iff_exists.mp h2
      have hs := okEs_star vs h3
      rw [List.all_cons, Bool.and_eq_true] at hs
      exact s_rai T.calm (T.rai _ f hf) g1 (okEs_sound vs T h3) g2 (star_cons (by simpa using hs.1)) (star_any hs.2) (.inl (by show (G.excs.lookup _).map _ = _; rw [hf]; rfl))
    · cases h
  | .try_ b hs, S, X, st, T, hk, po, h => by
    simp only [okS] at h
    split at h
    · simp only [Bool.and_eq_true] at h
      obtain ⟨h1, h2, h3⟩ := h
      obtain ⟨t1, t2⟩ := T.top h1
      exact s_try (Γ := ⟨G, cs⟩) t1 t2 T.nd T.exm (fun pn xe po' => okSs_sound b (T.tr pn xe) hk po' h2) (okHds_sound T h3)
    · cases h
theorem okSs_sound {cs : Calls} {G : Glob} : ∀ (a : SSs) {S : Sco} {X : Cx} {st : List Stmt}, Fits ⟨G, cs⟩ S X → S.sc.kind = .function → PassesOwn (model X.prog X.w) X.A X.env X.xe → okSs G S a st = true → Sss X st (evSs ⟨G, cs⟩ a)
  | .nil, S, X, st, T, hk, po, h => by
    simp only [okSs] at h
    rw [List.isEmpty_iff.mp h]
    exact ss_nil
  | .cons a r, S, X, st, T, hk, po, h => by
    simp only [okSs] at h
    split at h
    · rw [Bool.and_eq_true] at h
      exact ss_cons (okS_sound a T hk po h.1) (okSs_sound r T hk po h.2)
    · cases h
  | .gc dead b, S, X, st, T, hk, po, h => by
    simp only [okSs] at h
    exact ss_gc (okSs_sound b T hk po h)
end
end MP

/-! Defs: what a call is worth. -/
namespace MP
open PySem PySem.Spec PyProof.Rows L2 EV
open He (ga ma)

/-- a body's end from the call's -/
theorem fin_post {K : PySem.W.Frag} {F H : Hp} {π : List Addr} {M : Mem} {Q : VK} {E : XK} {keep : Bool} (R : Rep K F π M H) : ∀ {r : RS}, Post K F π H E (kD K Q) (finE keep M.length r) → PostS K F π H (fun cls d _ H => E cls d H) { nx := fun _ H' => Q .non H', rt := Q } r
  | .rt d M1, p => fun F1 π1 H1 v x R1 rv => by
    cases keep with
    | true => exact (show Post K F π H E (kD K Q) (.ok d M1) from p) F1 π1 H1 x R1 v rv
    | false =>
      have p : Post K F π H E (kD K Q) (match frzD (frzR M1 M.length 64) d, cutM M.length M1 with
        | some d', some M' => .ok d' M'
        | _, _ => .bad) := p
      split at p
      · rename_i d' M' h1 h2
        obtain ⟨t, rfl, _⟩ := x.pre
        rw [← R.len] at h1 h2
        obtain ⟨R2, x2, hF, hfr⟩ := R1.froz x h2
        exact p _ _ _ x2 R2 v (rv.frz hF (fun i d a e h => hfr 64 i d a e h) h1)
      · exact p.elim
  | .nx r M1, p => fun F1 π1 H1 σ x R1 en => by
    cases keep with
    | true => exact (show Post K F π H E (kD K Q) (.ok .non M1) from p) F1 π1 H1 x R1 _ .non
    | false =>
      have p : Post K F π H E (kD K Q) (match cutM M.length M1 with
        | some M' => .ok .non M'
        | none => .bad) := p
      split at p
      · rename_i M' h2
        obtain ⟨t, rfl, _⟩ := x.pre
        rw [← R.len] at h2
        obtain ⟨R2, x2, hF, hfr⟩ := R1.froz x h2
        exact p _ _ _ x2 R2 _ .non
      · exact p.elim
  | .exc c ns ds r M1, p => fun F1 π1 H1 dd σ x R1 en xr => by
    have p : Post K F π H E (kD K Q) (match frzDs (frzR M1 M.length 64) ds, cutM M.length M1 with
      | some d', some M' => .exc c ns d' M'
      | _, _ => .bad) := p
    split at p
    · rename_i d' M' h1 h2
      obtain ⟨t, rfl, _⟩ := x.pre
      rw [← R.len] at h1 h2
      obtain ⟨R2, x2, hF, hfr⟩ := R1.froz x h2
      refine p _ _ _ dd x2 R2 ?_
      cases xr with
      | none => cases h1; exact .none
      | some h3 h4 h5 => exact .some (hF _ _ h3) h4 (h5.frz hF (fun i d a e h => hfr 64 i d a e h) h1)
    · exact p.elim
  | .bk _ _, p => p.elim
  | .ct _ _, p => p.elim
  | .bad, p => p.elim
theorem env_start {K : PySem.W.Frag} {F : Hp} {π : List Addr} {N : List Str} {ds : List D} {vs : List V} (r : RelDs K F π ds vs) : EnvR K F π (startD N ds) (L2.start N vs) := by
  have hl := r.length
  refine ⟨by unfold startD L2.start; simp [hl], fun i d h => ?_⟩
  unfold startD at h
  unfold L2.start
  by_cases hi : i < ds.length
  · rw [List.getElem?_append_left (by simpa using hi), List.getElem?_map] at h
    obtain ⟨x, h1, h2⟩ := Option.map_eq_some_iff.mp h
    cases h2
    obtain ⟨v, h3, h4⟩ := r.get h1
    exact ⟨v, by rw [List.getElem?_append_left (by simpa using (hl ▸ hi)), List.getElem?_map, h3]; rfl, h4⟩
  · rw [List.getElem?_append_right (by simpa using hi)] at h
    rw [List.getElem?_replicate] at h
    split at h <;> cases h
/-! ### the program's top -/
/-- what the top says of the program: apart from its defs -/
structure TopG (P : Program) (w : World) (K : PySem.W.Frag) (mg : Str → Option Value) (G : Glob) : Prop where
  free : ∀ x ∈ G.free, mg x = none
  cst : ∀ x d, G.csts.lookup x = some d → ∃ u v, mg x = some u ∧ RelV v u ∧ ∀ F π, RelD K F π d v
  oex : ∀ c f, G.excs.lookup c = some f → OexC K (ga K c)
  own : ∀ c, (c = G.root ∨ (G.excs.lookup c).isSome = true) → mg c = some (.ref (ga K c))
  init : ∀ c f, G.excs.lookup c = some f → ∀ base : Heap, ∃ (fI : Addr) (fd : FuncData) (ps : List Str), PySem.W.findIn K (.ref (ga K c)) "__init__" = some (some (.ref fI)) ∧ PySem.W.typeIn K (.ref fI) = some (.type "function") ∧
    FnOk P w K mg base (L2.CX P w) 1 fI fd ps (spI K (ga K c) f) ∧ Binds K fd ps []
  exm : ∀ (c c' : Str) (b : Bool), c' ≠ "ValueError" → G.sub c c' = some b → PySem.W.exmOne K (.ref (ga K c)) (.ref (ga K c')) = some b
  xcl : ∀ c f, G.excs.lookup c = some f → XcOk K (ga K c) ∧ PySem.W.findIn K (.ref (ga K c)) f = some none
  kit : ∀ c x b, G.sub c x = some b → x ≠ "ValueError" → PySem.W.kitOne K (.ref (ga K c)) (.ref (ga K x)) = some b
  kitV : ∀ c b, G.sub c "ValueError" = some b → PySem.W.kitOne K (.ref (ga K c)) (.type "ValueError") = some b
  cl : ∀ p ∈ G.clss, ClF K mg G p.1 p.2
/-- how parameters are bound -/
abbrev BindsM (name qual : Str) (st : Stmt) (ps : List Str) : Prop := ∀ (kV doc pm : Value) (an : Option Addr) (cdv ct : Value) (us : List Value), us.length = ps.length →
  bindArgs (PySem.W.fnOf name qual (defArgs st) (defBody st) (defScope st) .none kV doc pm an cdv ct) ⟨us, []⟩ = pure (ps.zip us)
/-- a def as it stands, and as the evaluator has it -/
structure DefAt (K : PySem.W.Frag) (G : Glob) (name qual : Str) (ad : Addr) (fd : FnD) : Prop where
  ex : ∃ st fdd, FunD K name qual (defArgs st) (defBody st) (defScope st) [] [] ad fdd ∧ FnScope fd.N fd.ps (defScope st) ∧ BindsM name qual st fd.ps ∧ okSs G ⟨fd.N, defScope st, fun _ => true, true⟩ fd.body (defBody st) = true
section
variable {P : Program} {w : World} {K : PySem.W.Frag} {mg : Str → Option Value} {base : Heap} {G : Glob}
theorem ok_ofM {x qual : Str} {st : Stmt} {fd : FuncData} {f : Addr} {N ps : List Str} {k : Nat} {sp : Sp} (F : FunD K x qual (defArgs st) (defBody st) (defScope st) [] [] f fd) (S : FnScope N ps (defScope st))
    (len : ∀ vs H Q E, sp vs H Q E → vs.length = ps.length)
    (body : ∀ (X : Cx) (H : Hp) (vs : List V) (Q : VK) (E : XK), (∃ cdv A outer s, X = cxOf (L2.CX P w) P w K mg base N qual (defScope st) f cdv A outer s H E) → Room k X.A → Takes X (fun cls d _ H => E cls d H) → PassesOwn (model X.prog X.w) X.A X.env X.xe → sp vs H Q E →
      ∃ t, PSs X (defBody st) t ∧ t { nx := fun _ H' => Q .non H', rt := Q } (start N vs) H) : FnOk P w K mg base (L2.CX P w) (k + 1) f fd ps sp := by
  refine F.ok S len fun cdv A outer s H vs Q E hr hs => ?_
  exact body _ H vs Q E ⟨cdv, A, outer, s, rfl⟩ hr (takes_of rfl rfl rfl rfl) (passes_of rfl) hs
theorem fn_ok {cs : Calls} {k : Nat} {name qual : Str} {ad : Addr} {fd : FnD} {st : Stmt} {fdd : FuncData} (T : TopG P w K mg G) (hk : 3 ≤ k)
    (hc : ∀ g ∈ G.fns, Gd P w K mg base k g (SpC K (cs.f g))) (hm : ∀ p ∈ G.clss, ∀ m ∈ p.2.2, FnR P w K mg base (L2.CX P w) k (ma K (ga K p.1) m) (SpC K (cs.f (mkey p.1 m))))
    (F : FunD K name qual (defArgs st) (defBody st) (defScope st) [] [] ad fdd) (S : FnScope fd.N fd.ps (defScope st)) (ok : okSs G ⟨fd.N, defScope st, fun _ => true, true⟩ fd.body (defBody st) = true) :
    FnOk P w K mg base (L2.CX P w) (k + 2) ad fdd fd.ps (SpC K (callF ⟨G, cs⟩ fd)) := by
  refine ok_ofM (k := k + 1) F S (fun vs H Q E h => ?_) fun X H vs Q E hX hr tk po h => ?_
  · obtain ⟨F, π, M, ds, R, r, p⟩ := h
    unfold callF at p
    obtain ⟨hl, p⟩ := p.ite
    rw [← r.length, hl]
  · obtain ⟨F1, π, M, ds, R, r, p⟩ := h
    obtain ⟨cdv, A, outer, s, rfl⟩ := hX
    unfold callF at p
    obtain ⟨hl, p⟩ := p.ite
    have fit : Fits ⟨G, cs⟩ ⟨fd.N, defScope st, fun _ => true, true⟩ (cxOf (L2.CX P w) P w K mg base fd.N qual (defScope st) ad cdv A outer s H E) :=
      ⟨rfl, rfl, S.nd, rfl, fun _ _ => rfl, by have := hr.un; omega, T.free, T.cst, fun g hg => ⟨k, hc g hg, hr.mono (by omega)⟩,
        fun c f' hc => ⟨T.oex c f' hc, T.own c (.inr (by rw [hc]; rfl)), by
          obtain ⟨fI, fd, ps, h1, h2, h3, h4⟩ := T.init c f' hc base
          exact ⟨1, fI, fd, ps, h1, h2, h3, hr.mono (by omega), h4⟩⟩,
        fun _ => ⟨rfl, rfl⟩, fun c c' b h => (by
          unfold Env.csub at h
          split at h
          · cases h
          · exact T.exm c c' b ‹_› h), T.xcl, T.own, T.kit, T.kitV, T.cl, fun p hp m hm' => ⟨k, hm p hp m hm', hr⟩⟩
    refine ⟨_, okSs_sound fd.body fit S.kind po ok _ tk, startD fd.N ds, M, F1, π, R, env_start r, fin_post R p⟩
theorem fnr_of {name qual : Str} {ad : Addr} {fd : FnD} {k : Nat} {sp : Sp} {st : Stmt} {fdd : FuncData} (F : FunD K name qual (defArgs st) (defBody st) (defScope st) [] [] ad fdd) (B : BindsM name qual st fd.ps) (ok : FnOk P w K mg base (L2.CX P w) k ad fdd fd.ps sp) : FnR P w K mg base (L2.CX P w) k ad sp := by
  refine FnR.imp (ok.raw (FunD.bindsN F B) .nil) fun vs H Q E h => ?_
  rw [List.append_nil]
  exact h
theorem fnr0 {ad : Addr} {k : Nat} : FnR P w K mg base (L2.CX P w) k ad (SpC K fun _ _ => .bad) := fun A outer s H us vs Q E hr e0 r h => by
  obtain ⟨_, _, _, _, _, _, p⟩ := h
  exact p.elim
theorem calls_at {tab : List (Str × FnD)} {k : Nat} {f : Str} {fd : FnD} (h : tab.lookup f = some fd) : (callsN G tab (k + 1)).f f = callF ⟨G, callsN G tab k⟩ fd := by
  funext ds M
  show (match tab.lookup f with
    | some fd => callF ⟨G, callsN G tab k⟩ fd ds M
    | none => .bad) = _
  rw [h]
theorem all_ok {tab : List (Str × FnD)} (T : TopG P w K mg G) (hf : ∀ f ∈ G.fns, ∃ fd, tab.lookup f = some fd ∧ mg f = some (.ref (ga K f)) ∧ DefAt K G f f (ga K f) fd)
    (hm : ∀ p ∈ G.clss, ∀ m ∈ p.2.2, ∃ fd, tab.lookup (mkey p.1 m) = some fd ∧ DefAt K G m (mkey p.1 m) (ma K (ga K p.1) m) fd) :
    ∀ k : Nat, (∀ f ∈ G.fns, Gd P w K mg base (2 * k + 3) f (SpC K ((callsN G tab k).f f))) ∧ (∀ p ∈ G.clss, ∀ m ∈ p.2.2, FnR P w K mg base (L2.CX P w) (2 * k + 3) (ma K (ga K p.1) m) (SpC K ((callsN G tab k).f (mkey p.1 m))))
  | 0 => by
    refine ⟨fun f h => ?_, fun p hp m h => fnr0⟩
    obtain ⟨fd, h1, hg, D⟩ := hf f h
    obtain ⟨st, fdd, F, _⟩ := D.ex
    exact ⟨hg, F.kp, fnr0⟩
  | k + 1 => by
    obtain ⟨i1, i2⟩ := all_ok T hf hm k
    refine ⟨fun f h => ?_, fun p hp m h => ?_⟩
    · obtain ⟨fd, h1, hg, D⟩ := hf f h
      obtain ⟨st, fdd, F, S, B, ok⟩ := D.ex
      rw [calls_at h1]
      exact ⟨hg, F.kp, fnr_of F B (fn_ok (k := 2 * k + 3) T (by omega) i1 i2 F S ok)⟩
    · obtain ⟨fd, h1, D⟩ := hm p hp m h
      obtain ⟨st, fdd, F, S, B, ok⟩ := D.ex
      rw [calls_at h1]
      exact fnr_of F B (fn_ok (k := 2 * k + 3) T (by omega) i1 i2 F S ok)
end
end MP

/-! The program's top by a test, and the law's end. -/
namespace MP
open PySem PySem.Spec PyProof.Rows L2 EV
open He (ga ma)

/-! ### constants -/
mutual
def cstB (K : PySem.W.Frag) : D → Value → Bool
  | .non, u => (match u with
    | .none => true
    | _ => false)
  | .bl b, u => (match u with
    | .bool c => b == c
    | _ => false)
  | .int i, u => (match u with
    | .int j _ => decide (i = j)
    | _ => false)
  | .str x, u => (match u with
    | .str y _ => decide (x = y)
    | _ => false)
  | .tup xs, u => (match u with
    | .ref a => (match K.lookup a with
      | some ⟨.type "tuple", _, .seq its _, _⟩ => decide (its.size ≤ sizeLine) && cstBs K xs its.toList
      | _ => false)
    | _ => false)
  | _, _ => false
def cstBs (K : PySem.W.Frag) : List D → List Value → Bool
  | [], us => us.isEmpty
  | d :: ds, us => (match us with
    | u :: us => cstB K d u && cstBs K ds us
    | [] => false)
end
mutual
theorem cstB_ok {K : PySem.W.Frag} : ∀ (d : D) {u : Value}, cstB K d u = true → ∃ v, RelV v u ∧ ∀ F π, RelD K F π d v
  | .non, u, h => by
    cases u <;> first | exact ⟨.non, rfl, fun _ _ => .non⟩ | cases h
  | .bl b, u, h => by
    cases u with
    | bool c =>
      have e : b = c := eq_of_beq h
      subst e
      exact ⟨.bl b, rfl, fun _ _ => .bl _⟩
    | _ => cases h
  | .int i, u, h => by
    cases u with
    | int j t =>
      have e : i = j := of_decide_eq_true h
      subst e
      exact ⟨.int i, ⟨t, rfl⟩, fun _ _ => .int _⟩
    | _ => cases h
  | .str x, u, h => by
    cases u with
    | str y t =>
      have e : x = y := of_decide_eq_true h
      subst e
      exact ⟨.str x, ⟨t, rfl⟩, fun _ _ => .str _⟩
    | _ => cases h
  | .tup xs, u, h => by
    cases u with
    | ref a =>
      unfold cstB at h
      dsimp only at h
      split at h
      · rename_i oc its n sl ho
        rw [Bool.and_eq_true, decide_eq_true_eq] at h
        obtain ⟨vs, r, q⟩ := cstBs_ok xs h.2
        exact ⟨.ref a, rfl, fun F π => .tup (.inr ⟨_, its, n, ho, rfl, rfl, h.1, r⟩) (q F π)⟩
      · cases h
    | _ => cases h
  | .ty _, u, h => by cases h
  | .lst _, u, h => by cases h
  | .scr _, u, h => by cases h
  | .obj _ _ _, u, h => by cases h
  | .ref _, u, h => by cases h
theorem cstBs_ok {K : PySem.W.Frag} : ∀ (d : List D) {u : List Value}, cstBs K d u = true → ∃ v, Vals v u ∧ ∀ F π, RelDs K F π d v
  | [], u, h => by
    rw [List.isEmpty_iff.mp h]
    exact ⟨[], .nil, fun _ _ => .nil⟩
  | d :: ds, u, h => by
    unfold cstBs at h
    split at h
    · rw [Bool.and_eq_true] at h
      obtain ⟨v, r, q⟩ := cstB_ok d h.1
      obtain ⟨vs, rs, qs⟩ := cstBs_ok ds h.2
      exact ⟨v :: vs, .cons r rs, fun F π => .cons (q F π) (qs F π)⟩
    · cases h
end
/-! ### the errors' __init__ -/
/-- super().__init__('..'); self.f = f -/
def InitShape (body : List Stmt) (f : Str) : Prop := ∃ (msg : Str) (kk : Nat) (p0 p1 p2 p3 p4 p5 q0 q1 q2 q3 : Pos) (pl : PySem.Env → Sem Bool),
  body = [.Expr (.Call (.Attribute (.Call (.Name "super" p0) [] [] p1) "__init__" p2) [.Constant (.str msg) kk p3] [] p4) p5, .Assign [.Attribute (.Name "self" q0) f q1] (.Name f q2) q3] ∧
  ∀ env, eval (.Call (.Attribute (.Call (.Name "super" p0) [] [] p1) "__init__" p2) [.Constant (.str msg) kk p3] [] p4) env = (do
      let ov ← attributeBase (.Call (.Name "super" p0) [] [] p1) "__init__" env (eval (.Call (.Name "super" p0) [] [] p1) env)
      standAt p2.atName
      let (f, first) ← holding [ov] (getMethod ov "__init__" (pl env))
      callWith p4 f first (backTo p4 (starEach [.Constant (.str msg) kk p3] env)) [])
theorem init_one {P : Program} {w : World} {K : PySem.W.Frag} {mg : Str → Option Value} {base : Heap} {C fI : Addr} {qual : Str} {params : Arguments} {body : List Stmt} {scope : Scope} {fd : FuncData} {f : Str} {ar : Arg}
    (D : InitD P K C fI qual params body scope fd) (hs : InitShape body f) (nd : (["self", f] : List Str).Nodup) (par : ∀ x ∈ (["self", f] : List Str), scope.names.lookup x = some .local) (kind : scope.kind = .function) (only : ∀ x, scope.names.lookup x = some .cell ∨ scope.names.lookup x = some .free → x = "__class__")
    (co : scope.isCoroutine = false) (gen : scope.isGenerator = false) (noc : ∀ x ∈ scope.names, x.2 ≠ .cell) (har : (params.posonlyargs ++ params.args).head? = some ar) (hars : ar.arg = "self")
    (hsn : scope.names.lookup ("super" : Str) = some .globalImplicit) (hcn : scope.names.lookup ("__class__" : Str) = some .free) (hfd : (f == ("__debug__" : Str)) = false ∧ (f == ("__classdict__" : Str)) = false) (hno : PySem.W.findIn K (.ref C) f = some none) :
    FnOk P w K mg base (L2.CX P w) 1 fI fd ["self", f] (spI K C f) := by
  obtain ⟨msg, kk, p0, p1, p2, p3, p4, p5, q0, q1, q2, q3, pl, hbd, hev⟩ := hs
  refine init_fn (k := 0) D hbd nd par kind only co gen noc rfl har hars hsn hcn hev (fun vs H Q E h => ?_) fun X hX => ?_
  · obtain ⟨a, v, rfl, _⟩ := h
    rfl
  · obtain ⟨cda, cc, A, outer, s, H, E, rfl⟩ := hX
    refine ⟨_, pss_one (ps_ost (pe_var (i := 0) (x := "self") rfl (.inl (par _ (by simp))) (by decide) (by decide)) (pe_var (i := 1) (x := f) rfl (.inl (par _ (by simp))) hfd.1 hfd.2)), fun vs H Q E h => ?_⟩
    obtain ⟨a, v, rfl, ha, q⟩ := h
    refine ⟨a, [v], rfl, ha, ?_⟩
    exact ⟨v, rfl, .ref a, rfl, a, C, rfl, D.oex, hno, .inl ⟨ha, fun dx h1 h2 => q dx h1 h2⟩⟩

/-- an error class of the package -/
structure ErrD where
  x : Str
  f : Str
  qual : Str
  params : Arguments
  body : List Stmt
  scope : Scope
def scB (sc : Scope) : Bool := sc.names.all fun p => (match p.2 with
  | .cell => false
  | .free => p.1 == "__class__"
  | _ => true)
theorem mem_of_lookup {α : Type} {l : List (Str × α)} {x : Str} {a : α} (h : l.lookup x = some a) : (x, a) ∈ l := by
  induction l with
  | nil => cases h
  | cons p l ih =>
    rw [List.lookup_cons] at h
    split at h
    · rename_i e
      cases h
      rw [eq_of_beq e]
      simp
    · simp [ih h]
theorem scB_ok {sc : Scope} (h : scB sc = true) : (∀ x, sc.names.lookup x = some .cell ∨ sc.names.lookup x = some .free → x = "__class__") ∧ ∀ x ∈ sc.names, x.2 ≠ .cell := by
  unfold scB at h
  rw [List.all_eq_true] at h
  refine ⟨fun x hx => ?_, fun x hx e => ?_⟩
  · rcases hx with hx | hx
    · have := h _ (mem_of_lookup hx)
      cases this
    · have := h _ (mem_of_lookup hx)
      exact eq_of_beq this
  · have := h x hx
    rw [e] at this
    cases this
structure ErrOk (e : ErrD) : Prop where
  shape : InitShape e.body e.f
  nd : (["self", e.f] : List Str).Nodup
  par : ∀ x ∈ (["self", e.f] : List Str), e.scope.names.lookup x = some .local
  kind : e.scope.kind = .function
  only : scB e.scope = true
  co : e.scope.isCoroutine = false
  gen : e.scope.isGenerator = false
  har : ∃ ar : Arg, (e.params.posonlyargs ++ e.params.args).head? = some ar ∧ ar.arg = "self"
  hsn : e.scope.names.lookup ("super" : Str) = some .globalImplicit
  hcn : e.scope.names.lookup ("__class__" : Str) = some .free
  hfd : (e.f == ("__debug__" : Str)) = false ∧ (e.f == ("__classdict__" : Str)) = false
  binds : ∀ (kV doc pm : Value) (an : Option Addr) (cda ct : Value) (cc : Addr) (us : List Value), us.length = (["self", e.f] : List Str).length → bindArgs (PySem.W.ksFn "__init__" e.qual e.params e.body e.scope .none kV doc pm an cda ct cc) ⟨us, []⟩ = pure ((["self", e.f] : List Str).zip us)
/-! ### the test -/
def xcB (K : PySem.W.Frag) (C : Addr) : Bool := (PySem.W.clsIn K C).isSome && (xfB K C && (decide (PySem.W.findIn K (.ref C) "__class__" = some (some (.builtin "object.__class__"))) && (decide (PySem.W.specialIn K (.builtin "object.__class__") "__get__" = some (some (.builtin "getset_descriptor.__get__"))) &&
  (decide (PySem.W.takesIn K (.builtin "object.__class__") = some true) && decide (PySem.W.mroIn K C (.type "object") = some true)))))
theorem xcB_ok {K : PySem.W.Frag} {C : Addr} (h : xcB K C = true) : XcOk K C := by
  unfold xcB at h
  simp only [Bool.and_eq_true, decide_eq_true_eq] at h
  exact ⟨h.1, xfB_ok h.2.1, h.2.2.1, h.2.2.2.1, h.2.2.2.2.1, h.2.2.2.2.2⟩
def gloB (K : PySem.W.Frag) (x : Str) : Bool := decide (PySem.W.nsIn K mainGlobals x = some (some (.ref (ga K x))))
def excB (P : Program) (G : Glob) (K : PySem.W.Frag) (p : Str × Str) : Bool := initB P K (ga K p.1) (ma K (ga K p.1) "__init__") && (gloB K p.1 && (decide (PySem.W.findIn K (.ref (ga K p.1)) "__init__" = some (some (.ref (ma K (ga K p.1) "__init__")))) &&
  (decide (PySem.W.typeIn K (.ref (ma K (ga K p.1) "__init__")) = some (.type "function")) && (xcB K (ga K p.1) && (decide (PySem.W.findIn K (.ref (ga K p.1)) p.2 = some none) &&
  (((G.root :: G.excs.map (·.1)).all fun x => decide (PySem.W.exmOne K (.ref (ga K p.1)) (.ref (ga K x)) = G.sub p.1 x) && decide (PySem.W.kitOne K (.ref (ga K p.1)) (.ref (ga K x)) = G.sub p.1 x)) && decide (PySem.W.kitOne K (.ref (ga K p.1)) (.type "ValueError") = some true)))))))
def cstG (K : PySem.W.Frag) (p : Str × D) : Bool := match PySem.W.nsIn K mainGlobals p.1 with
  | some (some u) => cstB K p.2 u
  | _ => false
open He in
def clB (G : Glob) (K : PySem.W.Frag) (p : Str × List Str × List Str) : Bool := (Fa.cls p.1).ok K && (p.2.1.all (fun f => (Fa.noat p.1 f).ok K) && (p.2.2.all (fun m => (Fa.meth p.1 m).ok K) && ((!(decide (("__init__" : Str) ∈ p.2.2)) || (Fa.mkr p.1).ok K) && (gloB K p.1 &&
  (decide (PySem.W.findIn K (.ref (ga K p.1)) "__class__" = some (some (.builtin "object.__class__"))) && (decide (PySem.W.specialIn K (.builtin "object.__class__") "__get__" = some (some (.builtin "getset_descriptor.__get__"))) &&
  (decide (PySem.W.takesIn K (.builtin "object.__class__") = some true) && (decide (PySem.W.mroIn K (ga K p.1) (.type "object") = some true) && (tysL.all (fun t => decide (PySem.W.kitOne K (.type t) (.ref (ga K p.1)) = some false)) &&
  G.clss.all (fun q => decide (PySem.W.kitOne K (.ref (ga K p.1)) (.ref (ga K q.1)) = some (decide (p.1 = q.1)))))))))))))
def topB (P : Program) (G : Glob) (K : PySem.W.Frag) : Bool := G.clss.all (clB G K) && ((G.free.all fun x => decide (PySem.W.nsIn K mainGlobals x = some none)) && ((G.csts.all (cstG K)) && ((G.excs.all (excB P G K)) && ((G.fns.all (gloB K)) && gloB K G.root))))
theorem clB_ok {G : Glob} {K : PySem.W.Frag} {h : Heap} {mg : Str → Option Value} {p : Str × List Str × List Str} (X : K.In h) (N : h.Ns mainGlobals mg) (b : clB G K p = true) : ClF K mg G p.1 p.2 := by
  unfold clB at b
  simp only [Bool.and_eq_true, List.all_eq_true, decide_eq_true_eq, Bool.or_eq_true, Bool.not_eq_true', decide_eq_false_iff_not] at b
  obtain ⟨b1, b2, b3, b4, b5, b6, b7, b8, b9, b10, b11⟩ := b
  exact ⟨He.cls_ok b1, fun f hf => He.noat_ok (b2 f hf), fun m hm => He.meth_ok (b3 m hm), fun hi => He.mkr_ok (b4.resolve_left fun z => z hi), PySem.W.mg_of X N (of_decide_eq_true b5), b6, b7, b8, b9, b10, b11⟩
theorem sub_in {G : Glob} {c x : Str} {b : Bool} (h : G.sub c x = some b) (hv : x ≠ "ValueError") : x ∈ G.root :: G.excs.map (·.1) := by
  have key : ∀ {y : Str} {f : Str}, G.excs.lookup y = some f → y ∈ G.root :: G.excs.map (·.1) := fun h => by
    refine List.mem_cons_of_mem _ (List.mem_map.mpr ⟨_, mem_of_lookup h, rfl⟩)
  unfold Glob.sub at h
  split at h
  · cases h
  · rename_i f hc
    split at h
    · rename_i h2
      rcases h2 with h2 | h2 | h2
      · subst h2
        exact key hc
      · subst h2
        simp
      · exact absurd h2 hv
    · split at h
      · rename_i f2 hc2
        exact key hc2
      · cases h
theorem sub_lk {G : Glob} {c x : Str} {b : Bool} (h : G.sub c x = some b) : ∃ f, G.excs.lookup c = some f := by
  unfold Glob.sub at h
  split at h
  · cases h
  · rename_i f hc
    exact ⟨f, hc⟩
theorem sub_ve {G : Glob} {c : Str} {b : Bool} (h : G.sub c "ValueError" = some b) : b = true := by
  unfold Glob.sub at h
  split at h
  · cases h
  · rw [if_pos (.inr (.inr rfl))] at h
    cases h
    rfl
theorem top_of {P : Program} {w : World} {K : PySem.W.Frag} {h : Heap} {mg : Str → Option Value} {G : Glob} {es : List ErrD} (hes : es.map (fun e => (e.x, e.f)) = G.excs) (hok : ∀ e ∈ es, ErrOk e) (X : K.In h) (N : h.Ns mainGlobals mg) (b : topB P G K = true)
    (d : (es.map (·.x)).map (fun x => fnE K x) = es.map fun e => fnEV e.qual e.params e.body e.scope) : TopG P w K mg G := by
  unfold topB at b
  simp only [Bool.and_eq_true, List.all_eq_true, decide_eq_true_eq] at b
  obtain ⟨b0, b1, b2, b3, b4, b5⟩ := b
  have glo : ∀ {x : Str}, gloB K x = true → mg x = some (.ref (ga K x)) := fun h => PySem.W.mg_of X N (of_decide_eq_true h)
  have ex : ∀ {c f : Str}, G.excs.lookup c = some f → excB P G K (c, f) = true ∧ ∃ e ∈ es, e.x = c ∧ e.f = f := fun h => by
    have m := mem_of_lookup h
    refine ⟨b3 _ m, ?_⟩
    rw [← hes] at m
    obtain ⟨e, he, e2⟩ := List.mem_map.mp m
    cases e2
    exact ⟨e, he, rfl, rfl⟩
  have fnE_of : ∀ e ∈ es, fnE K e.x = fnEV e.qual e.params e.body e.scope := fun e he => by
    rw [List.map_map] at d
    exact List.map_inj_left.mp d e he
  have un : ∀ {p : Str × Str}, excB P G K p = true → initB P K (ga K p.1) (ma K (ga K p.1) "__init__") = true ∧ gloB K p.1 = true ∧ PySem.W.findIn K (.ref (ga K p.1)) "__init__" = some (some (.ref (ma K (ga K p.1) "__init__"))) ∧ PySem.W.typeIn K (.ref (ma K (ga K p.1) "__init__")) = some (.type "function") ∧ xcB K (ga K p.1) = true ∧
      PySem.W.findIn K (.ref (ga K p.1)) p.2 = some none ∧ (∀ x ∈ G.root :: G.excs.map (·.1), PySem.W.exmOne K (.ref (ga K p.1)) (.ref (ga K x)) = G.sub p.1 x ∧ PySem.W.kitOne K (.ref (ga K p.1)) (.ref (ga K x)) = G.sub p.1 x) ∧ PySem.W.kitOne K (.ref (ga K p.1)) (.type "ValueError") = some true := fun h => by
    unfold excB at h
    simp only [Bool.and_eq_true, List.all_eq_true, decide_eq_true_eq] at h
    exact h
  refine ⟨fun x hx => PySem.W.mg_none_of X N (b1 x hx), fun x dd hx => ?_, fun c f hc => ?_, fun c hc => ?_, fun c f hc base => ?_, fun c c' b hv hs => ?_, fun c f hc => ?_, fun c x b hs hv => ?_, fun c b hs => ?_, fun p hp => clB_ok X N (b0 p hp)⟩
  · have := b2 _ (mem_of_lookup hx)
    unfold cstG at this
    split at this
    · rename_i u hu
      obtain ⟨v, r, q⟩ := cstB_ok dd this
      exact ⟨u, v, PySem.W.mg_of X N hu, r, q⟩
    · cases this
  · obtain ⟨hb, e, he, rfl, rfl⟩ := ex hc
    obtain ⟨fd, D⟩ := initD_of (fnE_of e he) (un hb).1
    exact D.oex
  · rcases hc with rfl | hc
    · exact glo b5
    · obtain ⟨f, hc⟩ := Option.isSome_iff_exists.mp hc
      exact glo (un (ex hc).1).2.1
  · obtain ⟨hb, e, he, rfl, rfl⟩ := ex hc
    obtain ⟨h1, h2, h3, h4, h5, h6, h7, h8⟩ := un hb
    obtain ⟨fd, D⟩ := initD_of (fnE_of e he) h1
    have O := hok e he
    obtain ⟨ar, har, hars⟩ := O.har
    obtain ⟨o1, o2⟩ := scB_ok O.only
    refine ⟨_, fd, _, h3, h4, init_one D O.shape O.nd O.par O.kind o1 O.co O.gen o2 har hars O.hsn O.hcn O.hfd h6, ?_⟩
    obtain ⟨oc, od, osl, dV, kV, doc, pm, an, ct, cc, cda, cl, cld, csl, cdd, ccl, ccs, vsc, file, tf, cdD, rfl, _⟩ := D.ex
    obtain rfl : dV = .none := D.dv
    exact Binds.all fun us hl => O.binds _ _ _ _ _ _ _ us hl
  · obtain ⟨f, hc⟩ := sub_lk hs
    rw [((un (ex hc).1).2.2.2.2.2.2.1 _ (sub_in hs hv)).1, hs]
  · obtain ⟨h1, h2, h3, h4, h5, h6, h7, h8⟩ := un (ex hc).1
    exact ⟨xcB_ok h5, h6⟩
  · obtain ⟨f, hc⟩ := sub_lk hs
    rw [((un (ex hc).1).2.2.2.2.2.2.1 _ (sub_in hs hv)).2, hs]
  · obtain ⟨f, hc⟩ := sub_lk hs
    rw [(un (ex hc).1).2.2.2.2.2.2.2, sub_ve hs]
/-! ### the law -/
/-- the defs: name, as the evaluator has it, as it stands -/
abbrev DefL : Type := List (Str × FnD × Stmt)
def DefL.tab (L : DefL) : List (Str × FnD) := L.map fun p => (p.1, p.2.1)
def DefL.dfn (L : DefL) : List He.DefD := L.map fun p => ⟨(p.1, none), p.1, p.1, defArgs p.2.2, defBody p.2.2, defScope p.2.2, [], []⟩
def DefS (G : Glob) (f : Str) (fd : FnD) (st : Stmt) : Prop := FnScope fd.N fd.ps (defScope st) ∧ BindsAll f st fd.ps ∧ okSs G ⟨fd.N, defScope st, fun _ => true, true⟩ fd.body (defBody st) = true
def DefsOk (G : Glob) : DefL → Prop
  | [] => True
  | (f, fd, st) :: r => DefS G f fd st ∧ DefsOk G r
theorem DefsOk.get {G : Glob} : ∀ {L : DefL}, DefsOk G L → ∀ p ∈ L, DefS G p.1 p.2.1 p.2.2
  | [], _, p, h => by cases h
  | (f, fd, st) :: r, ⟨h1, h2⟩, p, h => by
    rcases List.mem_cons.mp h with rfl | h
    · exact h1
    · exact DefsOk.get h2 p h
/-- the methods: class, name, as the evaluator has it, as it stands -/
abbrev MetL : Type := List (Str × Str × FnD × Stmt)
def MetL.tab (R : MetL) : List (Str × FnD) := R.map fun p => (mkey p.1 p.2.1, p.2.2.1)
def MetL.dfn (R : MetL) : List He.DefD := R.map fun p => ⟨(p.1, some p.2.1), p.2.1, mkey p.1 p.2.1, defArgs p.2.2.2, defBody p.2.2.2, defScope p.2.2.2, [], []⟩
def MetS (G : Glob) (c m : Str) (fd : FnD) (st : Stmt) : Prop := FnScope fd.N fd.ps (defScope st) ∧ BindsM m (mkey c m) st fd.ps ∧ okSs G ⟨fd.N, defScope st, fun _ => true, true⟩ fd.body (defBody st) = true
def MetsOk (G : Glob) : MetL → Prop
  | [] => True
  | (c, m, fd, st) :: r => MetS G c m fd st ∧ MetsOk G r
theorem MetsOk.get {G : Glob} : ∀ {R : MetL}, MetsOk G R → ∀ p ∈ R, MetS G p.1 p.2.1 p.2.2.1 p.2.2.2
  | [], _, p, h => by cases h
  | (c, m, fd, st) :: r, ⟨h1, h2⟩, p, h => by
    rcases List.mem_cons.mp h with rfl | h
    · exact h1
    · exact MetsOk.get h2 p h
/-- the names are apart, and all methods are there -/
def namesOk (G : Glob) (L : DefL) (R : MetL) : Bool := (G.fns.all fun f => L.tab.any fun p => decide (p.1 = f)) && ((L.all fun p => decide (p.1 ∈ G.fns)) && ((R.all fun r => (L.tab.all fun p => !decide (p.1 = mkey r.1 r.2.1)) && R.all fun r' => !decide (mkey r.1 r.2.1 = mkey r'.1 r'.2.1) || (decide (r.1 = r'.1) && decide (r.2.1 = r'.2.1))) &&
  G.clss.all fun p => p.2.2.all fun m => R.any fun r => decide (r.1 = p.1) && decide (r.2.1 = m)))
theorem lookup_none {α : Type} {l : List (Str × α)} {x : Str} (h : ∀ p ∈ l, p.1 ≠ x) : l.lookup x = none := by
  rw [List.lookup_eq_none_iff]
  intro p hp
  simpa using fun e => h p hp e.symm
theorem lookup_some {α : Type} : ∀ {l : List (Str × α)} {x : Str} {p : Str × α}, p ∈ l → p.1 = x → ∃ a, l.lookup x = some a
  | q :: l, x, p, hp, e => by
    rw [List.lookup_cons]
    split
    · exact ⟨_, rfl⟩
    · rename_i hne
      rcases List.mem_cons.mp hp with rfl | hp
      · rw [e] at hne
        simp at hne
      · exact lookup_some hp e
theorem lookup_app {α : Type} {l r : List (Str × α)} {x : Str} : (l ++ r).lookup x = (l.lookup x).or (r.lookup x) := by
  induction l with
  | nil => rfl
  | cons p l ih =>
    rw [List.cons_append, List.lookup_cons, List.lookup_cons]
    split
    · rfl
    · exact ih
/-- what the evaluator says of the law -/
def runs (G : Glob) (tab : List (Str × FnD)) (n : Nat) (fd : FnD) : Prop := ∀ ns : List Int, ns.length ≤ 63 → ∃ M, callF ⟨G, callsN G tab n⟩ fd [.scr ns] [] = .ok (.bl true) M
theorem law_of {l : PySem.W.OpenLaw} {w : World} {K : PySem.W.Frag} {mg : Str → Option Value} {fa : Addr} {h : Heap} {G : Glob} {L : DefL} {R : MetL} {es : List ErrD} {n : Nat} {lfd : FnD} {lst : Stmt} {ex : PySem.W.Frag → Bool} (hex : ∀ K, ex K = topB l.prog G K)
    (c : SaysE (L.dfn ++ R.dfn) ex (es.map (·.x)) (es.map fun e => fnEV e.qual e.params e.body e.scope) K) (hes : es.map (fun e => (e.x, e.f)) = G.excs) (hok : ∀ e ∈ es, ErrOk e) (X : K.In h) (N : h.Ns mainGlobals mg)
    (hL : DefsOk G L) (hR : MetsOk G R) (hn : namesOk G L R = true) (hl : (("law", lfd, lst) : Str × FnD × Stmt) ∈ (L : List (Str × FnD × Stmt))) (hps : lfd.ps = (["script"] : List Str)) (hr : runs G (L.tab ++ R.tab) n lfd) (hmg : mg "law" = some (.ref fa)) :
    LamX.LawAtS l w K (L2.CX l.prog w) (2 * n + 5) 63 "script" mg fa h := by
  have hb : topB l.prog G K = true := (hex K).symm.trans c.more
  have T : TopG l.prog w K mg G := top_of hes hok X N hb c.fn
  have hfn : ∀ f ∈ G.fns, mg f = some (.ref (ga K f)) := fun f hf => by
    unfold topB at hb
    simp only [Bool.and_eq_true, List.all_eq_true, decide_eq_true_eq] at hb
    exact PySem.W.mg_of X N (of_decide_eq_true (hb.2.2.2.2.1 f hf))
  unfold namesOk at hn
  simp only [Bool.and_eq_true, List.all_eq_true, decide_eq_true_eq, List.any_eq_true, Bool.or_eq_true, Bool.not_eq_true', decide_eq_false_iff_not] at hn
  obtain ⟨n1, n2, n3, n4⟩ := hn
  have st : ∀ p ∈ L, Stands K p.1 p.2.2 := fun p hp => by
    obtain ⟨i, hi, e⟩ := List.mem_iff_getElem.mp hp
    have e2 : (L.dfn ++ R.dfn)[i]? = some ⟨(p.1, none), p.1, p.1, defArgs p.2.2, defBody p.2.2, defScope p.2.2, [], []⟩ := by
      rw [List.getElem?_append_left (by unfold DefL.dfn; simpa using hi)]
      unfold DefL.dfn
      rw [List.getElem?_map, List.getElem?_eq_getElem hi, e]
      rfl
    exact He.SaysD.def_ c.d i e2
  have stM : ∀ p ∈ R, ∃ fdd, FunD K p.2.1 (mkey p.1 p.2.1) (defArgs p.2.2.2) (defBody p.2.2.2) (defScope p.2.2.2) [] [] (ma K (ga K p.1) p.2.1) fdd := fun p hp => by
    obtain ⟨i, hi, e⟩ := List.mem_iff_getElem.mp hp
    have e2 : (L.dfn ++ R.dfn)[L.dfn.length + i]? = some ⟨(p.1, some p.2.1), p.2.1, mkey p.1 p.2.1, defArgs p.2.2.2, defBody p.2.2.2, defScope p.2.2.2, [], []⟩ := by
      rw [List.getElem?_append_right (by omega)]
      unfold MetL.dfn
      rw [show L.dfn.length + i - L.dfn.length = i by omega, List.getElem?_map, List.getElem?_eq_getElem hi, e]
      rfl
    exact He.SaysD.def_ c.d _ e2
  have hf : ∀ f ∈ G.fns, ∃ fd, (L.tab ++ R.tab).lookup f = some fd ∧ mg f = some (.ref (ga K f)) ∧ DefAt K G f f (ga K f) fd := fun f hf => by
    obtain ⟨p, hp, e⟩ := n1 f hf
    obtain ⟨fd, h1⟩ := lookup_some hp e
    obtain ⟨q, hq, e2⟩ := List.mem_map.mp (mem_of_lookup h1)
    cases e2
    obtain ⟨k1, k2, k3⟩ := hL.get q hq
    obtain ⟨fdd, D⟩ := st q hq
    exact ⟨_, by rw [lookup_app, h1]; rfl, hfn _ hf, q.2.2, fdd, D, k1, k2, k3⟩
  have hm : ∀ p ∈ G.clss, ∀ m ∈ p.2.2, ∃ fd, (L.tab ++ R.tab).lookup (mkey p.1 m) = some fd ∧ DefAt K G m (mkey p.1 m) (ma K (ga K p.1) m) fd := fun p hp m hm => by
    obtain ⟨r, hr', e1, e2⟩ := n4 p hp m hm
    obtain ⟨m1, m2⟩ := n3 r hr'
    rw [← e1, ← e2]
    obtain ⟨fd, h1⟩ := lookup_some (l := R.tab) (x := mkey r.1 r.2.1) (List.mem_map.mpr ⟨r, hr', rfl⟩) rfl
    have h0 : L.tab.lookup (mkey r.1 r.2.1) = none := lookup_none fun p hp => m1 p hp
    obtain ⟨q, hq, e3⟩ := List.mem_map.mp (mem_of_lookup h1)
    have e4 : mkey q.1 q.2.1 = mkey r.1 r.2.1 := congrArg Prod.fst e3
    have e5 : q.2.2.1 = fd := congrArg Prod.snd e3
    obtain ⟨k1, k2, k3⟩ := hR.get q hq
    obtain ⟨fdd, D⟩ := stM q hq
    rcases m2 q hq with z | ⟨z1, z2⟩
    · exact absurd e4.symm z
    · rw [z1, z2]
      exact ⟨fd, by rw [lookup_app, ← z1, ← z2, h0, h1]; rfl, q.2.2.2, fdd, D, by rw [← e5]; exact k1, by rw [← e5]; exact k2, by rw [← e5]; exact k3⟩
  obtain ⟨h1, h2, h3⟩ := hL.get _ hl
  obtain ⟨fd, D⟩ := st _ hl
  have e : fa = ga K "law" := by
    have q := hmg.symm.trans (hfn "law" (n2 _ hl))
    exact Value.ref.inj (Option.some.inj q)
  subst e
  refine ⟨fd, [], SpC K (callF ⟨G, callsN G (L.tab ++ R.tab) n⟩ lfd), by simp, by simp, by simp, fun s u => FunD.bindsA D (ps := ["script"]) (fun a b c d e f us hl => (hps ▸ h2) a b c d e f us hl) s [u] rfl, ?_, fun base _ _ => ?_⟩
  · intro H a ns hn _ _ hS
    obtain ⟨M, e⟩ := hr ns hn
    refine ⟨H, [], [], [.scr ns], ⟨fun _ _ h => h, rfl, List.nodup_nil, fun a h => (by cases h), fun a h => (by cases h), fun i m a h => (by simp at h)⟩, .cons (.scr hS) .nil, ?_⟩
    rw [e]
    intro F' π' H' x R v rv
    cases rv
    rfl
  · intro _
    obtain ⟨i1, i2⟩ := all_ok (P := l.prog) (w := w) (base := base) T hf hm n
    have := fn_ok (P := l.prog) (w := w) (base := base) (k := 2 * n + 3) (cs := callsN G (L.tab ++ R.tab) n) T (by omega) i1 i2 D h1 h3
    rw [hps] at this
    exact this
theorem noRaise {P : Program} (w : World) (H : Hp) (s : Shared) (e : Value) (s' : Shared) (h : L2.CX P w [] H s (fun _ _ _ => False) e s') : False := by
  obtain ⟨_, _, _, _, _, _, _, _, _, _, _, _, q⟩ := h
  exact q

/-! ### the top's run, looked at piece by piece (each piece a declaration of its own: less memory at once) -/
section
open PySem.W HandSHeadRun
theorem run_join {r : OpenRow} {q : Program} {H : Hook} {ob : SharedT → H.α} {M : Nat} {loose : List Str} {w : World}
    (A : ∀ os : OsState, (endF (stepQ (denQ tabQ) r.prog w) M r.prog w os).map (fun s => looksF r.prog (boot_heap w.params) s.abs) = some true)
    (B : ∀ os : OsState, (endF (stepQ (denQ tabQ) r.prog w) M r.prog w os).map (fun s => seenQ q loose (importedModules r.prog.main.body) (fun s => xlAt q [] s && recOk r.toRowW.records s) s.abs) = some (openGood q loose))
    (C : ∀ os : OsState, (endF (stepQ (denQ tabQ) r.prog w) M r.prog w os).map ob = some (H.val w)) : RunEq r q H ob M loose w := by
  intro os
  have a := A os
  have b := B os
  have c := C os
  cases e : endF (stepQ (denQ tabQ) r.prog w) M r.prog w os with
  | none =>
    rw [e] at a
    cases a
  | some s =>
    rw [e] at a b c
    have a := Option.some.inj a
    have b := Option.some.inj b
    have c := Option.some.inj c
    exact congrArg some (Prod.ext a (Prod.ext b c))
theorem obs_join {n : Nat} {fn : List He.DefD} {ex : PySem.W.Frag → Bool} {xs : List Str} {es : List FnE} {o : Option SharedT} (D : o.map (fun s => He.obsD [] fn (frE n (getT s))) = some (He.valD fn)) (T : o.map (fun s => ex (frE n (getT s))) = some true)
    (E : o.map (fun s => xs.map fun x => fnE (frE n (getT s)) x) = some es) : o.map (fun s => obsE n fn ex xs (getT s)) = some (He.valD fn, true, es) := by
  cases o with
  | none => cases D
  | some s =>
    have a := Option.some.inj D
    have b := Option.some.inj T
    have c := Option.some.inj E
    exact congrArg some (Prod.ext a (Prod.ext b c))
theorem def_join {n : Nat} {l1 l2 : List He.DefD} {o : Option SharedT} (D1 : o.map (fun s => He.obsD [] l1 (frE n (getT s))) = some (He.valD l1)) (D2 : o.map (fun s => He.obsD [] l2 (frE n (getT s))) = some (He.valD l2)) : o.map (fun s => He.obsD [] (l1 ++ l2) (frE n (getT s))) = some (He.valD (l1 ++ l2)) := by
  cases o with
  | none => cases D1
  | some s =>
    have a : He.obsD [] l1 (frE n (getT s)) = He.valD l1 := Option.some.inj D1
    have b : He.obsD [] l2 (frE n (getT s)) = He.valD l2 := Option.some.inj D2
    have a1 : (l1.all fun d => d.ok (frE n (getT s))) = true := congrArg Prod.fst a
    have a2 : (l1.map fun d => He.fnW (frE n (getT s)) d.at_) = l1.map He.DefD.val := congrArg Prod.snd a
    have b1 : (l2.all fun d => d.ok (frE n (getT s))) = true := congrArg Prod.fst b
    have b2 : (l2.map fun d => He.fnW (frE n (getT s)) d.at_) = l2.map He.DefD.val := congrArg Prod.snd b
    refine congrArg some (Prod.ext (show ((l1 ++ l2).all fun d => d.ok (frE n (getT s))) = true from ?_) (show ((l1 ++ l2).map fun d => He.fnW (frE n (getT s)) d.at_) = (l1 ++ l2).map He.DefD.val from ?_))
    · rw [List.all_append, a1, b1]
      rfl
    · rw [List.map_append, List.map_append, a2, b2]
theorem and_join {α : Type} {o : Option α} {f g : α → Bool} (F : o.map f = some true) (G : o.map g = some true) : o.map (fun s => f s && g s) = some true := by
  cases o with
  | none => cases F
  | some s =>
    have a : f s = true := Option.some.inj F
    have b : g s = true := Option.some.inj G
    exact congrArg some (Bool.and_eq_true_iff.mpr ⟨a, b⟩)
end
end MP

/-! The law's pen, as the evaluator sees it. -/
namespace MX
open MP
open PySem PySem.Spec PyProof.Rows L2

section
variable {α β : Type} {Γ : MP.Env} {M : Mem} {r : Rho} {m : Bool} {i j : Int} {x y : Str} {a b d : D} {xs ys : List D} {k : Bool}
theorem nth0 {α : Type} {a : α} {l : List α} : (a :: l)[0]? = some a := rfl
theorem nthS {α : Type} {a : α} {l : List α} {n : Nat} : (a :: l)[n + 1]? = l[n]? := rfl
theorem get0 {o : D} {r : Rho} : get (some o :: r) 0 = some o := rfl
theorem getS {o : Option D} {r : Rho} {n : Nat} : get (o :: r) (n + 1) = get r n := rfl
theorem rb_ok {a : α} {f : α → Mem → Rs β} : (Rs.ok a M).bind f = f a M := rfl
theorem rb_exc {c : Str} {ns : List Str} {ds : List D} {f : α → Mem → Rs β} : (Rs.exc c ns ds M : Rs α).bind f = .exc c ns ds M := rfl
theorem rg_ok {a : α} {f : α → Mem → RS} : (Rs.ok a M).go r f = f a M := rfl
theorem rg_exc {c : Str} {ns : List Str} {ds : List D} {f : α → Mem → RS} : (Rs.exc c ns ds M : Rs α).go r f = .exc c ns ds r M := rfl
theorem sg_nx {f : Rho → Mem → RS} : (RS.nx r M).go f = f r M := rfl
theorem sg_rt {f : Rho → Mem → RS} : (RS.rt d M).go f = .rt d M := rfl
theorem sg_bk {f : Rho → Mem → RS} : (RS.bk r M).go f = .bk r M := rfl
theorem sg_ct {f : Rho → Mem → RS} : (RS.ct r M).go f = .ct r M := rfl
theorem sg_exc {c : Str} {ns : List Str} {ds : List D} {f : Rho → Mem → RS} : (RS.exc c ns ds r M).go f = .exc c ns ds r M := rfl
theorem opt_s {a : α} {f : α → Rs D} : opt (some a) f = f a := rfl
theorem optS_s {a : α} {f : α → RS} : optS (some a) f = f a := rfl
theorem b_add : binD m .add (.int i) (.int j) M = .ok (.int (i + j)) M := rfl
theorem b_sub : binD m .sub (.int i) (.int j) M = .ok (.int (i - j)) M := rfl
theorem b_mul : binD m .mul (.int i) (.int j) M = if mulOk i j = true then .ok (.int (i * j)) M else .bad := rfl
theorem b_fdiv : binD m .fdiv (.int i) (.int j) M = if divOk j = true then .ok (.int (i / j)) M else .bad := rfl
theorem b_mod : binD m .mod (.int i) (.int j) M = if 0 < j then .ok (.int (i % j)) M else .bad := rfl
theorem b_pow : binD m .pow (.int i) (.int j) M = if powOk i j = true then .ok (.int (i ^ j.toNat)) M else .bad := rfl
theorem b_adds : binD m .add (.str x) (.str y) M = if x.length + y.length ≤ sizeLine then .ok (.str (x ++ y)) M else .bad := rfl
theorem b_addt : binD m .add (.tup xs) (.tup ys) M = if xs.length + ys.length ≤ sizeLine then .ok (.tup (xs ++ ys)) M else .bad := rfl
theorem b_addl : binD m .add (.lst xs) (.lst ys) M = if xs.length + ys.length ≤ sizeLine then mkL m (xs ++ ys) M else .bad := rfl
theorem u_neg : negD (.int i) M = .ok (.int (-i)) M := rfl
theorem u_not : notD (.bl k) M = .ok (.bl !k) M := rfl
theorem c_lt : cmpD .lt (.int i) (.int j) M = .ok (.bl (decide (i < j))) M := rfl
theorem c_le : cmpD .le (.int i) (.int j) M = .ok (.bl (decide (i ≤ j))) M := rfl
theorem c_gt : cmpD .gt (.int i) (.int j) M = .ok (.bl (decide (j < i))) M := rfl
theorem c_ge : cmpD .ge (.int i) (.int j) M = .ok (.bl (decide (j ≤ i))) M := rfl
theorem c_eq : cmpD .eq a b M = opt (eqD M a b) fun k => .ok (.bl k) M := rfl
theorem c_ne : cmpD .ne a b M = opt (eqD M a b) fun k => .ok (.bl (!k)) M := rfl
theorem c_is : cmpD .is_ a .non M = .ok (.bl (isNon a)) M := by cases a <;> rfl
theorem c_isnot : cmpD .isnot a .non M = .ok (.bl (!isNon a)) M := by cases a <;> rfl
theorem beq_bool (a b : Bool) : (a == b) = decide (a = b) := by cases a <;> cases b <;> rfl
theorem eq_int : eqD M (.int i) (.int j) = some (decide (i = j)) := rfl
theorem l_str : lenD M (.str x) = if x.length ≤ sizeLine then .ok (.int x.length) M else .bad := rfl
theorem l_lst : lenD M (.lst xs) = .ok (.int xs.length) M := rfl
theorem l_tup : lenD M (.tup xs) = .ok (.int xs.length) M := rfl
theorem f_len : bltD M .len [d] = lenD M d := rfl
theorem f_int : bltD M .int [.int i] = .ok (.int i) M := rfl
theorem f_str : bltD M .str [.int i] = if i.natAbs.log2 < 1920 then .ok (.str (toString i)) M else .bad := rfl
theorem f_list_scr {ns : List Int} : bltD M (.list m) [.scr ns] = mkL m (ns.map D.int) M := rfl
theorem f_list_lst : bltD M (.list m) [.lst xs] = mkL m xs M := rfl
theorem f_list_tup : bltD M (.list m) [.tup xs] = mkL m xs M := rfl
theorem mk_f : mkL false xs M = .ok (.lst xs) M := rfl
theorem mk_t : mkL true xs M = .ok (.ref M.length) (M ++ [.lst xs]) := rfl
theorem ix_lst : ixD M (.lst xs) (.int i) = opt (atI xs i) fun d => .ok d M := rfl
theorem ix_tup : ixD M (.tup xs) (.int i) = opt (atI xs i) fun d => .ok d M := rfl
theorem t_bl : truD M (.bl k) = some k := rfl
theorem t_int : truD M (.int i) = some (i != 0) := rfl
theorem t_non : truD M .non = some false := rfl
end
/-! ### the evaluator as a machine: what goes on behind a part has a name -/
section
variable (Γ : MP.Env) (m : Bool) (o p : BO) (oc pc : CO) (a b c e : SE) (r : Rho) (x y : D) (M : Mem) (es : SEs) (xs : List D) (i : Nat) (is : List Nat)
def kBin (x : D) (M : Mem) : Rs D := (evE Γ b r M).bind (binD m o x)
theorem e_bin : evE Γ (.bin m o a b) r M = (evE Γ a r M).bind (kBin Γ m o b r) := rfl
theorem k_bin : kBin Γ m o b r x M = (evE Γ b r M).bind (binD m o x) := rfl
theorem e_neg : evE Γ (.neg a) r M = (evE Γ a r M).bind negD := rfl
theorem e_not : evE Γ (.not a) r M = (evE Γ a r M).bind notD := rfl
def kCmp (x : D) (M : Mem) : Rs D := (evE Γ b r M).bind (cmpD oc x)
theorem e_cmp : evE Γ (.cmp oc a b) r M = (evE Γ a r M).bind (kCmp Γ oc b r) := rfl
theorem k_cmp : kCmp Γ oc b r x M = (evE Γ b r M).bind (cmpD oc x) := rfl
def kC3 (y : D) (k : D) (M : Mem) : Rs D := match k with
  | .bl true => (evE Γ c r M).bind (cmpD pc y)
  | .bl false => .ok (.bl false) M
  | _ => .bad
def kC2 (x : D) (y : D) (M : Mem) : Rs D := (cmpD oc x y M).bind (kC3 Γ pc c r y)
def kC1 (x : D) (M : Mem) : Rs D := (evE Γ b r M).bind (kC2 Γ oc pc c r x)
theorem e_cmp2 : evE Γ (.cmp2 oc pc a b c) r M = (evE Γ a r M).bind (kC1 Γ oc pc b c r) := rfl
theorem k_c1 : kC1 Γ oc pc b c r x M = (evE Γ b r M).bind (kC2 Γ oc pc c r x) := rfl
theorem k_c2 : kC2 Γ oc pc c r x y M = (cmpD oc x y M).bind (kC3 Γ pc c r y) := rfl
theorem k_c3t : kC3 Γ pc c r y (.bl true) M = (evE Γ c r M).bind (cmpD pc y) := rfl
theorem k_c3f : kC3 Γ pc c r y (.bl false) M = .ok (.bl false) M := rfl
def kAnd (x : D) (M : Mem) : Rs D := match x with
  | .bl true => evE Γ b r M
  | .bl false => .ok (.bl false) M
  | _ => .bad
theorem e_and : evE Γ (.and a b) r M = (evE Γ a r M).bind (kAnd Γ b r) := rfl
theorem k_andt : kAnd Γ b r (.bl true) M = evE Γ b r M := rfl
theorem k_andf : kAnd Γ b r (.bl false) M = .ok (.bl false) M := rfl
def kOr (x : D) (M : Mem) : Rs D := match x with
  | .bl true => .ok (.bl true) M
  | .bl false => evE Γ b r M
  | _ => .bad
theorem e_or : evE Γ (.or a b) r M = (evE Γ a r M).bind (kOr Γ b r) := rfl
theorem k_ort : kOr Γ b r (.bl true) M = .ok (.bl true) M := rfl
theorem k_orf : kOr Γ b r (.bl false) M = evE Γ b r M := rfl
def kIfe (k : Bool) (M : Mem) : Rs D := match k with
  | true => evE Γ a r M
  | false => evE Γ b r M
theorem e_ife (t : ST) : evE Γ (.ife t a b) r M = (evT Γ t r M).bind (kIfe Γ a b r) := rfl
theorem k_ifet : kIfe Γ a b r true M = evE Γ a r M := rfl
theorem k_ifef : kIfe Γ a b r false M = evE Γ b r M := rfl
def kTup (xs : List D) (M : Mem) : Rs D := if xs.length ≤ sizeLine then .ok (.tup xs) M else .bad
theorem e_tup : evE Γ (.tup es) r M = (evEs Γ es r M).bind kTup := rfl
theorem k_tup : kTup xs M = if xs.length ≤ sizeLine then .ok (.tup xs) M else .bad := rfl
def kLst (xs : List D) (M : Mem) : Rs D := if xs.length ≤ sizeLine then mkL m xs M else .bad
theorem e_lst : evE Γ (.lst m es) r M = (evEs Γ es r M).bind (kLst m) := rfl
theorem k_lst : kLst m xs M = if xs.length ≤ sizeLine then mkL m xs M else .bad := rfl
def kIx2 (x y : D) (M : Mem) : Rs D := ixD M x y
def kIx (x : D) (M : Mem) : Rs D := (evE Γ b r M).bind (kIx2 x)
theorem e_ix : evE Γ (.ix a b) r M = (evE Γ a r M).bind (kIx Γ b r) := rfl
theorem k_ix : kIx Γ b r x M = (evE Γ b r M).bind (kIx2 x) := rfl
theorem k_ix2 : kIx2 x y M = ixD M x y := rfl
def kSl3 (x : D) (l h : Option Int) (M : Mem) : Rs D := slD m M x l h
def kSl2 (hi : SO) (x : D) (l : Option Int) (M : Mem) : Rs D := (evO Γ hi r M).bind (kSl3 m x l)
def kSl (lo hi : SO) (x : D) (M : Mem) : Rs D := (evO Γ lo r M).bind (kSl2 Γ m r hi x)
theorem e_sl (lo hi : SO) : evE Γ (.sl m a lo hi) r M = (evE Γ a r M).bind (kSl Γ m r lo hi) := rfl
theorem k_sl (lo hi : SO) : kSl Γ m r lo hi x M = (evO Γ lo r M).bind (kSl2 Γ m r hi x) := rfl
theorem k_sl2 (hi : SO) (l : Option Int) : kSl2 Γ m r hi x l M = (evO Γ hi r M).bind (kSl3 m x l) := rfl
theorem k_sl3 (l h : Option Int) : kSl3 m x l h M = slD m M x l h := rfl
def kRev (x : D) (M : Mem) : Rs D := revD m M x
theorem e_rev : evE Γ (.rev m a) r M = (evE Γ a r M).bind (kRev m) := rfl
theorem k_rev : kRev m x M = revD m M x := rfl
theorem e_call (f : Str) : evE Γ (.call f es) r M = (evEs Γ es r M).bind (Γ.cs.f f) := rfl
def kBlt (f : Bn) (xs : List D) (M : Mem) : Rs D := bltD M f xs
theorem e_blt (f : Bn) : evE Γ (.blt f es) r M = (evEs Γ es r M).bind (kBlt f) := rfl
theorem k_blt (f : Bn) : kBlt f xs M = bltD M f xs := rfl
def kMe2 (f : Mn) (x : D) (xs : List D) (M : Mem) : Rs D := methD M f x xs
def kMe (f : Mn) (x : D) (M : Mem) : Rs D := if tyD M f x = true then (evEs Γ es r M).bind (kMe2 f x) else .bad
theorem e_me (f : Mn) : evE Γ (.meth f a es) r M = (evE Γ a r M).bind (kMe Γ r es f) := rfl
theorem k_me (f : Mn) : kMe Γ r es f x M = if tyD M f x = true then (evEs Γ es r M).bind (kMe2 f x) else .bad := rfl
theorem k_me2 (f : Mn) : kMe2 f x xs M = methD M f x xs := rfl
def kIsi (t : String) (x : D) (M : Mem) : Rs D := opt (isiD x t) fun b => .ok (.bl b) M
theorem e_isi (t : String) : evE Γ (.isi a t) r M = (evE Γ a r M).bind (kIsi t) := rfl
theorem k_isi (t : String) : kIsi t x M = opt (isiD x t) fun b => .ok (.bl b) M := rfl
def kLrg2 (x y : D) (M : Mem) : Rs D := lrgD m M x y
def kLrg (x : D) (M : Mem) : Rs D := (evE Γ b r M).bind (kLrg2 m x)
theorem e_lrg : evE Γ (.lrg m a b) r M = (evE Γ a r M).bind (kLrg Γ m b r) := rfl
theorem k_lrg : kLrg Γ m b r x M = (evE Γ b r M).bind (kLrg2 m x) := rfl
theorem k_lrg2 : kLrg2 m x y M = lrgD m M x y := rfl
theorem e_int (j : Int) : evE Γ (.int j) r M = .ok (.int j) M := rfl
theorem e_str (j : Str) : evE Γ (.str j) r M = .ok (.str j) M := rfl
theorem e_bl (j : Bool) : evE Γ (.bl j) r M = .ok (.bl j) M := rfl
theorem e_non : evE Γ .non r M = .ok .non M := rfl
def vD (o : Option D) (M : Mem) : Rs D := opt o fun d => .ok d M
theorem e_var : evE Γ (.var i) r M = vD (get r i) M := rfl
theorem e_cst (j : Str) : evE Γ (.cst j) r M = vD (Γ.cst j) M := rfl
theorem v_d (d : D) : vD (some d) M = .ok d M := rfl
theorem es_nil : evEs Γ .nil r M = .ok [] M := rfl
def kEs2 (x : D) (xs : List D) (M : Mem) : Rs (List D) := .ok (x :: xs) M
def kEs (x : D) (M : Mem) : Rs (List D) := (evEs Γ es r M).bind (kEs2 x)
theorem es_cons : evEs Γ (.cons e es) r M = (evE Γ e r M).bind (kEs Γ r es) := rfl
theorem k_es : kEs Γ r es x M = (evEs Γ es r M).bind (kEs2 x) := rfl
theorem k_es2 : kEs2 x xs M = .ok (x :: xs) M := rfl
def kO (x : D) (M : Mem) : Rs (Option Int) := match x with
  | .int i => .ok (some i) M
  | _ => .bad
theorem o_none : evO Γ .none r M = .ok none M := rfl
theorem o_some : evO Γ (.some e) r M = (evE Γ e r M).bind kO := rfl
theorem k_o (j : Int) : kO (.int j) M = .ok (some j) M := rfl
def kVal (x : D) (M : Mem) : Rs Bool := match x with
  | .bl b => .ok b M
  | _ => .bad
theorem t_val : evT Γ (.val e) r M = (evE Γ e r M).bind kVal := rfl
theorem k_val (k : Bool) : kVal (.bl k) M = .ok k M := rfl
def kTru (x : D) (M : Mem) : Rs Bool := match truD M x with
  | some b => .ok b M
  | none => .bad
theorem t_tru : evT Γ (.tru e) r M = (evE Γ e r M).bind kTru := rfl
def vB (o : Option Bool) (M : Mem) : Rs Bool := match o with
  | some b => .ok b M
  | none => .bad
theorem k_tru : kTru x M = vB (truD M x) M := by
  unfold kTru vB
  rfl
theorem v_b (k : Bool) : vB (some k) M = .ok k M := rfl
def kTA (t : ST) (k : Bool) (M : Mem) : Rs Bool := match k with
  | true => evT Γ t r M
  | false => .ok false M
def kTO (t : ST) (k : Bool) (M : Mem) : Rs Bool := match k with
  | true => .ok true M
  | false => evT Γ t r M
def kTN (k : Bool) (M : Mem) : Rs Bool := .ok (!k) M
theorem t_and (t u : ST) : evT Γ (.and t u) r M = (evT Γ t r M).bind (kTA Γ r u) := rfl
theorem t_or (t u : ST) : evT Γ (.or t u) r M = (evT Γ t r M).bind (kTO Γ r u) := rfl
theorem t_not (t : ST) : evT Γ (.not t) r M = (evT Γ t r M).bind kTN := rfl
theorem k_tat (t : ST) : kTA Γ r t true M = evT Γ t r M := rfl
theorem k_taf (t : ST) : kTA Γ r t false M = .ok false M := rfl
theorem k_tot (t : ST) : kTO Γ r t true M = .ok true M := rfl
theorem k_tof (t : ST) : kTO Γ r t false M = evT Γ t r M := rfl
theorem k_tn (k : Bool) : kTN k M = .ok (!k) M := rfl
theorem c_yes : evC Γ .yes r M = .ok true M := rfl
theorem c_one (t : ST) : evC Γ (.one t) r M = evT Γ t r M := rfl
def kSeq (x : D) (M : Mem) : Rs Its := match itSeq M x with
  | some j => .ok j M
  | none => .bad
theorem i_seq : evI Γ (.seq e) r M = (evE Γ e r M).bind kSeq := rfl
theorem k_seql : kSeq (.lst xs) M = .ok (.vals xs) M := rfl
theorem k_seqt : kSeq (.tup xs) M = .ok (.vals xs) M := rfl
def kR1 (x : D) (M : Mem) : Rs Its := match x with
  | .int j => if rngOk 0 j = true then .ok (.vals (rngD j.toNat 0)) M else .bad
  | _ => .bad
theorem i_r1 : evI Γ (.rng1 e) r M = (evE Γ e r M).bind kR1 := rfl
theorem k_r1 (j : Int) : kR1 (.int j) M = if rngOk 0 j = true then .ok (.vals (rngD j.toNat 0)) M else .bad := rfl
def kR3 (x y : D) (M : Mem) : Rs Its := match x, y with
  | .int i, .int j => if rngOk i j = true then .ok (.vals (rngD (j - i).toNat i)) M else .bad
  | _, _ => .bad
def kR2 (x : D) (M : Mem) : Rs Its := (evE Γ b r M).bind (kR3 x)
theorem i_r2 : evI Γ (.rng2 a b) r M = (evE Γ a r M).bind (kR2 Γ b r) := rfl
theorem k_r2 : kR2 Γ b r x M = (evE Γ b r M).bind (kR3 x) := rfl
theorem k_r3 (j k : Int) : kR3 (.int j) (.int k) M = if rngOk j k = true then .ok (.vals (rngD (k - j).toNat j)) M else .bad := rfl
/-! statements -/
theorem ss_nil : evSs Γ .nil r M = .nx r M := rfl
theorem ss_cons (s : SS) (ss : SSs) : evSs Γ (.cons s ss) r M = (evS Γ s r M).go (evSs Γ ss) := rfl
def kSet (x : D) (M : Mem) : RS := .nx (r.set i (some x)) M
theorem s_set' : evS Γ (.set i e) r M = (evE Γ e r M).go r (kSet r i) := rfl
theorem k_set : kSet r i x M = .nx (r.set i (some x)) M := rfl
def kPar (xs : List D) (M : Mem) : RS := optS (setAll r is xs) fun r => .nx r M
theorem s_par' : evS Γ (.par is es) r M = (evEs Γ es r M).go r (kPar r is) := rfl
theorem k_par : kPar r is xs M = optS (setAll r is xs) fun r => .nx r M := rfl
def kUnp (x : D) (M : Mem) : RS := optS (asg M (.tp is) x r) fun r => .nx r M
theorem s_unp' : evS Γ (.unp is e) r M = (evE Γ e r M).go r (kUnp r is) := rfl
theorem k_unp : kUnp r is x M = optS (asg M (.tp is) x r) fun r => .nx r M := rfl
def kSu3 (v x y : D) (M : Mem) : RS := optS (subD M x y v) fun M => .nx r M
def kSu2 (v x : D) (M : Mem) : RS := (evE Γ b r M).go r (kSu3 r v x)
def kSu (v : D) (M : Mem) : RS := (evE Γ a r M).go r (kSu2 Γ b r v)
theorem s_sub' : evS Γ (.sub a b e) r M = (evE Γ e r M).go r (kSu Γ a b r) := rfl
theorem k_su (v : D) : kSu Γ a b r v M = (evE Γ a r M).go r (kSu2 Γ b r v) := rfl
theorem k_su2 (v : D) : kSu2 Γ b r v x M = (evE Γ b r M).go r (kSu3 r v x) := rfl
theorem k_su3 (v : D) : kSu3 r v x y M = optS (subD M x y v) fun M => .nx r M := rfl
def kEx (x : D) (M : Mem) : RS := .nx r M
theorem s_ex' : evS Γ (.ex e) r M = (evE Γ e r M).go r (kEx r) := rfl
theorem k_ex : kEx r x M = .nx r M := rfl
theorem s_ret' : evS Γ (.ret e) r M = (evE Γ e r M).go r .rt := rfl
theorem s_ret0' : evS Γ .ret0 r M = .rt .non M := rfl
def kIf (s t : SSs) (k : Bool) (M : Mem) : RS := match k with
  | true => evSs Γ s r M
  | false => evSs Γ t r M
theorem s_if' (k : ST) (s t : SSs) : evS Γ (.ife k s t) r M = (evT Γ k r M).go r (kIf Γ r s t) := rfl
theorem k_ift (s t : SSs) : kIf Γ r s t true M = evSs Γ s r M := rfl
theorem k_iff (s t : SSs) : kIf Γ r s t false M = evSs Γ t r M := rfl
def stepF (g : SG) (s : SSs) (d : D) (r : Rho) (M : Mem) : RS := optS (asg M g d r) fun r => evSs Γ s r M
def kFor (g : SG) (s : SSs) (js : Its) (M : Mem) : RS := match js with
  | .vals xs => forGo (stepF Γ g s) xs r M
  | .at_ i n en => forAt (stepF Γ g s) i en n 0 r M
theorem s_for' (g : SG) (it : SI) (s : SSs) : evS Γ (.for_ g it s) r M = (evI Γ it r M).go r (kFor Γ r g s) := rfl
theorem k_for (g : SG) (s : SSs) : kFor Γ r g s (.vals xs) M = forGo (stepF Γ g s) xs r M := rfl
theorem k_step (s : SSs) (d : D) : stepF Γ (.nm i) s d r M = evSs Γ s (r.set i (some d)) M := rfl
theorem s_whl' (k : ST) (s : SSs) : evS Γ (.whl k s) r M = whlGo (evT Γ k) (evSs Γ s) whlMax r M := rfl
theorem s_brk' : evS Γ .brk r M = .bk r M := rfl
theorem s_cnt' : evS Γ .cnt r M = .ct r M := rfl
theorem s_pas' : evS Γ .pas r M = .nx r M := rfl
def kTry (hs : List (Str × Option Nat × HB)) (q : RS) : RS := match q with
  | .exc c ns ds r M => evH Γ hs c ns ds r M
  | y => y
theorem s_try' (s : SSs) (hs : List (Str × Option Nat × HB)) : evS Γ (.try_ s hs) r M = kTry Γ hs (evSs Γ s r M) := rfl
theorem k_try_rt (hs : List (Str × Option Nat × HB)) : kTry Γ hs (.rt x M) = .rt x M := rfl
theorem k_try_nx (hs : List (Str × Option Nat × HB)) : kTry Γ hs (.nx r M) = .nx r M := rfl
end
local macro_rules | `(tactic| walk_at "ev") => `(tactic| simp only [e_bin, k_bin, e_neg, e_not, e_cmp, k_cmp, e_cmp2, k_c1, k_c2, k_c3t, k_c3f, e_and, k_andt, k_andf, e_or, k_ort, k_orf, e_ife, k_ifet, k_ifef, e_tup, k_tup, e_lst, k_lst, e_ix, k_ix, k_ix2, e_sl, k_sl, k_sl2, k_sl3, e_rev, k_rev, e_call, e_blt, k_blt, e_me, k_me, k_me2, e_isi, k_isi, e_lrg, k_lrg, k_lrg2, e_int, e_str, e_bl, e_non, e_var, e_cst, v_d, v_b, es_nil, es_cons, k_es, k_es2, o_none, o_some, k_o, t_val, k_val, t_tru, k_tru, t_and, t_or, t_not, k_tat, k_taf, k_tot, k_tof, k_tn, c_yes, c_one, i_seq, k_seql, k_seqt, i_r1, k_r1, i_r2, k_r2, k_r3, ss_nil, ss_cons, s_set', k_set, s_par', k_par, s_unp', k_unp, s_sub', k_su, k_su2, k_su3, s_ex', k_ex, s_ret', s_ret0', s_if', k_ift, k_iff, s_for', k_for, s_brk', s_cnt', s_pas', s_try', k_try_rt, k_try_nx, setAll, get0, getS, nth0, nthS, rb_ok, rb_exc, rg_ok, rg_exc, sg_nx, sg_rt, sg_bk, sg_ct, sg_exc, opt_s, optS_s, b_add, b_sub, b_mul, b_fdiv, b_mod, b_pow, u_neg, u_not, c_lt, c_le, c_gt, c_ge, c_eq, c_ne, c_is, c_isnot, eq_int, l_lst, l_tup, f_len, f_int, f_list_scr, f_list_lst, f_list_tup, mk_f, mk_t, ix_lst, ix_tup, t_bl, t_int, t_non, List.set_cons_zero, List.set_cons_succ, List.length_nil, List.length_cons, List.length_map, decide_true, decide_false, ↓reduceIte, Int.reduceLT, Bool.not_true, Bool.not_false, Bool.true_and, Bool.false_and, reduceCtorEq, *])
/-- the pen -/
abbrev pen (cs : List D) (a l : Int) : MO := .dct [(.inr "cells", .lst cs), (.inr "at", .int a), (.inr "left", .int l)]
section
variable {M : Mem} {i : Nat} {cs : List D} {a l v : Int}
theorem ix_left (h : M[i]? = some (pen cs a l)) : ixD M (.ref i) (.str "left") = .ok (.int l) M := by
  unfold ixD seqOf
  simp only [h]
  rfl
theorem ix_at (h : M[i]? = some (pen cs a l)) : ixD M (.ref i) (.str "at") = .ok (.int a) M := by
  unfold ixD seqOf
  simp only [h]
  rfl
theorem ix_cells (h : M[i]? = some (pen cs a l)) : ixD M (.ref i) (.str "cells") = .ok (.lst cs) M := by
  unfold ixD seqOf
  simp only [h]
  rfl
theorem sub_left (h : M[i]? = some (pen cs a l)) : subD M (.ref i) (.str "left") (.int v) = some (M.set i (pen cs a v)) := by
  unfold subD
  simp only [h]
  rfl
theorem sub_at (h : M[i]? = some (pen cs a l)) : subD M (.ref i) (.str "at") (.int v) = some (M.set i (pen cs v l)) := by
  unfold subD
  simp only [h]
  rfl
theorem set_pen {o : MO} (h : M[i]? = some (pen cs a l)) : (M.set i o)[i]? = some o := by
  rw [List.getElem?_set_self (List.getElem?_eq_some_iff.mp h).1]
theorem toPs_ints (M : Mem) : ∀ ns : List Int, toPs M (ns.map D.int) = some (ns.map PyData.int)
  | [] => rfl
  | n :: r => by
    show (match toP M (.int n), toPs M (r.map D.int) with
      | some p, some q => some (p :: q)
      | _, _ => none) = _
    rw [toPs_ints M r]
    rfl
theorem shaped_ints' (ns : List Int) : SeqAt.shaped (.list (ns.map PyData.int)) = true := by
  induction ns with
  | nil => rfl
  | cons n r ih => exact ih
theorem eq_nil (M : Mem) (ns : List Int) : eqD M (.lst (ns.map D.int)) (.lst []) = some ns.isEmpty := by
    unfold eqD toP1
    show (match (toPs M (ns.map D.int)).map PyData.list, toP M (.lst []) with
      | some p, some q => if SeqAt.shaped p = true ∧ SeqAt.shaped q = true then some (PyData.eqv p q) else none
      | _, _ => none) = _
    rw [toPs_ints]
    show (if SeqAt.shaped (.list (ns.map PyData.int)) = true ∧ SeqAt.shaped (.list []) = true then some (PyData.eqv (.list (ns.map PyData.int)) (.list [])) else none) = _
    rw [if_pos ⟨shaped_ints' ns, rfl⟩]
    cases ns <;> rfl
theorem fin_int {M1 : Mem} {n : Nat} {d : Int} (h : M1.length = n) : finE false n (.rt (.int d) M1) = .ok (.int d) M1 := by
  show (match some (D.int d), cutM n M1 with
    | some d', some M' => Rs.ok d' M'
    | _, _ => .bad) = _
  unfold cutM
  rw [if_pos h]
end
def drawT : SSs := (.cons (.ife (.and (.val (.cmp .lt (.var 3) (.blt .len (.cons (.ix (.var 0) (.str "cells")) .nil)))) (.val (.cmp .ge (.var 4) (.bin false .pow (.int 10) (.int 18)))))
  (.cons (.sub (.var 0) (.str "left") (.bin false .fdiv (.bin false .sub (.var 4) (.bin false .pow (.int 10) (.int 18))) (.var 1)))
  (.cons (.ret (.bin false .mod (.blt .int (.cons (.bin false .sub (.var 4) (.bin false .pow (.int 10) (.int 18))) .nil)) (.var 1)))
  .nil))
  .nil)
  (.cons (.set 5 (.bin false .add (.bin false .add (.bin false .add (.bin false .mul (.bin false .mod (.blt .int (.cons (.var 4) .nil)) (.int 2147483629)) (.int 48271)) (.bin false .mul (.bin false .mul (.int 69621) (.var 3)) (.var 3))) (.bin false .mul (.int 59) (.var 3))) (.int 11)))
  (.cons (.set 5 (.bin false .mod (.blt .int (.cons (.var 5) .nil)) (.int 2147483647)))
  (.cons (.set 5 (.bin false .mod (.blt .int (.cons (.bin false .mul (.var 5) (.bin false .add (.var 5) (.int 40014))) .nil)) (.int 2147483587)))
  (.cons (.ret (.bin false .mod (.blt .int (.cons (.bin false .fdiv (.bin false .mod (.blt .int (.cons (.bin false .mul (.var 5) (.var 5)) .nil)) (.int 2147483563)) (.int 64)) .nil)) (.var 1)))
  .nil)))))
def drawB : SSs := (.cons (.ife (.val (.cmp .ge (.ix (.var 0) (.str "left")) (.var 1)))
  (.cons (.set 2 (.bin false .mod (.blt .int (.cons (.ix (.var 0) (.str "left")) .nil)) (.var 1)))
  (.cons (.sub (.var 0) (.str "left") (.bin false .fdiv (.ix (.var 0) (.str "left")) (.var 1)))
  (.cons (.ret (.var 2))
  .nil)))
  .nil)
  (.cons (.set 3 (.ix (.var 0) (.str "at")))
  (.cons (.sub (.var 0) (.str "at") (.bin false .add (.var 3) (.int 1)))
  (.cons (.set 4 (.bin false .add (.bin false .mul (.int 41) (.var 3)) (.int 13)))
  (.cons (.ife (.val (.cmp .ne (.ix (.var 0) (.str "cells")) (.lst false .nil)))
  (.cons (.set 4 (.ix (.ix (.var 0) (.str "cells")) (.bin false .mod (.blt .int (.cons (.var 3) .nil)) (.blt .len (.cons (.ix (.var 0) (.str "cells")) .nil)))))
  .nil)
  .nil)
  drawT)))))
def drawF : FnD := ⟨["pen", "many"], ["pen", "many", "digit", "at", "cell", "mixed"], drawB, false⟩
theorem mulOk_of {x y : Int} (hx : x.natAbs < 2 ^ 200000) (hy : y.natAbs < 2 ^ 200000) : mulOk x y = true := by
  have key : ∀ z : Int, z.natAbs < 2 ^ 200000 → z.natAbs.log2 < 200000 := fun z hz => by
    by_cases h0 : z.natAbs = 0
    · rw [h0]
      decide
    · exact (Nat.log2_lt h0).mpr hz
  unfold mulOk
  rw [decide_eq_true_eq]
  have := key x hx
  have := key y hy
  omega
theorem small_abs {x : Int} {n : Nat} (h : x.natAbs < 2 ^ n) (hn : n ≤ 200000) : x.natAbs < 2 ^ 200000 := Nat.lt_of_lt_of_le h (Nat.pow_le_pow_right (by decide) hn)
theorem mulOk_s {x y : Int} (hx : x.natAbs < 2 ^ 200) (hy : y.natAbs < 2 ^ 200) : mulOk x y = true := mulOk_of (small_abs hx (by decide)) (small_abs hy (by decide))
theorem divOk_s {x : Int} (h0 : 1 ≤ x) (h : x < 2 ^ 60) : divOk x = true := by
  unfold divOk
  have h1 : x.natAbs ≠ 0 := by omega
  have h2 : x.natAbs.log2 < 60 := (Nat.log2_lt h1).mpr (by omega)
  rw [Bool.and_eq_true, decide_eq_true_eq, decide_eq_true_eq]
  exact ⟨by omega, by omega⟩
theorem drawT_ok (Γ : MP.Env) {M : Mem} {i : Nat} {ns : List Int} {a l many z : Int} (hi : M[i]? = some (pen (ns.map D.int) (a + 1) l)) (h1 : 1 ≤ many) (h2 : many < 2 ^ 60) (ha : 0 ≤ a) (hb : a < 2 ^ 40) :
    ∃ d l', evSs Γ drawT [some (.ref i), some (.int many), none, some (.int a), some (.int z), none] M = .rt (.int d) (M.set i (pen (ns.map D.int) (a + 1) l')) ∧ 0 ≤ d ∧ d < many := by
  have e0 : 0 < many := by omega
  have dv := divOk_s h1 h2
  have d64 : divOk 64 = true := by decide
  have p18 : powOk 10 18 = true := by decide
  have q1 := ix_cells hi
  have md : ∀ x : Int, 0 ≤ x % many ∧ x % many < many := fun x => ⟨Int.emod_nonneg _ (by omega), Int.emod_lt_of_pos _ e0⟩
  have fin : ∀ {g : RS}, g = RS.rt (.int ((z - 10 ^ (18 : Int).toNat) % many)) (M.set i (pen (ns.map D.int) (a + 1) ((z - 10 ^ (18 : Int).toNat) / many))) → ∃ d l', g = .rt (.int d) (M.set i (pen (ns.map D.int) (a + 1) l')) ∧ 0 ≤ d ∧ d < many := fun h => ⟨_, _, h, (md _).1, (md _).2⟩
  have same : M.set i (pen (ns.map D.int) (a + 1) l) = M := by
    obtain ⟨hl, e⟩ := List.getElem?_eq_some_iff.mp hi
    rw [← e, List.set_getElem_self]
  have fin2 : ∀ {g : RS}, (∃ x : Int, g = RS.rt (.int (x % many)) M) → ∃ d l', g = .rt (.int d) (M.set i (pen (ns.map D.int) (a + 1) l')) ∧ 0 ≤ d ∧ d < many := fun ⟨x, h⟩ => ⟨_, l, by rw [same]; exact h, (md _).1, (md _).2⟩
  have bd : ∀ x m : Int, 0 < m → m < 2 ^ 40 → (x % m).natAbs < 2 ^ 40 := fun x m h0 h => by
    have := Int.emod_nonneg x (show m ≠ 0 by omega)
    have := Int.emod_lt_of_pos x h0
    omega
  have m1 : mulOk (z % 2147483629) 48271 = true := mulOk_s (by have := bd z 2147483629 (by decide) (by decide); omega) (by decide)
  have m2 : mulOk 69621 a = true := mulOk_s (by decide) (by omega)
  have m3 : mulOk (69621 * a) a = true := mulOk_s (by omega) (by omega)
  have m4 : mulOk 59 a = true := mulOk_s (by decide) (by omega)
  have m5 : ∀ x : Int, mulOk (x % 2147483647) (x % 2147483647 + 40014) = true := fun x => mulOk_s (by have := bd x 2147483647 (by decide) (by decide); omega) (by have := bd x 2147483647 (by decide) (by decide); omega)
  have m6 : ∀ x : Int, mulOk (x % 2147483587) (x % 2147483587) = true := fun x => mulOk_s (by have := bd x 2147483587 (by decide) (by decide); omega) (by have := bd x 2147483587 (by decide) (by decide); omega)
  unfold drawT
  by_cases c1 : a < (ns.length : Int)
  · by_cases c2 : (10 : Int) ^ (18 : Int).toNat ≤ z
    · have q2 := sub_left (v := (z - 10 ^ (18 : Int).toNat) / many) hi
      refine fin ?_
      clear fin fin2 md bd same
      walk_at "ev"
    · refine fin2 ?_
      clear fin fin2 md bd same
      walk_at "ev"
      exact ⟨_, rfl⟩
  · refine fin2 ?_
    clear fin fin2 md bd same
    walk_at "ev"
    exact ⟨_, rfl⟩
theorem drawB_ok (Γ : MP.Env) {M : Mem} {i : Nat} {ns : List Int} {a l many : Int} (hi : M[i]? = some (pen (ns.map D.int) a l)) (h1 : 1 ≤ many) (h2 : many < 2 ^ 60) (ha : 0 ≤ a) (hb : a < 2 ^ 40) :
    ∃ d a' l', evSs Γ drawB [some (.ref i), some (.int many), none, none, none, none] M = .rt (.int d) (M.set i (pen (ns.map D.int) a' l')) ∧ 0 ≤ d ∧ d < many ∧ 0 ≤ a' ∧ a' ≤ a + 1 := by
  have e0 : 0 < many := by omega
  unfold drawB
  by_cases hl : many ≤ l
  · refine ⟨l % many, a, l / many, ?_, Int.emod_nonneg _ (by omega), Int.emod_lt_of_pos _ e0, ha, by omega⟩
    have dv := divOk_s h1 h2
    have q1 := ix_left hi
    have q2 := sub_left (v := l / many) hi
    walk_at "ev"
  · have hi2 := set_pen (o := pen (ns.map D.int) (a + 1) l) hi
    have m1 : mulOk 41 a = true := mulOk_s (by decide) (by omega)
    have q1 := ix_left hi
    have q2 := ix_at hi
    have q3 := sub_at (v := a + 1) hi
    have q4 := ix_cells hi2
    have q5 : eqD (M.set i (pen (ns.map D.int) (a + 1) l)) (.lst (ns.map D.int)) (.lst []) = some ns.isEmpty := eq_nil _ _
    have z0 : 0 ≤ sizeLine := Nat.zero_le _
    have fin : ∀ {g : RS}, (∃ z, g = evSs Γ drawT [some (.ref i), some (.int many), none, some (.int a), some (.int z), none] (M.set i (pen (ns.map D.int) (a + 1) l))) → ∃ d a' l', g = .rt (.int d) (M.set i (pen (ns.map D.int) a' l')) ∧ 0 ≤ d ∧ d < many ∧ 0 ≤ a' ∧ a' ≤ a + 1 := fun ⟨z, h⟩ => by
      obtain ⟨d, l', h3, h4, h5⟩ := drawT_ok Γ (z := z) hi2 h1 h2 ha hb
      rw [List.set_set] at h3
      exact ⟨d, a + 1, l', h.trans h3, h4, h5, by omega, by omega⟩
    refine fin ?_
    clear fin
    cases ns with
    | nil =>
      refine ⟨41 * a + 13, ?_⟩
      walk_at "ev"
      simp only [List.isEmpty_nil, Bool.not_true, k_iff, ss_nil, sg_nx]
    | cons n ns =>
      have hlen : 0 < ((n :: ns).length : Int) := by simp
      obtain ⟨j, hj, ej⟩ : ∃ j : Nat, j < (n :: ns).length ∧ a % ((n :: ns).length : Int) = (j : Int) := by
        have g0 := Int.emod_nonneg a (b := ((n :: ns).length : Int)) (by omega)
        have g1 := Int.emod_lt_of_pos a hlen
        exact ⟨(a % ((n :: ns).length : Int)).toNat, by omega, by omega⟩
      have at_ : atI ((n :: ns).map D.int) (a % ((n :: ns).length : Int)) = some (.int (n :: ns)[j]) := by
        rw [ej]
        exact atI_nat (by rw [List.getElem?_map, List.getElem?_eq_getElem hj]; rfl)
      refine ⟨(n :: ns)[j], ?_⟩
      have q6 : (n :: ns).isEmpty = false := rfl
      have hlen2 : 0 < (((n :: ns).map D.int).length : Int) := by simpa using hlen
      have at2 : atI ((n :: ns).map D.int) (a % (((n :: ns).map D.int).length : Int)) = some (.int (n :: ns)[j]) := by
        rw [List.length_map]
        exact at_
      generalize (n :: ns)[j] = z at *
      generalize (n :: ns) = nn at *
      clear ej hj at2 hlen2
      walk_at "ev"

/-! ### what defs hand back -/
mutual
theorem frz_pure {r : Nat → Option D} : ∀ {d : D}, lowD 0 d = true → frzD r d = some d
  | .non, _ => rfl
  | .bl _, _ => rfl
  | .int _, _ => rfl
  | .str _, _ => rfl
  | .ty _, _ => rfl
  | .scr _, _ => rfl
  | .lst xs, h => by
    show (frzDs r xs).map D.lst = _
    rw [frz_pures (show lowDs 0 xs = true from h)]
    rfl
  | .tup xs, h => by
    show (frzDs r xs).map D.tup = _
    rw [frz_pures (show lowDs 0 xs = true from h)]
    rfl
  | .obj c ns ds, h => by
    show (frzDs r ds).map (D.obj c ns) = _
    rw [frz_pures (show lowDs 0 ds = true from h)]
    rfl
  | .ref i, h => by
    have := of_decide_eq_true (show decide (i < 0) = true from h)
    omega
theorem frz_pures {r : Nat → Option D} : ∀ {ds : List D}, lowDs 0 ds = true → frzDs r ds = some ds
  | [], _ => rfl
  | d :: ds, h => by
    have h := Bool.and_eq_true_iff.mp (show (lowD 0 d && lowDs 0 ds) = true from h)
    show (match frzD r d, frzDs r ds with
      | some e, some es => some (e :: es)
      | _, _ => none) = _
    rw [frz_pure h.1, frz_pures h.2]
end
theorem low_mem {n : Nat} : ∀ {ds : List D} {d : D}, lowDs n ds = true → d ∈ ds → lowD n d = true
  | e :: ds, d, h, m => by
    have h := Bool.and_eq_true_iff.mp (show (lowD n e && lowDs n ds) = true from h)
    rcases List.mem_cons.mp m with rfl | m
    · exact h.1
    · exact low_mem h.2 m
theorem low_ints (n : Nat) : ∀ ns : List Int, lowDs n (ns.map D.int) = true
  | [] => rfl
  | _ :: r => low_ints n r
theorem low_of {n : Nat} : ∀ {ds : List D}, (∀ d ∈ ds, lowD n d = true) → lowDs n ds = true
  | [], _ => rfl
  | d :: ds, h => Bool.and_eq_true_iff.mpr ⟨h d (by simp), low_of fun e m => h e (by simp [m])⟩
theorem fin_pure {M1 : Mem} {n : Nat} {d : D} (h : M1.length = n) (hd : lowD 0 d = true) : finE false n (.rt d M1) = .ok d M1 := by
  show (match frzD (frzR M1 n 64) d, cutM n M1 with
    | some d', some M' => Rs.ok d' M'
    | _, _ => .bad) = _
  unfold cutM
  rw [if_pos h, frz_pure hd]
theorem fin_non {M1 : Mem} {n : Nat} {r : Rho} (h : M1.length = n) : finE false n (.nx r M1) = .ok .non M1 := by
  show (match cutM n M1 with
    | some M' => Rs.ok D.non M'
    | none => .bad) = _
  unfold cutM
  rw [if_pos h]
theorem callF_eq {Γ : MP.Env} {fd : FnD} {ds : List D} {M : Mem} {d : D} {M1 : Mem} (hl : ds.length = fd.ps.length) (hk : fd.keep = false) (hb : evSs Γ fd.body (startD fd.N ds) M = .rt d M1) (h : M1.length = M.length) (hd : lowD 0 d = true) : callF Γ fd ds M = .ok d M1 := by
  unfold callF
  rw [if_pos hl, hb, hk, fin_pure h hd]
/-! ### the pen's defs, called -/
/-- the pen at i: at most c draws -/
def PenAt (M : Mem) (i : Nat) (c : Int) : Prop := ∃ (ns : List Int) (a l : Int), M[i]? = some (pen (ns.map D.int) a l) ∧ 0 ≤ a ∧ a ≤ c
def Drawn (M : Mem) (i : Nat) (M' : Mem) : Prop := ∃ (ns : List Int) (a l : Int), M' = M.set i (pen (ns.map D.int) a l)
theorem draw_call {f : List D → Mem → Rs D} {Γ : MP.Env} (hf : f = callF Γ drawF) {M : Mem} {i : Nat} {c many : Int} (hp : PenAt M i c) (hc : c < 2 ^ 40) (h1 : 1 ≤ many) (h2 : many < 2 ^ 60) :
    ∃ d M', f [.ref i, .int many] M = .ok (.int d) M' ∧ 0 ≤ d ∧ d < many ∧ PenAt M' i (c + 1) ∧ Drawn M i M' := by
  obtain ⟨ns, a, l, hi, a0, a1⟩ := hp
  obtain ⟨d, a', l', e, d0, d1, b0, b1⟩ := drawB_ok Γ hi h1 h2 a0 (by omega)
  refine ⟨d, _, ?_, d0, d1, ⟨ns, a', l', set_pen hi, b0, by omega⟩, ⟨ns, a', l', rfl⟩⟩
  rw [hf]
  exact callF_eq (fd := drawF) rfl rfl e (List.length_set ..) rfl
/-- over the items, one by one -/
theorem forGo_ind {step : D → Rho → Mem → RS} (P : Nat → Rho → Mem → Prop) : ∀ (ds : List D) (n : Nat) {r : Rho} {M : Mem}, P n r M → (∀ k d r M, ds[k]? = some d → P (n + k) r M → ∃ r' M', (step d r M = .nx r' M' ∨ step d r M = .ct r' M') ∧ P (n + k + 1) r' M') →
    ∃ r' M', forGo step ds r M = .nx r' M' ∧ P (n + ds.length) r' M'
  | [], n, r, M, h, _ => ⟨r, M, rfl, h⟩
  | d :: ds, n, r, M, h, hs => by
    obtain ⟨r1, M1, e, h1⟩ := hs 0 d r M rfl h
    obtain ⟨r2, M2, e2, h2⟩ := forGo_ind P ds (n + 1) h1 fun k d r M hd hp => by
      have e1 : n + 1 + k = n + (k + 1) := by omega
      rw [e1] at hp ⊢
      exact hs (k + 1) d r M hd hp
    refine ⟨r2, M2, ?_, ?_⟩
    · rcases e with e | e
      · show (match step d r M with
          | .nx r M => forGo step ds r M
          | .ct r M => forGo step ds r M
          | .bk r M => .nx r M
          | y => y) = _
        rw [e]
        exact e2
      · show (match step d r M with
          | .nx r M => forGo step ds r M
          | .ct r M => forGo step ds r M
          | .bk r M => .nx r M
          | y => y) = _
        rw [e]
        exact e2
    · rw [List.length_cons]
      have e1 : n + (ds.length + 1) = n + 1 + ds.length := by omega
      rw [e1]
      exact h2
def pickF : FnD := ⟨["pen", "some"], ["pen", "some"], (.cons (.ret (.ix (.var 1) (.call "_law_draw" (.cons (.var 0) (.cons (.blt .len (.cons (.var 1) .nil)) .nil)))))
  .nil), false⟩
theorem Drawn.len {M M' : Mem} {i : Nat} (h : Drawn M i M') : M'.length = M.length := by
  obtain ⟨ns, a, l, rfl⟩ := h
  rw [List.length_set]
/-- one of a list -/
theorem pick_call {f : List D → Mem → Rs D} {Γ Γ' : MP.Env} (hf : f = callF Γ pickF) (hd : Γ.cs.f "_law_draw" = callF Γ' drawF) {M : Mem} {i : Nat} {c : Int} {ds : List D} (hp : PenAt M i c) (hc : c < 2 ^ 40) (h1 : 1 ≤ ds.length) (h2 : ds.length < 2 ^ 60) (hl : lowDs 0 ds = true) :
    ∃ d M', f [.ref i, .lst ds] M = .ok d M' ∧ d ∈ ds ∧ PenAt M' i (c + 1) ∧ Drawn M i M' := by
  obtain ⟨k, M', e, k0, k1, hp', hd'⟩ := draw_call hd hp hc (many := (ds.length : Int)) (by omega) (by omega)
  obtain ⟨j, rfl⟩ : ∃ j : Nat, k = (j : Int) := ⟨k.toNat, by omega⟩
  have hj : j < ds.length := by omega
  have at_ : atI ds (j : Int) = some ds[j] := atI_nat (by rw [List.getElem?_eq_getElem hj])
  have m : ds[j] ∈ ds := List.getElem_mem hj
  refine ⟨ds[j], M', ?_, m, hp', hd'⟩
  rw [hf]
  have st : startD pickF.N [.ref i, .lst ds] = [some (.ref i), some (.lst ds)] := rfl
  refine callF_eq (fd := pickF) rfl rfl ?_ hd'.len (low_mem hl m)
  rw [st]
  unfold pickF
  generalize ds[j] = z at *
  clear hf hp hp' hd' hd st m
  walk_at "ev"

/-! ### all of a list, in an order of the pen's -/
section
variable {M : Mem} {A B A' : MO}
theorem at2a : (M ++ [A, B])[M.length]? = some A := by simp
theorem at2b : (M ++ [A, B])[M.length + 1]? = some B := by
  rw [List.getElem?_append_right (by omega)]
  simp
theorem set2a : (M ++ [A, B]).set M.length A' = M ++ [A', B] := by
  rw [List.set_append_right _ _ (Nat.le_refl _), Nat.sub_self]
  rfl
theorem set2b : (M ++ [A, B]).set (M.length + 1) A' = M ++ [A, A'] := by
  rw [List.set_append_right _ _ (by omega), show M.length + 1 - M.length = 1 by omega]
  rfl
theorem Drawn.app {M M' : Mem} {i : Nat} {X : Mem} (hi : i < M.length) (h : Drawn (M ++ X) i M') : ∃ Mq, M' = Mq ++ X ∧ Drawn M i Mq := by
  obtain ⟨ns, a, l, rfl⟩ := h
  exact ⟨_, List.set_append_left _ _ hi, ns, a, l, rfl⟩
theorem PenAt.app {M X : Mem} {i : Nat} {c : Int} (hi : i < M.length) : PenAt (M ++ X) i c ↔ PenAt M i c := by
  unfold PenAt
  rw [List.getElem?_append_left hi]
theorem PenAt.lt {M : Mem} {i : Nat} {c : Int} (h : PenAt M i c) : i < M.length := by
  obtain ⟨ns, a, l, h, _⟩ := h
  exact (List.getElem?_eq_some_iff.mp h).1
theorem Drawn.refl {M : Mem} {i : Nat} {c : Int} (h : PenAt M i c) : Drawn M i M := by
  obtain ⟨ns, a, l, h, _⟩ := h
  refine ⟨ns, a, l, ?_⟩
  obtain ⟨hl, e⟩ := List.getElem?_eq_some_iff.mp h
  rw [← e, List.set_getElem_self]
theorem Drawn.trans {M M1 M2 : Mem} {i : Nat} (h : Drawn M i M1) (h2 : Drawn M1 i M2) : Drawn M i M2 := by
  obtain ⟨ns, a, l, rfl⟩ := h
  obtain ⟨ns2, a2, l2, rfl⟩ := h2
  exact ⟨ns2, a2, l2, List.set_set ..⟩
theorem pen_low (n : Nat) (ns : List Int) (a l : Int) : lowM n (pen (ns.map D.int) a l) = true := by
  show (lowD n (.lst (ns.map D.int)) && (lowD n (.int a) && (lowD n (.int l) && true))) = true
  rw [show lowD n (.lst (ns.map D.int)) = lowDs n (ns.map D.int) from rfl, low_ints]
  rfl
theorem Drawn.low {M M' : Mem} {i n : Nat} (h : Drawn M i M') (hM : M.all (lowM n) = true) : M'.all (lowM n) = true := by
  obtain ⟨ns, a, l, rfl⟩ := h
  rw [List.all_eq_true] at hM ⊢
  intro x hx
  rcases List.mem_or_eq_of_mem_set hx with h | rfl
  · exact hM x h
  · exact pen_low ..
end
theorem perm_erase {α : Type} : ∀ {l : List α} {j : Nat} (h : j < l.length), ([l[j]] ++ l.eraseIdx j).Perm l
  | _ :: _, 0, _ => .refl _
  | a :: l, j + 1, h => by
    have h' : j < l.length := by simpa using h
    refine (List.Perm.swap a l[j] (l.eraseIdx j)).trans ?_
    exact List.Perm.cons a (perm_erase h')
def shufF : FnD := ⟨["pen", "some"], ["pen", "some", "left", "found", "k"], (.cons (.par [2, 3] (.cons (.blt (.list true) (.cons (.var 1) .nil)) (.cons (.lst true .nil) .nil)))
  (.cons (.for_ (.nm 4) (.rng1 (.blt .len (.cons (.var 2) .nil)))
  (.cons (.ex (.meth .append (.var 3) (.cons (.meth .popAt (.var 2) (.cons (.call "_law_draw" (.cons (.var 0) (.cons (.blt .len (.cons (.var 2) .nil)) .nil))) .nil)) .nil)))
  .nil))
  (.cons (.ret (.var 3))
  .nil))), false⟩
theorem shuf_call {f : List D → Mem → Rs D} {Γ Γ' : MP.Env} (hf : f = callF Γ shufF) (hd : Γ.cs.f "_law_draw" = callF Γ' drawF) {M : Mem} {i : Nat} {c : Int} {ds : List D} (hp : PenAt M i c) (hc : c + ds.length < 2 ^ 40) (h2 : ds.length < 2 ^ 20) (hl : lowDs 0 ds = true) (hM : M.all (lowM M.length) = true) :
    ∃ zs M', f [.ref i, .lst ds] M = .ok (.lst zs) M' ∧ zs.Perm ds ∧ PenAt M' i (c + ds.length) ∧ Drawn M i M' := by
  have hi := hp.lt
  have hz : sizeLine = 16777216 := sizeLine_eq
  have r0 : rngOk 0 (ds.length : Int) = true := by
    unfold rngOk
    simp only [Bool.and_eq_true, decide_eq_true_eq]
    omega
  have rlen : (rngD ((ds.length : Int)).toNat 0).length = ds.length := by
    unfold rngD
    simp
  obtain ⟨r', M2, eL, Mp, left, found, kk, eM, hD, hP, pm, ln, er⟩ := forGo_ind (step := stepF Γ (.nm 4) (.cons (.ex (.meth .append (.var 3) (.cons (.meth .popAt (.var 2) (.cons (.call "_law_draw" (.cons (.var 0) (.cons (.blt .len (.cons (.var 2) .nil)) .nil))) .nil)) .nil))) .nil))
    (fun k r M2 => ∃ Mp left found kk, M2 = Mp ++ [.lst left, .lst found] ∧ Drawn M i Mp ∧ PenAt Mp i (c + k) ∧ (found ++ left).Perm ds ∧ left.length + k = ds.length ∧ r = [some (.ref i), some (.lst ds), some (.ref M.length), some (.ref (M.length + 1)), kk])
    (rngD ((ds.length : Int)).toNat 0) 0 (r := [some (.ref i), some (.lst ds), some (.ref M.length), some (.ref (M.length + 1)), none]) (M := M ++ [.lst ds, .lst []])
    ⟨M, ds, [], none, rfl, .refl hp, by simpa using hp, by simp, by simp, rfl⟩ (fun k d r M2 hk ⟨Mp, left, found, kk, eM, hD, hP, pm, ln, er⟩ => by
      have hk' : k < ds.length := by
        have := (List.getElem?_eq_some_iff.mp hk).1
        omega
      simp only [Nat.zero_add] at ln hP ⊢
      have hip : i < Mp.length := hP.lt
      obtain ⟨z, M3, e1, z0, z1, hP3, hD3⟩ := draw_call hd (M := Mp ++ [.lst left, .lst found]) (many := (left.length : Int)) ((PenAt.app hip).mpr hP) (by omega) (by omega) (by omega)
      obtain ⟨Mq, rfl, hDq⟩ := hD3.app hip
      have hqp : Mq.length = Mp.length := hDq.len
      rw [PenAt.app (by omega)] at hP3
      obtain ⟨j, rfl⟩ : ∃ j : Nat, z = (j : Int) := ⟨z.toNat, by omega⟩
      have hj : j < left.length := by omega
      have lM : Mp.length = M.length := hD.len
      have g1 : lenD (Mp ++ [.lst left, .lst found]) (.ref M.length) = .ok (.int left.length) (Mp ++ [.lst left, .lst found]) := by
        rw [← lM]
        unfold lenD
        simp only [at2a]
      have g2 : tyD (Mp ++ [.lst left, .lst found]) .append (.ref (M.length + 1)) = true := by
        rw [← lM]
        unfold tyD lstOf
        simp only [at2b]
        rfl
      have g3 : tyD (Mp ++ [.lst left, .lst found]) .popAt (.ref M.length) = true := by
        rw [← lM]
        unfold tyD lstOf
        simp only [at2a]
        rfl
      have g4 : methD (Mq ++ [.lst left, .lst found]) .popAt (.ref M.length) [.int (j : Int)] = .ok left[j] (Mq ++ [.lst (left.eraseIdx j), .lst found]) := by
        rw [← lM, ← hqp]
        unfold methD updL
        simp only [at2a]
        rw [if_pos ⟨by omega, by omega⟩]
        have e2 : seqIndex? (j : Int) left.length = some j := by
          unfold seqIndex?
          split <;> simp <;> omega
        rw [e2]
        simp only [Option.bind_some, List.getElem?_eq_getElem hj, Option.map_some, opt, set2a]
      have g5 : methD (Mq ++ [.lst (left.eraseIdx j), .lst found]) .append (.ref (M.length + 1)) [left[j]] = .ok .non (Mq ++ [.lst (left.eraseIdx j), .lst (found ++ [left[j]])]) := by
        rw [← lM, ← hqp]
        unfold methD updL
        simp only [at2b]
        have : found.length < sizeLine := by
          have := pm.length_eq
          rw [List.length_append] at this
          omega
        rw [if_pos this]
        simp only [opt, set2b]
      refine ⟨[some (.ref i), some (.lst ds), some (.ref M.length), some (.ref (M.length + 1)), some d], _, .inl (?_ : _ = RS.nx _ (Mq ++ [.lst (left.eraseIdx j), .lst (found ++ [left[j]])])), Mq, _, _, some d, rfl, hD.trans hDq, ?_, ?_, ?_, rfl⟩
      · rw [k_step, er, eM]
        clear hf hd hp hc hl hM hk hD hP pm hP3 hDq hD3 z0 z1
        walk_at "ev"
      · have e3 : (c + (k : Nat) + 1 : Int) = c + ((k + 1 : Nat) : Int) := by omega
        rw [← e3]
        exact hP3
      · refine List.Perm.trans ?_ pm
        rw [List.append_assoc]
        refine List.Perm.append_left _ ?_
        exact perm_erase hj
      · rw [List.length_eraseIdx_of_lt hj]
        omega)
  rw [rlen, Nat.zero_add] at hP ln
  have hl0 : left = [] := List.eq_nil_of_length_eq_zero (by omega)
  subst hl0
  rw [List.append_nil] at pm
  have lM : Mp.length = M.length := hD.len
  refine ⟨found, Mp, ?_, pm, hP, hD⟩
  have g1 : lenD (M ++ [.lst ds] ++ [.lst []]) (.ref M.length) = .ok (.int ds.length) (M ++ [.lst ds] ++ [.lst []]) := by
    rw [List.append_assoc]
    unfold lenD
    simp only [show (M ++ ([MO.lst ds] ++ [MO.lst []]))[M.length]? = some (.lst ds) from at2a]
  have e : evSs Γ shufF.body [some (.ref i), some (.lst ds), none, none, none] M = .rt (.ref (M.length + 1)) (Mp ++ [.lst [], .lst found]) := by
    rw [er, eM] at eL
    have l1 : (M ++ [MO.lst ds]).length = M.length + 1 := by simp
    have z0 : 0 ≤ sizeLine := Nat.zero_le _
    have ap : M ++ [MO.lst ds] ++ [MO.lst []] = M ++ [.lst ds, .lst []] := by simp
    rw [ap] at g1
    have h1 : evS Γ (.par [2, 3] (.cons (.blt (.list true) (.cons (.var 1) .nil)) (.cons (.lst true .nil) .nil))) [some (.ref i), some (.lst ds), none, none, none] M =
        .nx [some (.ref i), some (.lst ds), some (.ref M.length), some (.ref (M.length + 1)), none] (M ++ [.lst ds, .lst []]) := by
      clear hf hd hp hc hl hM pm hP hD er eM rlen hz eL r0 g1
      walk_at "ev"
    have h2 : evI Γ (.rng1 (.blt .len (.cons (.var 2) .nil))) [some (.ref i), some (.lst ds), some (.ref M.length), some (.ref (M.length + 1)), none] (M ++ [.lst ds, .lst []]) = .ok (.vals (rngD ((ds.length : Int)).toNat 0)) (M ++ [.lst ds, .lst []]) := by
      have h3 : evE Γ (.blt .len (.cons (.var 2) .nil)) [some (.ref i), some (.lst ds), some (.ref M.length), some (.ref (M.length + 1)), none] (M ++ [.lst ds, .lst []]) = .ok (.int ds.length) (M ++ [.lst ds, .lst []]) := by
        clear hf hd hp hc hl hM pm hP hD er eM rlen hz eL h1 r0
        walk_at "ev"
      rw [i_r1, h3, rb_ok, k_r1, if_pos r0]
    show evSs Γ (.cons _ (.cons _ (.cons _ .nil))) _ _ = _
    rw [ss_cons, h1, sg_nx, ss_cons, s_for', h2, rg_ok, k_for, eL, sg_nx]
    rfl
  rw [hf]
  unfold callF
  rw [if_pos (show [D.ref i, D.lst ds].length = shufF.ps.length from rfl)]
  show finE false M.length (evSs Γ shufF.body [some (.ref i), some (.lst ds), none, none, none] M) = _
  rw [e]
  show (match frzD (frzR (Mp ++ [.lst [], .lst found]) M.length 64) (.ref (M.length + 1)), cutM M.length (Mp ++ [.lst [], .lst found]) with
    | some d', some M' => Rs.ok d' M'
    | _, _ => .bad) = _
  have hfl : lowDs 0 found = true := low_of fun d hd => low_mem hl (pm.mem_iff.mp hd)
  have e1 : frzD (frzR (Mp ++ [.lst [], .lst found]) M.length 64) (.ref (M.length + 1)) = some (.lst found) := by
    show frzR (Mp ++ [.lst [], .lst found]) M.length (63 + 1) (M.length + 1) = _
    unfold frzR
    rw [if_neg (by omega), ← lM]
    simp only [at2b]
    rw [frz_pures hfl]
    rfl
  have e2 : cutM M.length (Mp ++ [.lst [], .lst found]) = some Mp := by
    unfold cutM
    rw [if_neg (by simp; omega), ← lM, List.take_left, if_pos ⟨by rw [lM]; exact hD.low hM, by simp⟩]
  rw [e1, e2]
end MX

/-! More steps of the evaluator; rows of numbers; the package's defs on rows (maps, words). -/
namespace MX
open MP
open PySem PySem.Spec PyProof.Rows L2

section
variable (Γ : MP.Env) (m : Bool) (a b c e : SE) (r : Rho) (x y : D) (M : Mem) (es : SEs) (xs : List D) (i : Nat)
def kMk (cl : Str) (xs : List D) (M : Mem) : Rs D := mkI m M.length (Γ.cs.f (mkey cl "__init__") (.ref M.length :: xs) (M ++ [.ins cl [] []]))
theorem e_make (cl : Str) : evE Γ (.make m cl es) r M = (evEs Γ es r M).bind (kMk Γ m cl) := rfl
theorem k_mk (cl : Str) : kMk Γ m cl xs M = mkI m M.length (Γ.cs.f (mkey cl "__init__") (.ref M.length :: xs) (M ++ [.ins cl [] []])) := rfl
def kCm2 (f : Str) (x : D) (cl : Str) (xs : List D) (M : Mem) : Rs D := Γ.cs.f (mkey cl f) (x :: xs) M
def kCm1 (f : Str) (x : D) (M : Mem) (cl : Str) : Rs D := (evEs Γ es r M).bind (kCm2 Γ f x cl)
def kCm (f : Str) (x : D) (M : Mem) : Rs D := opt (mclsD Γ.g M x f) (kCm1 Γ r es f x M)
theorem e_cm (f : Str) : evE Γ (.cm f a es) r M = (evE Γ a r M).bind (kCm Γ r es f) := rfl
theorem k_cm (f : Str) : kCm Γ r es f x M = opt (mclsD Γ.g M x f) (kCm1 Γ r es f x M) := rfl
theorem k_cm1 (f cl : Str) : kCm1 Γ r es f x M cl = (evEs Γ es r M).bind (kCm2 Γ f x cl) := rfl
theorem k_cm2 (f cl : Str) : kCm2 Γ f x cl xs M = Γ.cs.f (mkey cl f) (x :: xs) M := rfl
def kFld (f : Str) (x : D) (M : Mem) : Rs D := fldD Γ.g M x f
theorem e_fld (f : Str) : evE Γ (.fld a f) r M = (evE Γ a r M).bind (kFld Γ f) := rfl
theorem k_fld (f : Str) : kFld Γ f x M = fldD Γ.g M x f := rfl
def kLc (own : List Nat) (g : SG) (cc : SC) (js : Its) (M : Mem) : Rs D := match js with
  | .vals xs => if xs.length ≤ sizeLine then (noExc (lcGo (fun d r M => asg M g d r) (evC Γ cc) (evE Γ e) (wipeD r own) xs [] M)).bind fun ys M => mkL m ys M else .bad
  | .at_ i n en => if n ≤ sizeLine then (noExc (lcAt (fun d r M => asg M g d r) (evC Γ cc) (evE Γ e) (wipeD r own) i en n 0 [] M)).bind fun ys M => mkL m ys M else .bad
theorem e_lc (own : List Nat) (g : SG) (it : SI) (cc : SC) : evE Γ (.lc m own g it cc e) r M = (evI Γ it r M).bind (kLc Γ m e r own g cc) := rfl
theorem k_lcv (own : List Nat) (g : SG) (cc : SC) : kLc Γ m e r own g cc (.vals xs) M = if xs.length ≤ sizeLine then (noExc (lcGo (fun d r M => asg M g d r) (evC Γ cc) (evE Γ e) (wipeD r own) xs [] M)).bind (mkL m) else .bad := rfl
theorem k_lca (own : List Nat) (g : SG) (cc : SC) (n : Nat) (en : Bool) : kLc Γ m e r own g cc (.at_ i n en) M = if n ≤ sizeLine then (noExc (lcAt (fun d r M => asg M g d r) (evC Γ cc) (evE Γ e) (wipeD r own) i en n 0 [] M)).bind (mkL m) else .bad := rfl
theorem no_ok {α : Type} {z : α} : noExc (Rs.ok z M) = Rs.ok z M := rfl
def kEn (x : D) (M : Mem) : Rs Its := match itEnum M x with
  | some j => .ok j M
  | none => .bad
theorem i_en : evI Γ (.enum a) r M = (evE Γ a r M).bind kEn := rfl
theorem k_enl : kEn (.lst xs) M = .ok (.vals (MP.numbered xs)) M := rfl
theorem k_stepT (is : List Nat) (s : SSs) : stepF Γ (.tp is) s (.tup xs) r M = optS (setAll r is xs) fun r => evSs Γ s r M := rfl
theorem c_in : cmpD .in_ x y M = opt (memD M x y) fun k => .ok (.bl k) M := rfl
theorem c_notin : cmpD .notin x y M = opt (memD M x y) fun k => .ok (.bl (!k)) M := rfl
/-! a store to two items -/
section
variable (o p j : SE) (ab : D × D)
def kS6 (x y : D) (M : Mem) : RS := optS (subL M x y ab.2) fun M => .nx r M
def kS5 (x : D) (M : Mem) : RS := (evE Γ j r M).go r (kS6 r ab x)
def kS4 (M : Mem) : RS := (evE Γ p r M).go r (kS5 Γ r j ab)
def kS3 (x y : D) (M : Mem) : RS := optS (subL M x y ab.1) (kS4 Γ r p j ab)
def kS2 (x : D) (M : Mem) : RS := (evE Γ b r M).go r (kS3 Γ r p j ab x)
def kS1 (v : D) (M : Mem) : RS := optS (two v) fun ab => (evE Γ o r M).go r (kS2 Γ b r p j ab)
theorem s_sub2' : evS Γ (.sub2 o b p j e) r M = (evE Γ e r M).go r (kS1 Γ b r o p j) := rfl
theorem k_s1 (d1 d2 : D) : kS1 Γ b r o p j (.tup [d1, d2]) M = (evE Γ o r M).go r (kS2 Γ b r p j (d1, d2)) := rfl
theorem k_s2 : kS2 Γ b r p j ab x M = (evE Γ b r M).go r (kS3 Γ r p j ab x) := rfl
theorem k_s3 : kS3 Γ r p j ab x y M = optS (subL M x y ab.1) (kS4 Γ r p j ab) := rfl
theorem k_s4 : kS4 Γ r p j ab M = (evE Γ p r M).go r (kS5 Γ r j ab) := rfl
theorem k_s5 : kS5 Γ r j ab x M = (evE Γ j r M).go r (kS6 r ab x) := rfl
theorem k_s6 : kS6 r ab x y M = optS (subL M x y ab.2) fun M => .nx r M := rfl
end
theorem ss_gc (dead : List Nat) (s : SSs) : evSs Γ (.gc dead s) r M = gcR dead M.length (evSs Γ s r M) := rfl
end
/-! ### loops -/
theorem lcGo_map {Γ : MP.Env} {e : SE} {r : Rho} {i : Nat} {M : Mem} (h : D → D) : ∀ (xs acc : List D), (∀ d ∈ xs, evE Γ e (r.set i (some d)) M = .ok (h d) M) →
    lcGo (fun d r M => asg M (.nm i) d r) (evC Γ .yes) (evE Γ e) r xs acc M = .ok (acc ++ xs.map h) M
  | [], acc, _ => by rw [List.map_nil, List.append_nil]; rfl
  | d :: xs, acc, H => by
    show (evE Γ e (r.set i (some d)) M).bind (fun y M => lcGo _ _ _ r xs (acc ++ [y]) M) = _
    rw [H d (by simp)]
    show lcGo (fun d r M => asg M (.nm i) d r) (evC Γ .yes) (evE Γ e) r xs (acc ++ [h d]) M = _
    rw [lcGo_map h xs _ fun d hd => H d (by simp [hd])]
    simp
theorem lcAt_map {Γ : MP.Env} {e : SE} {r : Rho} {i j : Nat} {M : Mem} (h : D → D) {xs : List D} (hM : M[j]? = some (.lst xs)) (H : ∀ d ∈ xs, evE Γ e (r.set i (some d)) M = .ok (h d) M) : ∀ (n k : Nat) (acc : List D), k + n = xs.length →
    lcAt (fun d r M => asg M (.nm i) d r) (evC Γ .yes) (evE Γ e) r j false n k acc M = .ok (acc ++ (xs.drop k).map h) M
  | 0, k, acc, hk => by
    unfold lcAt
    simp only [hM]
    rw [if_pos (by omega), List.drop_eq_nil_of_le (by omega), List.map_nil, List.append_nil]
  | n + 1, k, acc, hk => by
    have hl : k < xs.length := by omega
    unfold lcAt
    simp only [hM, List.getElem?_eq_getElem hl]
    show (evE Γ e (r.set i (some xs[k])) M).bind (fun y M => lcAt _ _ _ r j false n (k + 1) (acc ++ [y]) M) = _
    rw [H _ (List.getElem_mem hl)]
    show lcAt (fun d r M => asg M (.nm i) d r) (evC Γ .yes) (evE Γ e) r j false n (k + 1) (acc ++ [h xs[k]]) M = _
    have e2 : (xs.drop k).map h = h xs[k] :: (xs.drop (k + 1)).map h := by
      rw [List.drop_eq_getElem_cons hl]
      rfl
    rw [lcAt_map h hM H n (k + 1) _ (by omega), e2, List.append_assoc]
    rfl
/-- a walk of a list of the store whose turns leave all as it was -/
theorem forAt_same {step : D → Rho → Mem → RS} {r : Rho} {M : Mem} {i : Nat} {xs : List D} (hM : M[i]? = some (.lst xs)) (H : ∀ d ∈ xs, step d r M = .nx r M) : ∀ (n k : Nat), k + n = xs.length → forAt step i false n k r M = .nx r M
  | 0, k, hk => by
    unfold forAt
    simp only [hM]
    rw [if_pos (by omega)]
  | n + 1, k, hk => by
    have hl : k < xs.length := by omega
    unfold forAt
    simp only [hM, List.getElem?_eq_getElem hl]
    rw [show itemAt false k xs[k] = xs[k] from rfl, H _ (List.getElem_mem hl)]
    exact forAt_same hM H n (k + 1) (by omega)
/-! ### rows of numbers -/
def rowI (n : Nat) (f : Nat → Int) : List Int := (List.range n).map f
abbrev rowD (n : Nat) (f : Nat → Int) : List D := (rowI n f).map D.int
abbrev idI (p : Nat) : Int := (p : Int)
section
variable {n : Nat} {f g : Nat → Int} {M : Mem} {m : Bool}
theorem row_len : (rowD n f).length = n := by simp [rowI]
theorem rowI_len : (rowI n f).length = n := by simp [rowI]
theorem row_get {p : Nat} (h : p < n) : (rowD n f)[p]? = some (.int (f p)) := by simp [rowI, h]
theorem row_at {p : Nat} (h : p < n) : atI (rowD n f) (p : Int) = some (.int (f p)) := atI_nat (row_get h)
theorem row_low (k : Nat) : lowDs k (rowD n f) = true := low_ints k _
theorem row_ext {f g : Nat → Int} (h : ∀ p < n, f p = g p) : rowI n f = rowI n g := List.map_congr_left fun p hp => h p (List.mem_range.mp hp)
theorem rng_row : rngD n 0 = rowD n idI := by
  unfold rngD rowD rowI
  rw [List.map_map]
  refine List.map_congr_left fun p _ => ?_
  show D.int (0 + (p : Int)) = D.int (p : Int)
  rw [Int.zero_add]
theorem rngOk_s {i j : Int} (h1 : -1000000 ≤ i) (h2 : i ≤ 1000000) (h3 : -1000000 ≤ j) (h4 : j ≤ 1000000) : rngOk i j = true := by
  unfold rngOk
  simp only [Bool.and_eq_true, decide_eq_true_eq]
  omega
theorem lrg_row (hn : n ≤ 1000) : lrgD m M (.int 0) (.int (n : Int)) = mkL m (rowD n idI) M := by
  show (if rngOk 0 (n : Int) = true ∧ ((n : Int) - 0).toNat ≤ sizeLine then mkL m (rngD ((n : Int) - 0).toNat 0) M else .bad) = _
  have h2 : ((n : Int) - 0).toNat = n := by omega
  have hz : sizeLine = 16777216 := sizeLine_eq
  rw [if_pos ⟨rngOk_s (by omega) (by omega) (by omega) (by omega), by rw [h2]; omega⟩, h2, rng_row]
/-- an item is stored -/
theorem row_set {p : Nat} {v : Int} (h : p < n) : (rowD n f).set p (.int v) = rowD n fun q => if q = p then v else f q := by
  refine List.ext_getElem? fun q => ?_
  by_cases hq : q < n
  · rw [row_get hq]
    by_cases e : q = p
    · subst e
      rw [List.getElem?_set_self (by rw [row_len]; exact h), if_pos rfl]
    · rw [List.getElem?_set_ne (Ne.symm e), row_get hq, if_neg e]
  · rw [List.getElem?_eq_none (by rw [List.length_set, row_len]; omega), List.getElem?_eq_none (by rw [row_len]; omega)]
theorem numbered_row : MP.numbered (rowD n f) = (List.range n).map fun (p : Nat) => D.tup [.int (p : Int), .int (f p)] := by
  refine List.ext_getElem? fun q => ?_
  unfold MP.numbered
  rw [List.getElem?_map, List.getElem?_zipIdx]
  by_cases hq : q < n
  · rw [row_get hq]
    simp [hq]
  · rw [List.getElem?_eq_none (by rw [row_len]; omega)]
    simp [hq]
theorem eqv_ints (ns : List Int) : PyData.eqv (.list (ns.map PyData.int)) (.list (ns.map PyData.int)) = true := SeqAt.eqv_refl _ (SeqAt.canLay_of_shaped (shaped_ints' ns))
theorem toP1_ints {a : D} {ns : List Int} (h : lstOf M a = some (ns.map D.int)) : toP1 M a = some (.list (ns.map PyData.int)) := by
  unfold lstOf at h
  split at h
  · cases h
    show (toPs M (ns.map D.int)).map PyData.list = _
    rw [toPs_ints]
    rfl
  · rename_i i
    split at h
    · rename_i ys hm
      cases h
      unfold toP1
      simp only [hm]
      rw [toPs_ints]
      rfl
    · cases h
  · cases h
/-- equal lists of numbers -/
theorem eq_rows {a b : D} {ns : List Int} (ha : lstOf M a = some (ns.map D.int)) (hb : lstOf M b = some (ns.map D.int)) : eqD M a b = some true := by
  unfold eqD
  rw [toP1_ints ha, toP1_ints hb]
  show (if _ then some (PyData.eqv _ _) else none) = _
  rw [if_pos ⟨shaped_ints' ns, shaped_ints' ns⟩, eqv_ints]
end
/-! ### what defs hand back -/
theorem fin_lst {M : Mem} {xs : List D} (hx : lowDs 0 xs = true) (hM : M.all (lowM M.length) = true) : finE false M.length (.rt (.ref M.length) (M ++ [.lst xs])) = .ok (.lst xs) M := by
  have h1 : frzD (frzR (M ++ [MO.lst xs]) M.length 64) (.ref M.length) = some (.lst xs) := by
    show frzR (M ++ [MO.lst xs]) M.length 64 M.length = _
    unfold frzR
    rw [if_neg (Nat.lt_irrefl _)]
    have : (M ++ [MO.lst xs])[M.length]? = some (.lst xs) := by simp
    simp only [this]
    rw [frz_pures hx]
    rfl
  have h2 : cutM M.length (M ++ [.lst xs]) = some M := by
    unfold cutM
    have e : (M ++ [MO.lst xs]).take M.length = M := by simp
    rw [if_neg (by simp), e, if_pos ⟨hM, by simp⟩]
  show (match frzD (frzR (M ++ [MO.lst xs]) M.length 64) (.ref M.length), cutM M.length (M ++ [.lst xs]) with
    | some d', some M' => Rs.ok d' M'
    | _, _ => .bad) = _
  rw [h1, h2]
theorem cut_app {M : Mem} {o : MO} (hM : M.all (lowM M.length) = true) : cutM M.length (M ++ [o]) = some M := by
  unfold cutM
  have e : (M ++ [o]).take M.length = M := by simp
  rw [if_neg (by simp), e, if_pos ⟨hM, by simp⟩]
theorem fin_pure1 {M : Mem} {d : D} {o : MO} (hd : lowD 0 d = true) (hM : M.all (lowM M.length) = true) : finE false M.length (.rt d (M ++ [o])) = .ok d M := by
  show (match frzD (frzR (M ++ [o]) M.length 64) d, cutM M.length (M ++ [o]) with
    | some d', some M' => Rs.ok d' M'
    | _, _ => .bad) = _
  rw [frz_pure hd, cut_app hM]
theorem fin_non1 {M : Mem} {r : Rho} {o : MO} (hM : M.all (lowM M.length) = true) : finE false M.length (.nx r (M ++ [o])) = .ok .non M := by
  show (match cutM M.length (M ++ [o]) with
    | some M' => Rs.ok D.non M'
    | none => .bad) = _
  rw [cut_app hM]
theorem callF_run {Γ : MP.Env} {fd : FnD} {ds : List D} {M : Mem} (hl : ds.length = fd.ps.length) : callF Γ fd ds M = finE fd.keep M.length (evSs Γ fd.body (startD fd.N ds) M) := if_pos hl
local macro_rules | `(tactic| walk_at "ev") => `(tactic| simp only [e_bin, k_bin, e_neg, e_not, e_cmp, k_cmp, e_cmp2, k_c1, k_c2, k_c3t, k_c3f, e_and, k_andt, k_andf, e_or, k_ort, k_orf, e_ife, k_ifet, k_ifef, e_tup, k_tup, e_lst, k_lst, e_ix, k_ix, k_ix2, e_sl, k_sl, k_sl2, k_sl3, e_rev, k_rev, e_call, e_blt, k_blt, e_me, k_me, k_me2, e_isi, k_isi, e_lrg, k_lrg, k_lrg2, e_int, e_str, e_bl, e_non, e_var, e_cst, v_d, v_b, es_nil, es_cons, k_es, k_es2, o_none, o_some, k_o, t_val, k_val, t_tru, k_tru, t_and, t_or, t_not, k_tat, k_taf, k_tot, k_tof, k_tn, c_yes, c_one, i_seq, k_seql, k_seqt, i_r1, k_r1, i_r2, k_r2, k_r3, ss_nil, ss_cons, s_set', k_set, s_par', k_par, s_unp', k_unp, s_sub', k_su, k_su2, k_su3, s_ex', k_ex, s_ret', s_ret0', s_if', k_ift, k_iff, s_for', k_for, s_brk', s_cnt', s_pas', s_try', k_try_rt, k_try_nx, setAll, get0, getS, nth0, nthS, rb_ok, rb_exc, rg_ok, rg_exc, sg_nx, sg_rt, sg_bk, sg_ct, sg_exc, opt_s, optS_s, b_add, b_sub, b_mul, b_fdiv, b_mod, b_pow, u_neg, u_not, c_lt, c_le, c_gt, c_ge, c_eq, c_ne, c_is, c_isnot, eq_int, l_lst, l_tup, f_len, f_int, f_list_scr, f_list_lst, f_list_tup, mk_f, mk_t, ix_lst, ix_tup, t_bl, t_int, t_non, List.set_cons_zero, List.set_cons_succ, List.length_nil, List.length_cons, List.length_map, decide_true, decide_false, ↓reduceIte, Int.reduceLT, Bool.not_true, Bool.not_false, Bool.true_and, Bool.false_and, reduceCtorEq, eq_self, e_make, k_mk, e_cm, k_cm, k_cm1, k_cm2, e_fld, k_fld, e_lc, k_lcv, k_lca, no_ok, i_en, k_enl, k_stepT, c_in, c_notin, s_sub2', k_s1, k_s2, k_s3, k_s4, k_s5, k_s6, ss_gc, *])
/-! ### the package's defs on rows -/
def intF : FnD := ⟨["value"], ["value"], (.cons (.ret (.and (.isi (.var 0) "int") (.not (.isi (.var 0) "bool"))))
  .nil), false⟩
theorem int_call {g : List D → Mem → Rs D} {Γ : MP.Env} (hg : g = callF Γ intF) (j : Int) (M : Mem) : g [.int j] M = .ok (.bl true) M := by
  rw [hg]
  refine callF_eq (fd := intF) rfl rfl ?_ rfl rfl
  have h1 : isiD (.int j) "int" = some true := rfl
  have h2 : isiD (.int j) "bool" = some false := rfl
  rw [show startD intF.N [.int j] = [some (.int j)] from rfl]
  unfold intF
  walk_at "ev"
def needB : SSs := (.cons (.ife (.or (.not (.tru (.call "is_integer" (.cons (.var 3) .nil)))) (.or (.not (.val (.cmp2 .le .lt (.int 0) (.var 3) (.blt .len (.cons (.var 0) .nil))))) (.val (.cmp .in_ (.var 3) (.var 1)))))
  (.cons (.rai "BadRow" (.cons (.var 2) .nil))
  .nil)
  .nil)
  (.cons (.sub (.var 1) (.var 3) (.bl true))
  .nil))
def needF : FnD := ⟨["row"], ["row", "seen", "index", "part"], (.cons (.set 1 (.dct .nil))
  (.cons (.for_ (.tp [2, 3]) (.enum (.var 0)) needB)
  .nil)), false⟩
theorem dct_nil {Γ : MP.Env} {r : Rho} {M : Mem} : evE Γ (.dct .nil) r M = .ok (.ref M.length) (M ++ [.dct []]) := by
  show (match (M ++ [MO.dct []])[M.length]? with
    | some (.dct []) => if 0 ≤ 15 then Rs.ok (D.ref M.length) ((M ++ [MO.dct []]).set M.length (MO.dct [])) else .bad
    | _ => .bad) = _
  have h1 : (M ++ [MO.dct []])[M.length]? = some (.dct []) := by simp
  have h2 : (M ++ [MO.dct []]).set M.length (.dct []) = M ++ [.dct []] := by
    rw [List.set_append_right _ _ (Nat.le_refl _), Nat.sub_self]
    rfl
  rw [h1, h2]
  rfl
/-- what has been seen -/
def seenK (f : Nat → Int) (k : Nat) : List (Key × D) := (List.range k).map fun p => (Sum.inl (f p), D.bl true)
theorem seen_look {f : Nat → Int} {k : Nat} (h : ∀ p < k, f p ≠ f k) : lookK (seenK f k) (Sum.inl (f k)) = none := by
  unfold lookK seenK
  rw [Option.map_eq_none_iff, List.find?_eq_none]
  intro kv hkv
  obtain ⟨p, hp, rfl⟩ := List.mem_map.mp hkv
  have := h p (List.mem_range.mp hp)
  simp [this]
theorem seen_store {f : Nat → Int} {k : Nat} (h : ∀ p < k, f p ≠ f k) : storeK (seenK f k) (Sum.inl (f k)) (.bl true) = seenK f (k + 1) := by
  unfold storeK
  rw [if_neg]
  · unfold seenK
    rw [List.range_succ, List.map_append]
    rfl
  · rw [Bool.not_eq_true, List.any_eq_false]
    intro kv hkv
    obtain ⟨p, hp, rfl⟩ := List.mem_map.mp hkv
    have := h p (List.mem_range.mp hp)
    simp [this]
/-- a row that is a rearrangement -/
structure Perm (n : Nat) (f : Nat → Int) : Prop where
  lo : ∀ p < n, 0 ≤ f p
  hi : ∀ p < n, f p < (n : Int)
  inj : ∀ p < n, ∀ q < n, f p = f q → p = q
theorem need_ok {Γ Γ' : MP.Env} (hi : Γ.cs.f "is_integer" = callF Γ' intF) {M : Mem} {n : Nat} {f : Nat → Int} (hn : n ≤ 1000) (P : Perm n f) (hM : M.all (lowM M.length) = true) : callF Γ needF [.lst (rowD n f)] M = .ok .non M := by
  have hz : sizeLine = 16777216 := sizeLine_eq
  rw [callF_run (by rfl), show startD needF.N [D.lst (rowD n f)] = [some (.lst (rowD n f)), none, none, none] from rfl]
  have hl : ((rowD n f).length : Int) = (n : Int) := by rw [row_len]
  generalize hrow : rowD n f = row at *
  have loop : ∃ r' M', forGo (stepF Γ (.tp [2, 3]) needB) (MP.numbered row) [some (.lst row), some (.ref M.length), none, none] (M ++ [.dct []]) = .nx r' M' ∧ M' = M ++ [.dct (seenK f n)] := by
    rw [← hrow, numbered_row, hrow]
    obtain ⟨r', M', e, _, h⟩ := forGo_ind (step := stepF Γ (.tp [2, 3]) needB) (fun k r M' => (∃ o2 o3, r = [some (.lst row), some (.ref M.length), o2, o3]) ∧ M' = M ++ [.dct (seenK f k)])
      ((List.range n).map fun (p : Nat) => D.tup [.int (p : Int), .int (f p)]) 0 (r := [some (.lst row), some (.ref M.length), none, none]) (M := M ++ [.dct []]) ⟨⟨_, _, rfl⟩, rfl⟩ (fun k d r M' hk ⟨⟨o2, o3, er⟩, eM⟩ => by
        have hk' : k < n := by
          have := (List.getElem?_eq_some_iff.mp hk).1
          simpa using this
        have ed : d = .tup [.int (k : Int), .int (f k)] := by
          rw [List.getElem?_map, List.getElem?_range hk'] at hk
          exact (Option.some.inj hk).symm
        subst ed er eM
        rw [Nat.zero_add] at *
        have hne : ∀ p < k, f p ≠ f k := fun p hp e => by
          have := P.inj p (by omega) k hk' e
          omega
        refine ⟨[some (.lst row), some (.ref M.length), some (.int (k : Int)), some (.int (f k))], M ++ [.dct (seenK f (k + 1))], .inl ?_, ⟨_, _, rfl⟩, rfl⟩
        have h1 := int_call hi (f k) (M ++ [.dct (seenK f k)])
        have h2 := P.lo k hk'
        have h3 : f k < (row.length : Int) := by rw [hl]; exact P.hi k hk'
        have hm : (M ++ [MO.dct (seenK f k)])[M.length]? = some (.dct (seenK f k)) := by simp
        have h4 : memD (M ++ [.dct (seenK f k)]) (.int (f k)) (.ref M.length) = some false := by
          unfold memD seqOf
          simp only [hm]
          show some (lookK (seenK f k) (Sum.inl (f k))).isSome = _
          rw [seen_look hne]
          rfl
        have h5 : subD (M ++ [.dct (seenK f k)]) (.ref M.length) (.int (f k)) (.bl true) = some (M ++ [.dct (seenK f (k + 1))]) := by
          unfold subD
          simp only [hm]
          show (if (seenK f k).length < sizeLine then some ((M ++ [MO.dct (seenK f k)]).set M.length (.dct (storeK (seenK f k) (Sum.inl (f k)) (.bl true)))) else none) = _
          rw [if_pos (by unfold seenK; rw [List.length_map, List.length_range]; omega), seen_store hne, List.set_append_right _ _ (Nat.le_refl _), Nat.sub_self]
          rfl
        rw [k_stepT]
        generalize M ++ [MO.dct (seenK f k)] = M1 at *
        generalize M ++ [MO.dct (seenK f (k + 1))] = M2 at *
        generalize f k = z at *
        clear hk hne hm hk' hM hn P hrow hi hz hl
        unfold needB
        walk_at "ev")
    refine ⟨r', M', e, ?_⟩
    rw [h]
    simp
  obtain ⟨r', M', e, rfl⟩ := loop
  have e2 : evSs Γ needF.body [some (.lst row), none, none, none] M = .nx r' (M ++ [.dct (seenK f n)]) := by
    unfold needF
    have h0 := dct_nil (Γ := Γ) (r := [some (.lst row), none, none, none]) (M := M)
    clear hi hM hn P hrow hl hz
    walk_at "ev"
  rw [e2]
  exact fin_non1 hM
def joinF : FnD := ⟨["first", "second"], ["first", "second", "part"], (.cons (.ex (.call "need_row" (.cons (.var 0) .nil)))
  (.cons (.ex (.call "need_row" (.cons (.var 1) .nil)))
  (.cons (.ife (.val (.cmp .ne (.blt .len (.cons (.var 0) .nil)) (.blt .len (.cons (.var 1) .nil))))
  (.cons (.rai "BadSize" (.cons (.blt .len (.cons (.var 1) .nil)) .nil))
  .nil)
  .nil)
  (.cons (.ret (.lc true [2] (.nm 2) (.seq (.var 1)) .yes (.ix (.var 0) (.var 2))))
  .nil)))), true⟩
theorem id_perm (n : Nat) : Perm n idI := ⟨fun p _ => by unfold idI; omega, fun p h => by unfold idI; omega, fun p _ q _ h => by unfold idI at h; omega⟩
theorem join_id {Γ Γ1 Γ2 : MP.Env} (hd : Γ.cs.f "need_row" = callF Γ1 needF) (hi : Γ1.cs.f "is_integer" = callF Γ2 intF) {M : Mem} {n : Nat} {f : Nat → Int} (hn : n ≤ 1000) (P : Perm n f) (hM : M.all (lowM M.length) = true) :
    callF Γ joinF [.lst (rowD n idI), .lst (rowD n f)] M = .ok (.ref M.length) (M ++ [.lst (rowD n f)]) := by
  have hz : sizeLine = 16777216 := sizeLine_eq
  have n1 : Γ.cs.f "need_row" [.lst (rowD n idI)] M = .ok .non M := by rw [hd]; exact need_ok hi hn (id_perm n) hM
  have n2 : Γ.cs.f "need_row" [.lst (rowD n f)] M = .ok .non M := by rw [hd]; exact need_ok hi hn P hM
  have l1 : ((rowD n idI).length : Int) = (n : Int) := by rw [row_len]
  have l2 : ((rowD n f).length : Int) = (n : Int) := by rw [row_len]
  have l3 : (rowD n f).length ≤ sizeLine := by rw [row_len]; omega
  have lc : lcGo (fun d r M => asg M (.nm 2) d r) (evC Γ .yes) (evE Γ (.ix (.var 0) (.var 2))) (wipeD [some (.lst (rowD n idI)), some (.lst (rowD n f)), none] [2]) (rowD n f) [] M = .ok (rowD n f) M := by
    rw [lcGo_map id]
    · simp
    · intro d hd'
      obtain ⟨v, hv, rfl⟩ := List.mem_map.mp hd'
      obtain ⟨p, hp, rfl⟩ := List.mem_map.mp hv
      have hp := List.mem_range.mp hp
      have h0 := P.lo p hp
      have h1 := P.hi p hp
      obtain ⟨j, hj⟩ : ∃ j : Nat, f p = (j : Int) := ⟨(f p).toNat, by omega⟩
      have hjn : j < n := by omega
      have ha : atI (rowD n idI) (f p) = some (.int (f p)) := by
        rw [hj]
        exact row_at hjn
      show evE Γ _ [some (.lst (rowD n idI)), some (.lst (rowD n f)), some (.int (f p))] M = .ok (.int (f p)) M
      generalize f p = z at *
      generalize rowD n idI = R1 at *
      generalize rowD n f = R2 at *
      clear hj hjn h0 h1 hp hv hd' l1 l2 l3 n1 n2 P hd hi hz
      walk_at "ev"
  rw [callF_run (by rfl), show startD joinF.N [D.lst (rowD n idI), D.lst (rowD n f)] = [some (.lst (rowD n idI)), some (.lst (rowD n f)), none] from rfl]
  have key : evSs Γ joinF.body [some (.lst (rowD n idI)), some (.lst (rowD n f)), none] M = .rt (.ref M.length) (M ++ [.lst (rowD n f)]) := by
    generalize rowD n idI = R1 at *
    generalize rowD n f = R2 at *
    have e0 : eqD M (.int (R1.length : Int)) (.int (R2.length : Int)) = some true := by rw [l1, l2, eq_int]; simp
    clear hd hi hM P hz l1 l2
    unfold joinF
    walk_at "ev"
  rw [key]
  rfl
end MX

/-! Moves of words on rows: exchanges, rolls, turns; what slices make of a row. -/
namespace MX
open MP
open PySem PySem.Spec PyProof.Rows L2
local macro_rules | `(tactic| walk_at "ev") => `(tactic| simp only [e_bin, k_bin, e_neg, e_not, e_cmp, k_cmp, e_cmp2, k_c1, k_c2, k_c3t, k_c3f, e_and, k_andt, k_andf, e_or, k_ort, k_orf, e_ife, k_ifet, k_ifef, e_tup, k_tup, e_lst, k_lst, e_ix, k_ix, k_ix2, e_sl, k_sl, k_sl2, k_sl3, e_rev, k_rev, e_call, e_blt, k_blt, e_me, k_me, k_me2, e_isi, k_isi, e_lrg, k_lrg, k_lrg2, e_int, e_str, e_bl, e_non, e_var, e_cst, v_d, v_b, es_nil, es_cons, k_es, k_es2, o_none, o_some, k_o, t_val, k_val, t_tru, k_tru, t_and, t_or, t_not, k_tat, k_taf, k_tot, k_tof, k_tn, c_yes, c_one, i_seq, k_seql, k_seqt, i_r1, k_r1, i_r2, k_r2, k_r3, ss_nil, ss_cons, s_set', k_set, s_par', k_par, s_unp', k_unp, s_sub', k_su, k_su2, k_su3, s_ex', k_ex, s_ret', s_ret0', s_if', k_ift, k_iff, s_for', k_for, s_brk', s_cnt', s_pas', s_try', k_try_rt, k_try_nx, setAll, get0, getS, nth0, nthS, rb_ok, rb_exc, rg_ok, rg_exc, sg_nx, sg_rt, sg_bk, sg_ct, sg_exc, opt_s, optS_s, b_add, b_sub, b_mul, b_fdiv, b_mod, b_pow, u_neg, u_not, c_lt, c_le, c_gt, c_ge, c_eq, c_ne, c_is, c_isnot, eq_int, l_lst, l_tup, f_len, f_int, f_list_scr, f_list_lst, f_list_tup, mk_f, mk_t, ix_lst, ix_tup, t_bl, t_int, t_non, List.set_cons_zero, List.set_cons_succ, List.length_nil, List.length_cons, List.length_map, decide_true, decide_false, ↓reduceIte, Int.reduceLT, Bool.not_true, Bool.not_false, Bool.true_and, Bool.false_and, reduceCtorEq, eq_self, e_make, k_mk, e_cm, k_cm, k_cm1, k_cm2, e_fld, k_fld, e_lc, k_lcv, k_lca, no_ok, i_en, k_enl, k_stepT, c_in, c_notin, s_sub2', k_s1, k_s2, k_s3, k_s4, k_s5, k_s6, ss_gc, *])
theorem emod_is {a m r q : Int} (h : a = r + m * q) (h0 : 0 ≤ r) (h1 : r < m) : a % m = r := by rw [h, Int.add_mul_emod_self_left, Int.emod_eq_of_lt h0 h1]
theorem emod_upd {m u b k : Int} (hu : 0 ≤ u) (hu2 : u < m) (hk : 0 ≤ k) (hk2 : k < m) : (u - b) % m = k ↔ u = (k + b) % m := by
  constructor
  · intro h
    have e := Int.emod_def (u - b) m
    rw [h] at e
    refine (emod_is (q := -((u - b) / m)) ?_ hu hu2).symm
    rw [Int.mul_neg]
    omega
  · intro h
    have e := Int.emod_def (k + b) m
    rw [← h] at e
    refine emod_is (q := -((k + b) / m)) ?_ hk hk2
    rw [Int.mul_neg]
    omega
section
variable {n : Nat} {f : Nat → Int} {M : Mem}
theorem at_end {o : MO} : (M ++ [o])[M.length]? = some o := by simp
theorem set_end {o o' : MO} : (M ++ [o]).set M.length o' = M ++ [o'] := by
  rw [List.set_append_right _ _ (Nat.le_refl _), Nat.sub_self]
  rfl
theorem subL_row {p : Nat} {v : Int} (h : p < n) : subL (M ++ [.lst (rowD n f)]) (.ref M.length) (.int (p : Int)) (.int v) = some (M ++ [.lst (rowD n fun q => if q = p then v else f q)]) := by
  unfold subL
  simp only [at_end]
  have e : ixN (rowD n f).length (p : Int) = some p := by
    unfold ixN
    rw [row_len, if_pos (by omega), if_pos (by omega)]
    simp
  rw [e, Option.map_some, row_set h, set_end]
theorem subD_row {p : Nat} {v : Int} (h : p < n) : subD (M ++ [.lst (rowD n f)]) (.ref M.length) (.int (p : Int)) (.int v) = some (M ++ [.lst (rowD n fun q => if q = p then v else f q)]) := by
  unfold subD
  simp only [at_end]
  have e : ixN (rowD n f).length (p : Int) = some p := by
    unfold ixN
    rw [row_len, if_pos (by omega), if_pos (by omega)]
    simp
  rw [e, Option.map_some, row_set h, set_end]
end
theorem e_lrg_row {Γ : MP.Env} {m : Bool} {r : Rho} {i n : Nat} {M : Mem} (hg : get r i = some (.int (n : Int))) (hn : n ≤ 1000) : evE Γ (.lrg m (.int 0) (.var i)) r M = mkL m (rowD n idI) M := by
  rw [e_lrg, e_int, rb_ok, k_lrg, e_var, hg, v_d, rb_ok, k_lrg2]
  exact lrg_row hn
def exF : FnD := ⟨["x", "y", "size"], ["x", "y", "size", "found"], (.cons (.set 3 (.lrg true (.int 0) (.var 2)))
  (.cons (.sub2 (.var 3) (.var 0) (.var 3) (.var 1) (.tup (.cons (.var 1) (.cons (.var 0) .nil))))
  (.cons (.ret (.var 3))
  .nil))), false⟩
theorem ex_ok {Γ : MP.Env} {M : Mem} {n x y : Nat} (hn : n ≤ 1000) (hx : x < n) (hy : y < n) (hM : M.all (lowM M.length) = true) :
    callF Γ exF [.int (x : Int), .int (y : Int), .int (n : Int)] M = .ok (.lst (rowD n fun q => if q = y then (x : Int) else if q = x then (y : Int) else q)) M := by
  have h1 : evS Γ (.set 3 (.lrg true (.int 0) (.var 2))) [some (.int (x : Int)), some (.int (y : Int)), some (.int (n : Int)), none] M = .nx [some (.int (x : Int)), some (.int (y : Int)), some (.int (n : Int)), some (.ref M.length)] (M ++ [.lst (rowD n idI)]) := by
    rw [s_set', e_lrg_row rfl hn, mk_t]
    rfl
  have h2 := subL_row (M := M) (f := idI) (v := (y : Int)) hx
  have h3 := subL_row (M := M) (f := fun q => if q = x then (y : Int) else idI q) (v := (x : Int)) hy
  have z2 : 0 + 1 + 1 ≤ sizeLine := by decide
  rw [callF_run (by rfl), show startD exF.N [D.int (x : Int), .int (y : Int), .int (n : Int)] = [some (.int (x : Int)), some (.int (y : Int)), some (.int (n : Int)), none] from rfl]
  have key : evSs Γ exF.body [some (.int (x : Int)), some (.int (y : Int)), some (.int (n : Int)), none] M = .rt (.ref M.length) (M ++ [.lst (rowD n fun q => if q = y then (x : Int) else if q = x then (y : Int) else idI q)]) := by
    show (evS Γ (.set 3 (.lrg true (.int 0) (.var 2))) [some (.int (x : Int)), some (.int (y : Int)), some (.int (n : Int)), none] M).go (evSs Γ _) = _
    rw [h1, sg_nx]
    clear h1
    generalize rowD n idI = R0 at *
    generalize (rowD n fun q => if q = x then (y : Int) else idI q) = R1 at *
    generalize (rowD n fun q => if q = y then (x : Int) else if q = x then (y : Int) else idI q) = R2 at *
    generalize (x : Int) = X at *
    generalize (y : Int) = Y at *
    clear hM hx hy hn
    walk_at "ev"
  rw [key]
  exact fin_lst (row_low _) hM
/-- an amount's number: none: half -/
def amV (A : Option Int) (many : Int) : Int := match A with
  | some a => a
  | none => many / 2
def rollI (x many b : Int) (p : Nat) : Int := if x ≤ (p : Int) ∧ (p : Int) < x + many then x + ((p : Int) - x - b) % many else p
def rollK (x many b k : Int) (p : Nat) : Int := if (x ≤ (p : Int) ∧ (p : Int) < x + many) ∧ ((p : Int) - x - b) % many < k then x + ((p : Int) - x - b) % many else p
def rollB : SSs := (.cons (.sub (.var 4) (.bin false .add (.var 0) (.bin false .mod (.bin false .add (.var 7) (.var 6)) (.var 5))) (.bin false .add (.var 0) (.var 7)))
  .nil)
def byE : SE := (.ife (.val (.cmp .eq (.var 2) (.cst "HALF"))) (.bin false .fdiv (.var 5) (.int 2)) (.blt .int (.cons (.var 2) .nil)))
def rollF : FnD := ⟨["x", "y", "amount", "size"], ["x", "y", "amount", "size", "found", "many", "by", "at"], (.cons (.par [4, 5] (.cons (.lrg true (.int 0) (.var 3)) (.cons (.bin false .add (.bin false .sub (.var 1) (.var 0)) (.int 1)) .nil)))
  (.cons (.set 6 byE)
  (.cons (.for_ (.nm 7) (.rng1 (.var 5))
  rollB)
  (.cons (.ret (.var 4))
  .nil)))), false⟩
theorem roll_ok {Γ : MP.Env} {M : Mem} {n x many : Nat} {am : Str} {b : Int} (hn : n ≤ 1000) (h1 : 1 ≤ many) (hx : x + many ≤ n) (hM : M.all (lowM M.length) = true)
    (hB : evE Γ byE [some (.int (x : Int)), some (.int ((x : Int) + many - 1)), some (.str am), some (.int (n : Int)), some (.ref M.length), some (.int (many : Int)), none, none] (M ++ [.lst (rowD n idI)]) = .ok (.int b) (M ++ [.lst (rowD n idI)])) :
    callF Γ rollF [.int (x : Int), .int ((x : Int) + many - 1), .str am, .int (n : Int)] M = .ok (.lst (rowD n (rollI x many b))) M := by
  have hz : sizeLine = 16777216 := sizeLine_eq
  have hm : (x : Int) + many - 1 - x + 1 = (many : Int) := by omega
  have r0 : rngOk 0 (many : Int) = true := rngOk_s (by omega) (by omega) (by omega) (by omega)
  have zero : rowD n (rollK x many b 0) = rowD n idI := congrArg (List.map D.int) (row_ext fun p hp => by
    unfold rollK
    rw [if_neg]
    rintro ⟨⟨_, _⟩, h⟩
    have := Int.emod_nonneg ((p : Int) - x - b) (show (many : Int) ≠ 0 by omega)
    omega)
  have full : rowD n (rollK x many b many) = rowD n (rollI x many b) := congrArg (List.map D.int) (row_ext fun p hp => by
    unfold rollK rollI
    have := Int.emod_lt_of_pos ((p : Int) - x - b) (show (0 : Int) < many by omega)
    by_cases h : (x : Int) ≤ p ∧ (p : Int) < x + many
    · rw [if_pos ⟨h, this⟩, if_pos h]
    · rw [if_neg (fun z => h z.1), if_neg h])
  have loop : ∃ o7, forGo (stepF Γ (.nm 7) rollB) (rowD many idI) [some (.int (x : Int)), some (.int ((x : Int) + many - 1)), some (.str am), some (.int (n : Int)), some (.ref M.length), some (.int (many : Int)), some (.int b), none] (M ++ [.lst (rowD n idI)]) =
      .nx [some (.int (x : Int)), some (.int ((x : Int) + many - 1)), some (.str am), some (.int (n : Int)), some (.ref M.length), some (.int (many : Int)), some (.int b), o7] (M ++ [.lst (rowD n (rollI x many b))]) := by
    rw [← zero, ← full]
    obtain ⟨r', M', e, ⟨o7, rfl⟩, rfl⟩ := forGo_ind (step := stepF Γ (.nm 7) rollB) (fun k r M' => (∃ o7, r = [some (.int (x : Int)), some (.int ((x : Int) + many - 1)), some (.str am), some (.int (n : Int)), some (.ref M.length), some (.int (many : Int)), some (.int b), o7]) ∧ M' = M ++ [.lst (rowD n (rollK x many b k))])
      (rowD many idI) 0 (r := [some (.int (x : Int)), some (.int ((x : Int) + many - 1)), some (.str am), some (.int (n : Int)), some (.ref M.length), some (.int (many : Int)), some (.int b), none]) (M := M ++ [.lst (rowD n (rollK x many b 0))]) ⟨⟨none, rfl⟩, rfl⟩ (fun k d r M' hk ⟨⟨o7, er⟩, eM⟩ => by
        have hk' : k < many := by
          have := (List.getElem?_eq_some_iff.mp hk).1
          rw [row_len] at this
          exact this
        rw [row_get hk'] at hk
        cases hk
        subst er eM
        rw [Nat.zero_add] at *
        have n0 := Int.emod_nonneg ((k : Int) + b) (show (many : Int) ≠ 0 by omega)
        have n1 := Int.emod_lt_of_pos ((k : Int) + b) (show (0 : Int) < many by omega)
        obtain ⟨j, hj⟩ : ∃ j : Nat, (x : Int) + ((k : Int) + b) % many = (j : Int) := ⟨((x : Int) + ((k : Int) + b) % many).toNat, by omega⟩
        have hjn : j < n := by omega
        have s1 := subD_row (M := M) (n := n) (f := rollK x many b k) (v := (x : Int) + k) hjn
        have e2 : (rowD n fun q => if q = j then (x : Int) + k else rollK x many b k q) = rowD n (rollK x many b (k + 1 : Nat)) := congrArg (List.map D.int) (row_ext fun p hp => by
          show (if p = j then (x : Int) + k else rollK x many b k p) = _
          unfold rollK
          by_cases hin : (x : Int) ≤ p ∧ (p : Int) < x + many
          · have u := emod_upd (m := (many : Int)) (u := (p : Int) - x) (b := b) (k := (k : Int)) (by omega) (by omega) (by omega) (by omega)
            by_cases e : p = j
            · have hu : ((p : Int) - x - b) % many = k := u.mpr (by omega)
              rw [if_pos e, if_pos ⟨hin, by omega⟩, hu]
            · have hu : ((p : Int) - x - b) % many ≠ k := fun z => e (by have := u.mp z; omega)
              rw [if_neg e]
              by_cases hl : ((p : Int) - x - b) % many < k
              · rw [if_pos ⟨hin, hl⟩, if_pos ⟨hin, by omega⟩]
              · rw [if_neg (fun z => hl z.2), if_neg (fun z => by have := z.2; omega)]
          · rw [if_neg (fun z => by subst z; omega), if_neg (fun z => hin z.1), if_neg (fun z => hin z.1)])
        rw [e2, ← hj] at s1
        refine ⟨_, M ++ [.lst (rowD n (rollK x many b (k + 1 : Nat)))], .inl ?_, ⟨some (.int (k : Int)), rfl⟩, rfl⟩
        have h0 : (0 : Int) < many := by omega
        show stepF Γ (.nm 7) rollB (.int (k : Int)) _ _ = _
        rw [k_step]
        show evSs Γ rollB [some (.int (x : Int)), some (.int ((x : Int) + many - 1)), some (.str am), some (.int (n : Int)), some (.ref M.length), some (.int (many : Int)), some (.int b), some (.int (k : Int))] _ = _
        generalize (rowD n (rollK x many b (k + 1 : Nat))) = R1 at *
        generalize (rowD n (rollK x many b (k : Nat))) = R0 at *
        generalize (x : Int) = X at *
        generalize (many : Int) = Y at *
        clear hM hn hz r0 zero full e2 hB hm n0 n1 hj
        unfold rollB
        walk_at "ev")
    refine ⟨o7, ?_⟩
    rw [e, row_len, Nat.zero_add]
  obtain ⟨o7, lp⟩ := loop
  rw [callF_run (by rfl), show startD rollF.N [D.int (x : Int), .int ((x : Int) + many - 1), .str am, .int (n : Int)] = [some (.int (x : Int)), some (.int ((x : Int) + many - 1)), some (.str am), some (.int (n : Int)), none, none, none, none] from rfl]
  have key : evSs Γ rollF.body [some (.int (x : Int)), some (.int ((x : Int) + many - 1)), some (.str am), some (.int (n : Int)), none, none, none, none] M = .rt (.ref M.length) (M ++ [.lst (rowD n (rollI x many b))]) := by
    have h1' : evS Γ (.par [4, 5] (.cons (.lrg true (.int 0) (.var 3)) (.cons (.bin false .add (.bin false .sub (.var 1) (.var 0)) (.int 1)) .nil))) [some (.int (x : Int)), some (.int ((x : Int) + many - 1)), some (.str am), some (.int (n : Int)), none, none, none, none] M =
        .nx [some (.int (x : Int)), some (.int ((x : Int) + many - 1)), some (.str am), some (.int (n : Int)), some (.ref M.length), some (.int (many : Int)), none, none] (M ++ [.lst (rowD n idI)]) := by
      rw [s_par', es_cons, e_lrg_row rfl hn, mk_t, rb_ok, k_es]
      generalize (rowD n idI) = R0 at *
      clear hB lp zero full hM hz r0 hn hx h1
      walk_at "ev"
    have hi : evI Γ (.rng1 (.var 5)) [some (.int (x : Int)), some (.int ((x : Int) + many - 1)), some (.str am), some (.int (n : Int)), some (.ref M.length), some (.int (many : Int)), some (.int b), none] (M ++ [.lst (rowD n idI)]) = .ok (.vals (rowD many idI)) (M ++ [.lst (rowD n idI)]) := by
      have h3 : evE Γ (.var 5) [some (.int (x : Int)), some (.int ((x : Int) + many - 1)), some (.str am), some (.int (n : Int)), some (.ref M.length), some (.int (many : Int)), some (.int b), none] (M ++ [.lst (rowD n idI)]) = .ok (.int (many : Int)) (M ++ [.lst (rowD n idI)]) := rfl
      rw [i_r1, h3, rb_ok, k_r1, if_pos r0, Int.toNat_natCast, rng_row]
    have hf : evS Γ (.for_ (.nm 7) (.rng1 (.var 5)) rollB) [some (.int (x : Int)), some (.int ((x : Int) + many - 1)), some (.str am), some (.int (n : Int)), some (.ref M.length), some (.int (many : Int)), some (.int b), none] (M ++ [.lst (rowD n idI)]) = .nx [some (.int (x : Int)), some (.int ((x : Int) + many - 1)), some (.str am), some (.int (n : Int)), some (.ref M.length), some (.int (many : Int)), some (.int b), o7] (M ++ [.lst (rowD n (rollI x many b))]) := by
      rw [s_for', hi, rg_ok, k_for]
      exact lp
    show (evS Γ (.par [4, 5] _) _ M).go (evSs Γ _) = _
    rw [h1', sg_nx, ss_cons, s_set', hB, rg_ok, k_set, sg_nx, ss_cons]
    simp only [List.set_cons_succ, List.set_cons_zero]
    rw [hf, sg_nx]
    rfl
  rw [key]
  exact fin_lst (row_low _) hM
/-! ### moves -/
inductive Mo where
  | turn | exch (X Y : Int) | roll (X Y : Int) (A : Option Int)
def inB (n X Y : Int) : Prop := 0 ≤ X ∧ X < n ∧ 0 ≤ Y ∧ Y < n
instance (n X Y : Int) : Decidable (inB n X Y) := by unfold inB; infer_instance
/-- what a move does at n places -/
def Mo.f (n : Nat) : Mo → Nat → Int
  | .turn, p => (n : Int) - 1 - p
  | .exch X Y, p => if inB n X Y then (if (p : Int) = Y then X else if (p : Int) = X then Y else p) else p
  | .roll X Y A, p => if inB n X Y ∧ X < Y then rollI X (Y - X + 1) (amV A (Y - X + 1)) p else p
section
variable {n p : Nat} {X Y : Int} {A : Option Int}
theorem f_turn : Mo.turn.f n p = (n : Int) - 1 - p := rfl
theorem f_exch : (Mo.exch X Y).f n p = if inB n X Y then (if (p : Int) = Y then X else if (p : Int) = X then Y else p) else p := rfl
theorem f_roll : (Mo.roll X Y A).f n p = if inB n X Y ∧ X < Y then rollI X (Y - X + 1) (amV A (Y - X + 1)) p else p := rfl
end
theorem roll_perm {n x many : Nat} {b : Int} (h1 : 1 ≤ many) (hx : x + many ≤ n) : Perm n (rollI x many b) := by
  have key : ∀ p : Nat, p < n → ((x : Int) ≤ p ∧ (p : Int) < x + many → (x : Int) ≤ rollI x many b p ∧ rollI x many b p < x + many) ∧ (¬ ((x : Int) ≤ p ∧ (p : Int) < x + many) → rollI x many b p = p) := fun p hp => by
    unfold rollI
    refine ⟨fun h => ?_, fun h => if_neg h⟩
    rw [if_pos h]
    have := Int.emod_nonneg ((p : Int) - x - b) (show (many : Int) ≠ 0 by omega)
    have := Int.emod_lt_of_pos ((p : Int) - x - b) (show (0 : Int) < many by omega)
    omega
  refine ⟨fun p hp => ?_, fun p hp => ?_, fun p hp q hq e => ?_⟩
  · obtain ⟨k1, k2⟩ := key p hp
    by_cases h : (x : Int) ≤ p ∧ (p : Int) < x + many
    · have := k1 h
      omega
    · rw [k2 h]
      omega
  · obtain ⟨k1, k2⟩ := key p hp
    by_cases h : (x : Int) ≤ p ∧ (p : Int) < x + many
    · have := k1 h
      omega
    · rw [k2 h]
      omega
  · obtain ⟨k1, k2⟩ := key p hp
    obtain ⟨j1, j2⟩ := key q hq
    by_cases h : (x : Int) ≤ p ∧ (p : Int) < x + many
    · by_cases h' : (x : Int) ≤ q ∧ (q : Int) < x + many
      · have e2 : ((p : Int) - x - b) % many = ((q : Int) - x - b) % many := by
          unfold rollI at e
          rw [if_pos h, if_pos h'] at e
          omega
        have n0 := Int.emod_nonneg ((q : Int) - x - b) (show (many : Int) ≠ 0 by omega)
        have n1 := Int.emod_lt_of_pos ((q : Int) - x - b) (show (0 : Int) < many by omega)
        have u1 := (emod_upd (m := (many : Int)) (u := (p : Int) - x) (b := b) (by omega) (by omega) n0 n1).mp e2
        have u2 := (emod_upd (m := (many : Int)) (u := (q : Int) - x) (b := b) (by omega) (by omega) n0 n1).mp rfl
        omega
      · have := k1 h
        have := j2 h'
        omega
    · by_cases h' : (x : Int) ≤ q ∧ (q : Int) < x + many
      · have := j1 h'
        have := k2 h
        omega
      · have := j2 h'
        have := k2 h
        omega
theorem Mo.perm (n : Nat) : ∀ m : Mo, Perm n (m.f n)
  | .turn => ⟨fun p h => by rw [f_turn]; omega, fun p h => by rw [f_turn]; omega, fun p _ q _ e => by rw [f_turn, f_turn] at e; omega⟩
  | .exch X Y => by
    by_cases h : inB n X Y
    · have h2 := h
      unfold inB at h2
      refine ⟨fun p hp => ?_, fun p hp => ?_, fun p hp q hq e => ?_⟩
      · rw [f_exch, if_pos h]
        split
        · omega
        · split <;> omega
      · rw [f_exch, if_pos h]
        split
        · omega
        · split <;> omega
      · rw [f_exch, f_exch, if_pos h, if_pos h] at e
        split at e <;> split at e <;> (try split at e) <;> (try split at e) <;> omega
    · refine ⟨fun p hp => ?_, fun p hp => ?_, fun p hp q hq e => ?_⟩
      · rw [f_exch, if_neg h]; omega
      · rw [f_exch, if_neg h]; omega
      · rw [f_exch, f_exch, if_neg h, if_neg h] at e; omega
  | .roll X Y A => by
    by_cases h : inB n X Y ∧ X < Y
    · have h2 := h.1
      unfold inB at h2
      obtain ⟨x, rfl⟩ : ∃ x : Nat, X = (x : Int) := ⟨X.toNat, by omega⟩
      obtain ⟨m, hm⟩ : ∃ m : Nat, Y - x + 1 = (m : Int) := ⟨(Y - x + 1).toNat, by omega⟩
      have e : ∀ p, (Mo.roll (x : Int) Y A).f n p = rollI x m (amV A m) p := fun p => by
        rw [f_roll, if_pos h, hm]
      have P := roll_perm (n := n) (x := x) (many := m) (b := amV A m) (by omega) (by omega)
      exact ⟨fun p hp => by rw [e]; exact P.lo p hp, fun p hp => by rw [e]; exact P.hi p hp, fun p hp q hq z => by rw [e, e] at z; exact P.inj p hp q hq z⟩
    · refine ⟨fun p hp => ?_, fun p hp => ?_, fun p hp q hq e => ?_⟩
      · rw [f_roll, if_neg h]; omega
      · rw [f_roll, if_neg h]; omega
      · rw [f_roll, f_roll, if_neg h, if_neg h] at e; omega
theorem row_rev {n : Nat} : (rowD n idI).reverse = rowD n (Mo.turn.f n) := by
  refine List.ext_getElem? fun q => ?_
  by_cases hq : q < n
  · rw [row_get hq, List.getElem?_reverse (by rw [row_len]; exact hq), row_len, row_get (by omega)]
    show some (D.int ((n - 1 - q : Nat) : Int)) = some (D.int ((n : Int) - 1 - q))
    congr 2
    omega
  · rw [List.getElem?_eq_none (by rw [List.length_reverse, row_len]; omega), List.getElem?_eq_none (by rw [row_len]; omega)]
/-! ### steps by hand -/
section
variable {Γ : MP.Env} {t : ST} {A B rest : SSs} {e : SE} {r : Rho} {M M' : Mem} {d : D} {i : Nat}
theorem ife_t (h : evT Γ t r M = .ok true M') : evSs Γ (.cons (.ife t A B) rest) r M = (evSs Γ A r M').go (evSs Γ rest) := by rw [ss_cons, s_if', h, rg_ok, k_ift]
theorem ife_f (h : evT Γ t r M = .ok false M') : evSs Γ (.cons (.ife t A .nil) rest) r M = evSs Γ rest r M' := by rw [ss_cons, s_if', h, rg_ok, k_iff, ss_nil, sg_nx]
theorem ret_of (h : evE Γ e r M = .ok d M') : evSs Γ (.cons (.ret e) rest) r M = .rt d M' := by rw [ss_cons, s_ret', h, rg_ok, sg_rt]
theorem set_of (h : evE Γ e r M = .ok d M') : evSs Γ (.cons (.set i e) rest) r M = evSs Γ rest (r.set i (some d)) M' := by rw [ss_cons, s_set', h, rg_ok, k_set, sg_nx]
theorem st_of {s : SS} {r' : Rho} (h : evS Γ s r M = .nx r' M') : evSs Γ (.cons s rest) r M = evSs Γ rest r' M' := by rw [ss_cons, h, sg_nx]
end
/-! ### stretches -/
abbrev seg (a m : Nat) : List D := rowD m fun p => (a : Int) + p
theorem seg_get {a m p : Nat} (h : p < m) : (seg a m)[p]? = some (.int ((a : Int) + p)) := row_get h
theorem seg_id (n : Nat) : rowD n idI = seg 0 n := congrArg (List.map D.int) (row_ext fun p _ => by show (p : Int) = ((0 : Nat) : Int) + p; omega)
theorem seg_drop (a m i : Nat) : (seg a m).drop i = seg (a + i) (m - i) := by
  refine List.ext_getElem? fun q => ?_
  rw [List.getElem?_drop]
  by_cases h : q < m - i
  · rw [seg_get h, seg_get (by omega)]
    congr 2
    omega
  · rw [List.getElem?_eq_none (by rw [row_len]; omega), List.getElem?_eq_none (by rw [row_len]; omega)]
theorem seg_take (a m j : Nat) : (seg a m).take j = seg a (min j m) := by
  refine List.ext_getElem? fun q => ?_
  rw [List.getElem?_take]
  by_cases h : q < min j m
  · rw [if_pos (by omega), seg_get h, seg_get (by omega)]
  · rw [List.getElem?_eq_none (l := seg a (min j m)) (by rw [row_len]; omega)]
    split
    · rw [List.getElem?_eq_none (by rw [row_len]; omega)]
    · rfl
theorem cut_seg {a m i j : Nat} (h1 : i ≤ j) (h2 : j ≤ m) : cutG (seg a m) (some (i : Int)) (some (j : Int)) = seg (a + i) (j - i) := by
  unfold cutG
  rw [row_len, HT.sIx_nat, HT.sIx_nat, seg_drop, seg_take]
  have e1 : min i m = i := by omega
  have e2 : min j m = j := by omega
  rw [e1, e2]
  congr 2
  omega
theorem cut_seg_hi {a m j : Nat} (h2 : j ≤ m) : cutG (seg a m) none (some (j : Int)) = seg a j := by
  unfold cutG
  rw [row_len, HT.sIx_nat, HT.sIx_none, seg_drop, seg_take]
  have e2 : min j m = j := by omega
  rw [e2]
  congr 2 <;> omega
theorem cut_seg_lo {a m i : Nat} (h2 : i ≤ m) : cutG (seg a m) (some (i : Int)) none = seg (a + i) (m - i) := by
  unfold cutG
  rw [row_len, HT.sIx_nat, HT.sIx_none, seg_drop, seg_take]
  have e2 : min i m = i := by omega
  rw [e2]
  congr 2
  omega
theorem row_add {a b : Nat} {f : Nat → Int} : rowD (a + b) f = rowD a f ++ rowD b fun p => f (a + p) := by
  unfold rowD rowI
  rw [List.range_add]
  simp [Function.comp_def]
/-- a roll by slices -/
theorem roll_segs {n x m cut : Nat} {b : Int} (hx : x + m ≤ n) (h1 : 1 ≤ m) (hc : (cut : Int) = m - b % m) (hc1 : 1 ≤ cut) (hc2 : cut ≤ m) :
    ((seg 0 x ++ seg (x + cut) (m - cut)) ++ seg x cut) ++ seg (x + m) (n - (x + m)) = rowD n (rollI x m b) := by
  have en : n = (x + (m - cut)) + (cut + (n - (x + m))) := by omega
  rw [show rowD n (rollI x m b) = rowD ((x + (m - cut)) + (cut + (n - (x + m)))) (rollI x m b) from by rw [← en], row_add, row_add, row_add, ← List.append_assoc]
  have ed := Int.emod_def b m
  congr 1
  · congr 1
    · congr 1
      · exact congrArg (List.map D.int) (row_ext fun p hp => by
          unfold rollI
          rw [if_neg (by omega)]
          show ((0 : Nat) : Int) + p = p
          omega)
      · exact congrArg (List.map D.int) (row_ext fun p hp => by
          unfold rollI
          rw [if_pos (by omega)]
          have : (((x + p : Nat) : Int) - x - b) % m = (cut : Int) + p := by
            refine emod_is (q := -(b / m) - 1) ?_ (by omega) (by omega)
            have e2 : (m : Int) * (-(b / m) - 1) = -(m * (b / m)) - m := by rw [Int.mul_sub, Int.mul_neg, Int.mul_one]
            rw [e2]
            omega
          rw [this]
          omega)
    · exact congrArg (List.map D.int) (row_ext fun p hp => by
        unfold rollI
        rw [if_pos (by omega)]
        have : (((x + (m - cut) + p : Nat) : Int) - x - b) % m = (p : Int) := by
          refine emod_is (q := -(b / m)) ?_ (by omega) (by omega)
          rw [Int.mul_neg]
          omega
        rw [this])
  · exact congrArg (List.map D.int) (row_ext fun p hp => by
      unfold rollI
      rw [if_neg (by omega)]
      omega)
end MX

/-! What a move does at a size: the package's way and the law's. -/
namespace MX
open MP
open PySem PySem.Spec PyProof.Rows L2
local macro_rules | `(tactic| walk_at "ev") => `(tactic| simp only [e_bin, k_bin, e_neg, e_not, e_cmp, k_cmp, e_cmp2, k_c1, k_c2, k_c3t, k_c3f, e_and, k_andt, k_andf, e_or, k_ort, k_orf, e_ife, k_ifet, k_ifef, e_tup, k_tup, e_lst, k_lst, e_ix, k_ix, k_ix2, e_sl, k_sl, k_sl2, k_sl3, e_rev, k_rev, e_call, e_blt, k_blt, e_me, k_me, k_me2, e_isi, k_isi, e_lrg, k_lrg, k_lrg2, e_int, e_str, e_bl, e_non, e_var, e_cst, v_d, v_b, es_nil, es_cons, k_es, k_es2, o_none, o_some, k_o, t_val, k_val, t_tru, k_tru, t_and, t_or, t_not, k_tat, k_taf, k_tot, k_tof, k_tn, c_yes, c_one, i_seq, k_seql, k_seqt, i_r1, k_r1, i_r2, k_r2, k_r3, ss_nil, ss_cons, s_set', k_set, s_par', k_par, s_unp', k_unp, s_sub', k_su, k_su2, k_su3, s_ex', k_ex, s_ret', s_ret0', s_if', k_ift, k_iff, s_for', k_for, s_brk', s_cnt', s_pas', s_try', k_try_rt, k_try_nx, setAll, get0, getS, nth0, nthS, rb_ok, rb_exc, rg_ok, rg_exc, sg_nx, sg_rt, sg_bk, sg_ct, sg_exc, opt_s, optS_s, b_add, b_sub, b_mul, b_fdiv, b_mod, b_pow, u_neg, u_not, c_lt, c_le, c_gt, c_ge, c_eq, c_ne, c_is, c_isnot, eq_int, l_lst, l_tup, f_len, f_int, f_list_scr, f_list_lst, f_list_tup, mk_f, mk_t, ix_lst, ix_tup, t_bl, t_int, t_non, List.set_cons_zero, List.set_cons_succ, List.length_nil, List.length_cons, List.length_map, decide_true, decide_false, ↓reduceIte, Int.reduceLT, Bool.not_true, Bool.not_false, Bool.true_and, Bool.false_and, reduceCtorEq, eq_self, e_make, k_mk, e_cm, k_cm, k_cm1, k_cm2, e_fld, k_fld, e_lc, k_lcv, k_lca, no_ok, i_en, k_enl, k_stepT, c_in, c_notin, s_sub2', k_s1, k_s2, k_s3, k_s4, k_s5, k_s6, ss_gc, *])
def moveF : FnD := ⟨["move", "size"], ["move", "size", "x", "y"], (.cons (.ife (.val (.cmp .eq (.ix (.var 0) (.int 0)) (.str "turn")))
  (.cons (.ret (.rev false (.lrg false (.int 0) (.var 1))))
  .nil)
  .nil)
  (.cons (.par [2, 3] (.cons (.call "value_at" (.cons (.ix (.var 0) (.int 1)) (.cons (.var 1) .nil))) (.cons (.call "value_at" (.cons (.ix (.var 0) (.int 2)) (.cons (.var 1) .nil))) .nil)))
  (.cons (.ife (.or (.not (.val (.cmp2 .le .lt (.int 0) (.var 2) (.var 1)))) (.not (.val (.cmp2 .le .lt (.int 0) (.var 3) (.var 1)))))
  (.cons (.ret (.lrg false (.int 0) (.var 1)))
  .nil)
  .nil)
  (.cons (.ife (.val (.cmp .eq (.ix (.var 0) (.int 0)) (.str "exchange")))
  (.cons (.ret (.call "exchange_at" (.cons (.var 2) (.cons (.var 3) (.cons (.var 1) .nil)))))
  .nil)
  .nil)
  (.cons (.ret (.ife (.val (.cmp .lt (.var 2) (.var 3))) (.call "roll_at" (.cons (.var 2) (.cons (.var 3) (.cons (.ix (.var 0) (.int 3)) (.cons (.var 1) .nil))))) (.lrg false (.int 0) (.var 1))))
  .nil))))), false⟩
def lawmF : FnD := ⟨["row", "move"], ["row", "move", "k", "x", "y", "found", "block", "c", "cut"], (.cons (.set 2 (.blt .len (.cons (.var 0) .nil)))
  (.cons (.ife (.val (.cmp .eq (.ix (.var 1) (.int 0)) (.str "turn")))
  (.cons (.ret (.rev false (.var 0)))
  .nil)
  .nil)
  (.cons (.par [3, 4] (.cons (.call "_law_value" (.cons (.ix (.var 1) (.int 1)) (.cons (.var 2) .nil))) (.cons (.call "_law_value" (.cons (.ix (.var 1) (.int 2)) (.cons (.var 2) .nil))) .nil)))
  (.cons (.ife (.or (.val (.cmp .lt (.var 3) (.int 0))) (.or (.val (.cmp .lt (.var 4) (.int 0))) (.or (.val (.cmp .ge (.var 3) (.var 2))) (.val (.cmp .ge (.var 4) (.var 2))))))
  (.cons (.ret (.blt (.list false) (.cons (.var 0) .nil)))
  .nil)
  .nil)
  (.cons (.ife (.val (.cmp .eq (.ix (.var 1) (.int 0)) (.str "exchange")))
  (.cons (.set 5 (.blt (.list true) (.cons (.var 0) .nil)))
  (.cons (.sub2 (.var 5) (.var 3) (.var 5) (.var 4) (.tup (.cons (.ix (.var 0) (.var 4)) (.cons (.ix (.var 0) (.var 3)) .nil))))
  (.cons (.ret (.var 5))
  .nil)))
  .nil)
  (.cons (.ife (.val (.cmp .ge (.var 3) (.var 4)))
  (.cons (.ret (.blt (.list false) (.cons (.var 0) .nil)))
  .nil)
  .nil)
  (.cons (.set 6 (.sl false (.var 0) (.some (.var 3)) (.some (.bin false .add (.var 4) (.int 1)))))
  (.cons (.set 7 (.ife (.val (.cmp .eq (.ix (.var 1) (.int 3)) (.str "half"))) (.bin false .fdiv (.blt .len (.cons (.var 6) .nil)) (.int 2)) (.blt .int (.cons (.ix (.var 1) (.int 3)) .nil))))
  (.cons (.set 8 (.bin false .sub (.blt .len (.cons (.var 6) .nil)) (.bin false .mod (.blt .int (.cons (.var 7) .nil)) (.blt .len (.cons (.var 6) .nil)))))
  (.cons (.ret (.bin false .add (.bin false .add (.bin false .add (.sl false (.var 0) .none (.some (.var 3))) (.sl false (.var 6) (.some (.var 8)) .none)) (.sl false (.var 6) .none (.some (.var 8)))) (.sl false (.var 0) (.some (.bin false .add (.var 4) (.int 1))) .none)))
  .nil)))))))))), false⟩
def headS : SSs → SS
  | .cons s _ => s
  | _ => .pas
def tailS : SSs → SSs
  | .cons _ r => r
  | _ => .nil
section
variable {Γ Γe Γr : MP.Env} {M : Mem} {n : Nat} {X Y : Int} {w1 w2 am : Str} {ws : List D} {A : Option Int}
theorem ex_same {p x y : Nat} : (if p = y then (x : Int) else if p = x then (y : Int) else p) = if (p : Int) = y then (x : Int) else if (p : Int) = x then (y : Int) else p := by
  by_cases h1 : p = y
  · rw [if_pos h1, if_pos (c := (p : Int) = y) (by omega)]
  · rw [if_neg h1, if_neg (c := (p : Int) = y) (by omega)]
    by_cases h2 : p = x
    · rw [if_pos h2, if_pos (c := (p : Int) = x) (by omega)]
    · rw [if_neg h2, if_neg (c := (p : Int) = x) (by omega)]
theorem in_true {n X Y : Int} {r2 : List (Option D)} {o : Option D} (h : inB n X Y) : evT Γ (.or (.not (.val (.cmp2 .le .lt (.int 0) (.var 2) (.var 1)))) (.not (.val (.cmp2 .le .lt (.int 0) (.var 3) (.var 1))))) [o, some (.int n), some (.int X), some (.int Y)] M = .ok false M := by
  obtain ⟨h1, h2, h3, h4⟩ := h
  walk_at "ev"
theorem in_false {n X Y : Int} {o : Option D} (h : ¬ inB n X Y) : evT Γ (.or (.not (.val (.cmp2 .le .lt (.int 0) (.var 2) (.var 1)))) (.not (.val (.cmp2 .le .lt (.int 0) (.var 3) (.var 1))))) [o, some (.int n), some (.int X), some (.int Y)] M = .ok true M := by
  by_cases h1 : 0 ≤ X
  · by_cases h2 : X < n
    · by_cases h3 : 0 ≤ Y
      · by_cases h4 : Y < n
        · exact absurd ⟨h1, h2, h3, h4⟩ h
        · clear h; walk_at "ev"
      · clear h; walk_at "ev"
    · clear h; walk_at "ev"
  · clear h; walk_at "ev"
theorem vals_at (a1 : atI ws 1 = some (.str w1)) (a2 : atI ws 2 = some (.str w2)) (hX : Γ.cs.f "value_at" [.str w1, .int (n : Int)] M = .ok (.int X) M) (hY : Γ.cs.f "value_at" [.str w2, .int (n : Int)] M = .ok (.int Y) M) :
    evS Γ (.par [2, 3] (.cons (.call "value_at" (.cons (.ix (.var 0) (.int 1)) (.cons (.var 1) .nil))) (.cons (.call "value_at" (.cons (.ix (.var 0) (.int 2)) (.cons (.var 1) .nil))) .nil))) [some (.tup ws), some (.int (n : Int)), none, none] M = .nx [some (.tup ws), some (.int (n : Int)), some (.int X), some (.int Y)] M := by
  walk_at "ev"
theorem move_turn (hn : n ≤ 1000) : callF Γ moveF [.tup [.str "turn"], .int (n : Int)] M = .ok (.lst (rowD n (Mo.turn.f n))) M := by
  rw [callF_run (by rfl), show startD moveF.N [D.tup [.str "turn"], .int (n : Int)] = [some (.tup [.str "turn"]), some (.int (n : Int)), none, none] from rfl]
  have h1 : evE Γ (.rev false (.lrg false (.int 0) (.var 1))) [some (.tup [.str "turn"]), some (.int (n : Int)), none, none] M = .ok (.lst (rowD n (Mo.turn.f n))) M := by
    rw [e_rev, e_lrg_row rfl hn, mk_f, rb_ok, k_rev, ← row_rev]
    rfl
  have key : evSs Γ moveF.body [some (.tup [.str "turn"]), some (.int (n : Int)), none, none] M = .rt (.lst (rowD n (Mo.turn.f n))) M := by
    unfold moveF
    rw [ife_t (M' := M) (by kernel_rfl), ret_of h1, sg_rt]
  rw [key]
  exact fin_pure rfl (row_low 0)
theorem lrg_ret {r : Rho} {i : Nat} {rest : SSs} (hg : get r i = some (.int (n : Int))) (hn : n ≤ 1000) : evSs Γ (.cons (.ret (.lrg false (.int 0) (.var i))) rest) r M = .rt (.lst (rowD n idI)) M := ret_of (by rw [e_lrg_row hg hn, mk_f])
theorem move_exch (hn : n ≤ 1000) (hM : M.all (lowM M.length) = true) (he : Γ.cs.f "exchange_at" = callF Γe exF) (hX : Γ.cs.f "value_at" [.str w1, .int (n : Int)] M = .ok (.int X) M) (hY : Γ.cs.f "value_at" [.str w2, .int (n : Int)] M = .ok (.int Y) M) :
    callF Γ moveF [.tup [.str "exchange", .str w1, .str w2], .int (n : Int)] M = .ok (.lst (rowD n ((Mo.exch X Y).f n))) M := by
  rw [callF_run (by rfl), show startD moveF.N [D.tup [.str "exchange", .str w1, .str w2], .int (n : Int)] = [some (.tup [.str "exchange", .str w1, .str w2]), some (.int (n : Int)), none, none] from rfl]
  have hv := vals_at (ws := [.str "exchange", .str w1, .str w2]) rfl rfl hX hY
  have key : evSs Γ moveF.body [some (.tup [.str "exchange", .str w1, .str w2]), some (.int (n : Int)), none, none] M = .rt (.lst (rowD n ((Mo.exch X Y).f n))) M := by
    unfold moveF
    rw [ife_f (M' := M) (by kernel_rfl), st_of hv]
    by_cases hb : inB n X Y
    · have hb2 := hb
      unfold inB at hb2
      obtain ⟨x, rfl⟩ : ∃ x : Nat, X = (x : Int) := ⟨X.toNat, by omega⟩
      obtain ⟨y, rfl⟩ : ∃ y : Nat, Y = (y : Int) := ⟨Y.toNat, by omega⟩
      have hc := ex_ok (Γ := Γe) (M := M) (n := n) (x := x) (y := y) hn (by omega) (by omega) hM
      have e : (rowD n fun q => if q = y then (x : Int) else if q = x then (y : Int) else q) = rowD n ((Mo.exch x y).f n) := congrArg (List.map D.int) (row_ext fun p hp => by
        rw [f_exch, if_pos hb]
        exact ex_same)
      rw [e, ← he] at hc
      rw [ife_f (in_true (r2 := []) hb), ife_t (M' := M) (by kernel_rfl), ret_of (d := .lst (rowD n ((Mo.exch x y).f n))) (M' := M), sg_rt]
      generalize rowD n ((Mo.exch x y).f n) = R0 at *
      clear he hX hY hv hb hb2 e
      walk_at "ev"
    · have e : rowD n idI = rowD n ((Mo.exch X Y).f n) := congrArg (List.map D.int) (row_ext fun p hp => by rw [f_exch, if_neg hb])
      rw [ife_t (in_false hb), lrg_ret rfl hn, sg_rt, e]
  rw [key]
  exact fin_pure rfl (row_low 0)
theorem move_roll (hn : n ≤ 1000) (hM : M.all (lowM M.length) = true) (hr : Γ.cs.f "roll_at" = callF Γr rollF) (hX : Γ.cs.f "value_at" [.str w1, .int (n : Int)] M = .ok (.int X) M) (hY : Γ.cs.f "value_at" [.str w2, .int (n : Int)] M = .ok (.int Y) M)
    (hB : ∀ (m : Int) (o0 o1 o3 o4 : Option D) (M' : Mem), evE Γr byE [o0, o1, some (.str am), o3, o4, some (.int m), none, none] M' = .ok (.int (amV A m)) M') :
    callF Γ moveF [.tup [.str "roll", .str w1, .str w2, .str am], .int (n : Int)] M = .ok (.lst (rowD n ((Mo.roll X Y A).f n))) M := by
  rw [callF_run (by rfl), show startD moveF.N [D.tup [.str "roll", .str w1, .str w2, .str am], .int (n : Int)] = [some (.tup [.str "roll", .str w1, .str w2, .str am]), some (.int (n : Int)), none, none] from rfl]
  have hv := vals_at (ws := [.str "roll", .str w1, .str w2, .str am]) rfl rfl hX hY
  have key : evSs Γ moveF.body [some (.tup [.str "roll", .str w1, .str w2, .str am]), some (.int (n : Int)), none, none] M = .rt (.lst (rowD n ((Mo.roll X Y A).f n))) M := by
    unfold moveF
    rw [ife_f (M' := M) (by kernel_rfl), st_of hv]
    by_cases hb : inB n X Y
    · rw [ife_f (in_true (r2 := []) hb), ife_f (M' := M) (by kernel_rfl)]
      by_cases hl : X < Y
      · have hb2 := hb
        unfold inB at hb2
        obtain ⟨x, rfl⟩ : ∃ x : Nat, X = (x : Int) := ⟨X.toNat, by omega⟩
        obtain ⟨m, hm⟩ : ∃ m : Nat, Y = (x : Int) + m - 1 ∧ 1 ≤ m := ⟨(Y - x + 1).toNat, by omega⟩
        obtain ⟨rfl, hm1⟩ := hm
        have hc := roll_ok (Γ := Γr) (M := M) (n := n) (x := x) (many := m) (am := am) (b := amV A m) hn hm1 (by omega) hM (hB ..)
        have e : rowD n (rollI x m (amV A m)) = rowD n ((Mo.roll x ((x : Int) + m - 1) A).f n) := congrArg (List.map D.int) (row_ext fun p hp => by
          rw [f_roll, if_pos ⟨hb, hl⟩, show (x : Int) + m - 1 - x + 1 = m by omega])
        rw [e, ← hr] at hc
        rw [ret_of (d := .lst (rowD n ((Mo.roll x ((x : Int) + m - 1) A).f n))) (M' := M)]
        have at3 : atI [D.str "roll", .str w1, .str w2, .str am] 3 = some (.str am) := rfl
        generalize rowD n ((Mo.roll x ((x : Int) + m - 1) A).f n) = R0 at *
        generalize [D.str "roll", .str w1, .str w2, .str am] = W at *
        clear hr hX hY hv hb hb2 e hB
        walk_at "ev"
      · have e : rowD n idI = rowD n ((Mo.roll X Y A).f n) := congrArg (List.map D.int) (row_ext fun p hp => by rw [f_roll, if_neg (fun z => hl z.2)])
        have h1 := e_lrg_row (Γ := Γ) (m := false) (i := 1) (n := n) (M := M) (r := [some (D.tup [.str "roll", .str w1, .str w2, .str am]), some (.int (n : Int)), some (.int X), some (.int Y)]) rfl hn
        rw [mk_f] at h1
        have ht : evT Γ (.val (.cmp .lt (.var 2) (.var 3))) [some (D.tup [.str "roll", .str w1, .str w2, .str am]), some (.int (n : Int)), some (.int X), some (.int Y)] M = .ok false M := by
          clear hv h1 e hX hY hr hB
          walk_at "ev"
        rw [ret_of (d := .lst (rowD n ((Mo.roll X Y A).f n))) (M' := M)]
        rw [e_ife, ht, rb_ok, k_ifef, h1, e]
    · have e : rowD n idI = rowD n ((Mo.roll X Y A).f n) := congrArg (List.map D.int) (row_ext fun p hp => by rw [f_roll, if_neg (fun z => hb z.1)])
      rw [ife_t (in_false hb), lrg_ret rfl hn, sg_rt, e]
  rw [key]
  exact fin_pure rfl (row_low 0)
/-! ### the law's way -/
theorem lv_at {o : Option D} {R : List D} {o5 o6 o7 o8 : Option D} (a1 : atI ws 1 = some (.str w1)) (a2 : atI ws 2 = some (.str w2)) (hX : Γ.cs.f "_law_value" [.str w1, .int (n : Int)] M = .ok (.int X) M) (hY : Γ.cs.f "_law_value" [.str w2, .int (n : Int)] M = .ok (.int Y) M) :
    evS Γ (.par [3, 4] (.cons (.call "_law_value" (.cons (.ix (.var 1) (.int 1)) (.cons (.var 2) .nil))) (.cons (.call "_law_value" (.cons (.ix (.var 1) (.int 2)) (.cons (.var 2) .nil))) .nil))) [some (.lst R), some (.lst ws), some (.int (n : Int)), none, none, none, none, none, none] M = .nx [some (.lst R), some (.lst ws), some (.int (n : Int)), some (.int X), some (.int Y), none, none, none, none] M := by
  walk_at "ev"
abbrev outT : ST := .or (.val (.cmp .lt (.var 3) (.int 0))) (.or (.val (.cmp .lt (.var 4) (.int 0))) (.or (.val (.cmp .ge (.var 3) (.var 2))) (.val (.cmp .ge (.var 4) (.var 2)))))
theorem out_false {n X Y : Int} {o0 o1 o5 o6 o7 o8 : Option D} (h : inB n X Y) : evT Γ outT [o0, o1, some (.int n), some (.int X), some (.int Y), o5, o6, o7, o8] M = .ok false M := by
  obtain ⟨h1, h2, h3, h4⟩ := h
  have g1 : ¬ X < 0 := by omega
  have g2 : ¬ Y < 0 := by omega
  have g3 : ¬ n ≤ X := by omega
  have g4 : ¬ n ≤ Y := by omega
  clear h1 h2 h3 h4
  unfold outT
  walk_at "ev"
theorem out_true {n X Y : Int} {o0 o1 o5 o6 o7 o8 : Option D} (h : ¬ inB n X Y) : evT Γ outT [o0, o1, some (.int n), some (.int X), some (.int Y), o5, o6, o7, o8] M = .ok true M := by
  unfold outT
  by_cases h1 : X < 0
  · clear h; walk_at "ev"
  · by_cases h2 : Y < 0
    · clear h; walk_at "ev"
    · by_cases h3 : n ≤ X
      · clear h; walk_at "ev"
      · by_cases h4 : n ≤ Y
        · clear h; walk_at "ev"
        · exact absurd ⟨by omega, by omega, by omega, by omega⟩ h
theorem len_st {R : List D} (hR : (R.length : Int) = n) : evE Γ (.blt .len (.cons (.var 0) .nil)) [some (.lst R), some (.lst ws), none, none, none, none, none, none, none] M = .ok (.int (n : Int)) M := by
  rw [← hR]
  walk_at "ev"
theorem lawm_turn : callF Γ lawmF [.lst (rowD n idI), .lst [.str "turn"]] M = .ok (.lst (rowD n (Mo.turn.f n))) M := by
  rw [callF_run (by rfl), show startD lawmF.N [D.lst (rowD n idI), .lst [.str "turn"]] = [some (.lst (rowD n idI)), some (.lst [.str "turn"]), none, none, none, none, none, none, none] from rfl]
  have hl := len_st (Γ := Γ) (M := M) (ws := [.str "turn"]) (R := rowD n idI) (n := n) (by rw [row_len])
  have key : evSs Γ lawmF.body [some (.lst (rowD n idI)), some (.lst [.str "turn"]), none, none, none, none, none, none, none] M = .rt (.lst (rowD n (Mo.turn.f n))) M := by
    rw [← row_rev]
    unfold lawmF
    generalize rowD n idI = R at *
    rw [set_of hl, ife_t (M' := M) (by kernel_rfl), ret_of (d := .lst R.reverse) (M' := M) (by rfl), sg_rt]
  rw [key]
  exact fin_pure rfl (row_low 0)
theorem lawm_exch (hn : n ≤ 1000) (hM : M.all (lowM M.length) = true) (hX : Γ.cs.f "_law_value" [.str w1, .int (n : Int)] M = .ok (.int X) M) (hY : Γ.cs.f "_law_value" [.str w2, .int (n : Int)] M = .ok (.int Y) M) :
    callF Γ lawmF [.lst (rowD n idI), .lst [.str "exchange", .str w1, .str w2]] M = .ok (.lst (rowD n ((Mo.exch X Y).f n))) M := by
  rw [callF_run (by rfl), show startD lawmF.N [D.lst (rowD n idI), .lst [.str "exchange", .str w1, .str w2]] = [some (.lst (rowD n idI)), some (.lst [.str "exchange", .str w1, .str w2]), none, none, none, none, none, none, none] from rfl]
  have hl := len_st (Γ := Γ) (M := M) (ws := [.str "exchange", .str w1, .str w2]) (R := rowD n idI) (n := n) (by rw [row_len])
  have hv := lv_at (M := M) (R := rowD n idI) (o := none) (o5 := none) (o6 := none) (o7 := none) (o8 := none) (ws := [.str "exchange", .str w1, .str w2]) rfl rfl hX hY
  by_cases hb : inB n X Y
  · have hb2 := hb
    unfold inB at hb2
    obtain ⟨x, rfl⟩ : ∃ x : Nat, X = (x : Int) := ⟨X.toNat, by omega⟩
    obtain ⟨y, rfl⟩ : ∃ y : Nat, Y = (y : Int) := ⟨Y.toNat, by omega⟩
    have hx : x < n := by omega
    have hy : y < n := by omega
    have h2 := subL_row (M := M) (f := idI) (v := (y : Int)) hx
    have h3 := subL_row (M := M) (f := fun q => if q = x then (y : Int) else idI q) (v := (x : Int)) hy
    have e : (rowD n fun q => if q = y then (x : Int) else if q = x then (y : Int) else idI q) = rowD n ((Mo.exch x y).f n) := congrArg (List.map D.int) (row_ext fun p hp => by
      rw [f_exch, if_pos hb]
      exact ex_same)
    have ax : atI (rowD n idI) (x : Int) = some (.int (x : Int)) := row_at (f := idI) hx
    have ay : atI (rowD n idI) (y : Int) = some (.int (y : Int)) := row_at (f := idI) hy
    have z2 : 0 + 1 + 1 ≤ sizeLine := by decide
    have key : evSs Γ lawmF.body [some (.lst (rowD n idI)), some (.lst [.str "exchange", .str w1, .str w2]), none, none, none, none, none, none, none] M = .rt (.ref M.length) (M ++ [.lst (rowD n ((Mo.exch x y).f n))]) := by
      rw [← e]
      unfold lawmF
      rw [set_of hl]
      simp only [List.set_cons_succ, List.set_cons_zero]
      rw [ife_f (M' := M) (by kernel_rfl), st_of hv]
      rw [show ∀ A B, evSs Γ (.cons (.ife (.or (.val (.cmp .lt (.var 3) (.int 0))) (.or (.val (.cmp .lt (.var 4) (.int 0))) (.or (.val (.cmp .ge (.var 3) (.var 2))) (.val (.cmp .ge (.var 4) (.var 2)))))) A .nil) B) _ M = _ from fun A B => ife_f (out_false hb)]
      rw [ife_t (M' := M) (by kernel_rfl)]
      generalize rowD n idI = R0 at *
      generalize (rowD n fun q => if q = x then (y : Int) else idI q) = R1 at *
      generalize (rowD n fun q => if q = y then (x : Int) else if q = x then (y : Int) else idI q) = R2 at *
      generalize (x : Int) = X at *
      generalize (y : Int) = Y at *
      clear hM hx hy hn hl hv hb hb2 hX hY e
      walk_at "ev"
    rw [key]
    exact fin_lst (row_low _) hM
  · have e : rowD n idI = rowD n ((Mo.exch X Y).f n) := congrArg (List.map D.int) (row_ext fun p hp => by rw [f_exch, if_neg hb])
    have key : evSs Γ lawmF.body [some (.lst (rowD n idI)), some (.lst [.str "exchange", .str w1, .str w2]), none, none, none, none, none, none, none] M = .rt (.lst (rowD n ((Mo.exch X Y).f n))) M := by
      rw [← e]
      unfold lawmF
      generalize rowD n idI = R at *
      rw [set_of hl]
      simp only [List.set_cons_succ, List.set_cons_zero]
      rw [ife_f (M' := M) (by kernel_rfl), st_of hv]
      rw [ife_t (out_true hb), ret_of (d := .lst R) (M' := M) (by rfl), sg_rt]
    rw [key]
    exact fin_pure rfl (row_low 0)
def cE : SE := (.ife (.val (.cmp .eq (.ix (.var 1) (.int 3)) (.str "half"))) (.bin false .fdiv (.blt .len (.cons (.var 6) .nil)) (.int 2)) (.blt .int (.cons (.ix (.var 1) (.int 3)) .nil)))
theorem lawm_roll (hn : n ≤ 1000) (hX : Γ.cs.f "_law_value" [.str w1, .int (n : Int)] M = .ok (.int X) M) (hY : Γ.cs.f "_law_value" [.str w2, .int (n : Int)] M = .ok (.int Y) M)
    (hC : ∀ (blk : List D) (o0 o2 o3 o4 : Option D) (M' : Mem), evE Γ cE [o0, some (.lst [.str "roll", .str w1, .str w2, .str am]), o2, o3, o4, none, some (.lst blk), none, none] M' = .ok (.int (amV A blk.length)) M') :
    callF Γ lawmF [.lst (rowD n idI), .lst [.str "roll", .str w1, .str w2, .str am]] M = .ok (.lst (rowD n ((Mo.roll X Y A).f n))) M := by
  have hz : sizeLine = 16777216 := sizeLine_eq
  rw [callF_run (by rfl), show startD lawmF.N [D.lst (rowD n idI), .lst [.str "roll", .str w1, .str w2, .str am]] = [some (.lst (rowD n idI)), some (.lst [.str "roll", .str w1, .str w2, .str am]), none, none, none, none, none, none, none] from rfl]
  have hl := len_st (Γ := Γ) (M := M) (ws := [.str "roll", .str w1, .str w2, .str am]) (R := rowD n idI) (n := n) (by rw [row_len])
  have hv := lv_at (M := M) (R := rowD n idI) (o := none) (o5 := none) (o6 := none) (o7 := none) (o8 := none) (ws := [.str "roll", .str w1, .str w2, .str am]) rfl rfl hX hY
  have key : evSs Γ lawmF.body [some (.lst (rowD n idI)), some (.lst [.str "roll", .str w1, .str w2, .str am]), none, none, none, none, none, none, none] M = .rt (.lst (rowD n ((Mo.roll X Y A).f n))) M := by
    unfold lawmF
    rw [set_of hl]
    simp only [List.set_cons_succ, List.set_cons_zero]
    rw [ife_f (M' := M) (by kernel_rfl), st_of hv]
    by_cases hb : inB n X Y
    · rw [ife_f (out_false hb), ife_f (M' := M) (by kernel_rfl)]
      by_cases hxy : X < Y
      · have ht : ∀ o0 o1 o2 : Option D, evT Γ (.val (.cmp .ge (.var 3) (.var 4))) [o0, o1, o2, some (.int X), some (.int Y), none, none, none, none] M = .ok false M := fun o0 o1 o2 => by
          have h2 : ¬ Y ≤ X := by omega
          clear hl hv hX hY hC hb hz
          walk_at "ev"
        rw [ife_f (ht _ _ _)]
        have hb2 := hb
        unfold inB at hb2
        obtain ⟨x, rfl⟩ : ∃ x : Nat, X = (x : Int) := ⟨X.toNat, by omega⟩
        obtain ⟨m, hm⟩ : ∃ m : Nat, Y = (x : Int) + m - 1 ∧ 1 ≤ m := ⟨(Y - x + 1).toNat, by omega⟩
        obtain ⟨rfl, hm1⟩ := hm
        have e : rowD n (rollI x m (amV A m)) = rowD n ((Mo.roll x ((x : Int) + m - 1) A).f n) := congrArg (List.map D.int) (row_ext fun p hp => by
          rw [f_roll, if_pos ⟨hb, hxy⟩, show (x : Int) + m - 1 - x + 1 = m by omega])
        rw [← e]
        have n0 := Int.emod_nonneg (amV A m) (show (m : Int) ≠ 0 by omega)
        have n1 := Int.emod_lt_of_pos (amV A m) (show (0 : Int) < m by omega)
        obtain ⟨cut, hcut⟩ : ∃ cut : Nat, (cut : Int) = m - amV A m % m := ⟨((m : Int) - amV A m % m).toNat, by omega⟩
        have hs := roll_segs (n := n) (x := x) (m := m) (cut := cut) (b := amV A m) (by omega) hm1 hcut (by omega) (by omega)
        have y1 : (x : Int) + m - 1 + 1 = ((x + m : Nat) : Int) := by omega
        have bl : ((seg x m).length : Int) = m := by rw [row_len]
        have s1 : slD false M (.lst (rowD n idI)) (some (x : Int)) (some ((x : Int) + m - 1 + 1)) = .ok (.lst (seg x m)) M := by
          rw [y1, seg_id]
          show Rs.ok (D.lst (cutG (seg 0 n) (some (x : Int)) (some ((x + m : Nat) : Int)))) M = _
          rw [cut_seg (by omega) (by omega), Nat.zero_add, Nat.add_sub_cancel_left]
        have s2 : slD false M (.lst (rowD n idI)) none (some (x : Int)) = .ok (.lst (seg 0 x)) M := by
          rw [seg_id]
          show Rs.ok (D.lst (cutG (seg 0 n) none (some (x : Int)))) M = _
          rw [cut_seg_hi (by omega)]
        have s3 : slD false M (.lst (seg x m)) (some (cut : Int)) none = .ok (.lst (seg (x + cut) (m - cut))) M := by
          show Rs.ok (D.lst (cutG (seg x m) (some (cut : Int)) none)) M = _
          rw [cut_seg_lo (by omega)]
        have s4 : slD false M (.lst (seg x m)) none (some (cut : Int)) = .ok (.lst (seg x cut)) M := by
          show Rs.ok (D.lst (cutG (seg x m) none (some (cut : Int)))) M = _
          rw [cut_seg_hi (by omega)]
        have s5 : slD false M (.lst (rowD n idI)) (some ((x : Int) + m - 1 + 1)) none = .ok (.lst (seg (x + m) (n - (x + m)))) M := by
          rw [y1, seg_id]
          show Rs.ok (D.lst (cutG (seg 0 n) (some ((x + m : Nat) : Int)) none)) M = _
          rw [cut_seg_lo (by omega), Nat.zero_add]
        have a1 : binD false .add (.lst (seg 0 x)) (.lst (seg (x + cut) (m - cut))) M = .ok (.lst (seg 0 x ++ seg (x + cut) (m - cut))) M := by
          rw [b_addl, if_pos (by rw [row_len, row_len]; omega), mk_f]
        have a2 : binD false .add (.lst (seg 0 x ++ seg (x + cut) (m - cut))) (.lst (seg x cut)) M = .ok (.lst ((seg 0 x ++ seg (x + cut) (m - cut)) ++ seg x cut)) M := by
          rw [b_addl, if_pos (by rw [List.length_append, row_len, row_len, row_len]; omega), mk_f]
        have a3 : binD false .add (.lst ((seg 0 x ++ seg (x + cut) (m - cut)) ++ seg x cut)) (.lst (seg (x + m) (n - (x + m)))) M = .ok (.lst (rowD n (rollI x m (amV A m)))) M := by
          rw [b_addl, if_pos (by rw [List.length_append, List.length_append, row_len, row_len, row_len, row_len]; omega), mk_f, hs]
        have h0 : (0 : Int) < m := by omega
        have hC2 := hC (seg x m) (some (.lst (rowD n idI))) (some (.int (n : Int))) (some (.int (x : Int))) (some (.int ((x : Int) + m - 1))) M
        rw [bl] at hC2
        unfold cE at hC2
        have hz2 : (m : Int) - amV A m % m = cut := hcut.symm
        generalize rowD n (rollI x m (amV A m)) = R9 at *
        generalize (seg 0 x ++ seg (x + cut) (m - cut)) ++ seg x cut = R8 at *
        generalize seg 0 x ++ seg (x + cut) (m - cut) = R7 at *
        generalize seg 0 x = R6 at *
        generalize seg (x + m) (n - (x + m)) = R5 at *
        generalize seg (x + cut) (m - cut) = R4 at *
        generalize seg x cut = R3 at *
        generalize seg x m = R2 at *
        generalize rowD n idI = R1 at *
        generalize (cut : Int) = C at *
        generalize (m : Int) = Mm at *
        generalize (x : Int) = Xx at *
        generalize amV A Mm = Am at *
        clear hs hl hv hX hY hC hb hb2 e hcut y1 n0 n1 hz ht hxy
        walk_at "ev"
      · have ht : ∀ o0 o1 o2 : Option D, evT Γ (.val (.cmp .ge (.var 3) (.var 4))) [o0, o1, o2, some (.int X), some (.int Y), none, none, none, none] M = .ok true M := fun o0 o1 o2 => by
          have h2 : Y ≤ X := by omega
          clear hl hv hX hY hC hb hz
          walk_at "ev"
        have e : rowD n idI = rowD n ((Mo.roll X Y A).f n) := congrArg (List.map D.int) (row_ext fun p hp => by rw [f_roll, if_neg (fun z => hxy z.2)])
        rw [ife_t (ht _ _ _), ← e]
        generalize rowD n idI = R
        rw [ret_of (d := .lst R) (M' := M) (by rfl), sg_rt]
    · have e : rowD n idI = rowD n ((Mo.roll X Y A).f n) := congrArg (List.map D.int) (row_ext fun p hp => by rw [f_roll, if_neg (fun z => hb z.1)])
      rw [ife_t (out_true hb), ← e]
      generalize rowD n idI = R
      rw [ret_of (d := .lst R) (M' := M) (by rfl), sg_rt]
  rw [key]
  exact fin_pure rfl (row_low 0)
end
end MX

/-! Words: read, made, at a size. -/
namespace MX
open MP
open PySem PySem.Spec PyProof.Rows L2
local macro_rules | `(tactic| walk_at "ev") => `(tactic| simp only [e_bin, k_bin, e_neg, e_not, e_cmp, k_cmp, e_cmp2, k_c1, k_c2, k_c3t, k_c3f, e_and, k_andt, k_andf, e_or, k_ort, k_orf, e_ife, k_ifet, k_ifef, e_tup, k_tup, e_lst, k_lst, e_ix, k_ix, k_ix2, e_sl, k_sl, k_sl2, k_sl3, e_rev, k_rev, e_call, e_blt, k_blt, e_me, k_me, k_me2, e_isi, k_isi, e_lrg, k_lrg, k_lrg2, e_int, e_str, e_bl, e_non, e_var, e_cst, v_d, v_b, es_nil, es_cons, k_es, k_es2, o_none, o_some, k_o, t_val, k_val, t_tru, k_tru, t_and, t_or, t_not, k_tat, k_taf, k_tot, k_tof, k_tn, c_yes, c_one, i_seq, k_seql, k_seqt, i_r1, k_r1, i_r2, k_r2, k_r3, ss_nil, ss_cons, s_set', k_set, s_par', k_par, s_unp', k_unp, s_sub', k_su, k_su2, k_su3, s_ex', k_ex, s_ret', s_ret0', s_if', k_ift, k_iff, s_for', k_for, s_brk', s_cnt', s_pas', s_try', k_try_rt, k_try_nx, setAll, get0, getS, nth0, nthS, rb_ok, rb_exc, rg_ok, rg_exc, sg_nx, sg_rt, sg_bk, sg_ct, sg_exc, opt_s, optS_s, b_add, b_sub, b_mul, b_fdiv, b_mod, b_pow, u_neg, u_not, c_lt, c_le, c_gt, c_ge, c_eq, c_ne, c_is, c_isnot, eq_int, l_lst, l_tup, f_len, f_int, f_list_scr, f_list_lst, f_list_tup, mk_f, mk_t, ix_lst, ix_tup, t_bl, t_int, t_non, List.set_cons_zero, List.set_cons_succ, List.length_nil, List.length_cons, List.length_map, decide_true, decide_false, ↓reduceIte, Int.reduceLT, Bool.not_true, Bool.not_false, Bool.true_and, Bool.false_and, reduceCtorEq, eq_self, e_make, k_mk, e_cm, k_cm, k_cm1, k_cm2, e_fld, k_fld, e_lc, k_lcv, k_lca, no_ok, i_en, k_enl, k_stepT, c_in, c_notin, s_sub2', k_s1, k_s2, k_s3, k_s4, k_s5, k_s6, ss_gc, *])
/-! ### sorted rows -/
def Srt : List Int → Prop := List.Pairwise (· ≤ ·)
theorem insI_perm (x : Int) : ∀ l : List Int, (insI x l).Perm (x :: l)
  | [] => .refl _
  | y :: r => by
    unfold insI
    split
    · exact .refl _
    · exact ((insI_perm x r).cons y).trans (List.Perm.swap x y r)
theorem sortI_perm : ∀ l : List Int, (sortI l).Perm l
  | [] => .refl _
  | x :: r => (insI_perm x (sortI r)).trans ((sortI_perm r).cons x)
theorem insI_srt (x : Int) : ∀ {l : List Int}, Srt l → Srt (insI x l)
  | [], _ => List.pairwise_singleton ..
  | y :: r, h => by
    unfold insI
    obtain ⟨h1, h2⟩ := List.pairwise_cons.mp h
    split
    · rename_i hx
      refine List.pairwise_cons.mpr ⟨fun z hz => ?_, h⟩
      rcases List.mem_cons.mp hz with rfl | hz
      · exact hx
      · exact Int.le_trans hx (h1 z hz)
    · rename_i hx
      refine List.pairwise_cons.mpr ⟨fun z hz => ?_, insI_srt x h2⟩
      rcases List.mem_cons.mp ((insI_perm x r).mem_iff.mp hz) with rfl | hz
      · omega
      · exact h1 z hz
theorem sortI_srt : ∀ l : List Int, Srt (sortI l)
  | [] => .nil
  | x :: r => insI_srt x (sortI_srt r)
theorem id_srt (n : Nat) : Srt (rowI n idI) := by
  unfold Srt rowI
  rw [List.pairwise_map]
  exact List.pairwise_lt_range.imp fun {a b} h => by unfold idI; omega
theorem nd_row {n : Nat} {f : Nat → Int} (P : Perm n f) : (rowI n f).Nodup := by
  unfold rowI
  refine List.Pairwise.map _ (R := fun a b => a < n ∧ b < n ∧ a ≠ b) (fun a b h e => h.2.2 (P.inj a h.1 b h.2.1 e)) ?_
  refine List.Pairwise.imp_of_mem (R := (· ≠ ·)) (fun {a b} ha hb h => ⟨List.mem_range.mp ha, List.mem_range.mp hb, h⟩) List.nodup_range
theorem perm_row {n : Nat} {f : Nat → Int} (P : Perm n f) : (rowI n f).Perm (rowI n idI) := by
  have sub : ∀ x ∈ rowI n f, x ∈ rowI n idI := fun x hx => by
    obtain ⟨p, hp, rfl⟩ := List.mem_map.mp hx
    have hp := List.mem_range.mp hp
    have := P.lo p hp
    have := P.hi p hp
    exact List.mem_map.mpr ⟨(f p).toNat, List.mem_range.mpr (by omega), by unfold idI; omega⟩
  refine (List.perm_ext_iff_of_nodup (nd_row P) (nd_row (id_perm n))).mpr fun x => ⟨sub x, fun hx => ?_⟩
  by_cases m : x ∈ rowI n f
  · exact m
  · have l := List.Nodup.length_le_of_subset (l₁ := x :: rowI n f) (l₂ := rowI n idI) (List.nodup_cons.mpr ⟨m, nd_row P⟩) fun y hy => by
      rcases List.mem_cons.mp hy with rfl | hy
      · exact hx
      · exact sub y hy
    rw [List.length_cons, rowI_len, rowI_len] at l
    omega
theorem sort_row {n : Nat} {f : Nat → Int} (P : Perm n f) : sortI (rowI n f) = rowI n idI :=
  List.Perm.eq_of_pairwise (le := (· ≤ ·)) (fun a b _ _ h1 h2 => Int.le_antisymm h1 h2) (sortI_srt _) (id_srt n) ((sortI_perm _).trans (perm_row P))
/-! ### words of a text -/
theorem split_join {ws : List Str} (h : ws ≠ []) (hn : ∀ w ∈ ws, 32 ∉ TL.tl w) : Txt.split (Txt.join " " ws) " " = ws := by
  apply TL.map_tl_inj
  rw [TL.split_spl _ _ (by decide +kernel) (TL.kind_ok (by decide +kernel)), TL.join_eq, TL.tl_join]
  refine TL.spl_join (s := 32) (S := []) (by simpa using h) fun p hp => ?_
  obtain ⟨w, hw, rfl⟩ := List.mem_map.mp hp
  exact hn w hw
def wordAtF : FnD := ⟨["words", "at"], ["words", "at"], (.cons (.ife (.val (.cmp .ge (.var 1) (.blt .len (.cons (.var 0) .nil))))
  (.cons (.rai "BadWord" (.cons (.blt .len (.cons (.var 0) .nil)) .nil))
  .nil)
  .nil)
  (.cons (.ret (.ix (.var 0) (.var 1)))
  .nil)), false⟩
def readPlaceF : FnD := ⟨["words", "at"], ["words", "at", "word"], (.cons (.set 2 (.call "word_at" (.cons (.var 0) (.cons (.var 1) .nil))))
  (.cons (.ife (.val (.cmp .is_ (.call "place_parts" (.cons (.var 2) .nil)) .non))
  (.cons (.rai "BadWord" (.cons (.var 1) .nil))
  .nil)
  .nil)
  (.cons (.ret (.var 2))
  .nil))), false⟩
def readMoveF : FnD := ⟨["words", "at", "moves"], ["words", "at", "moves", "kind", "x", "y", "amount"], (.cons (.set 3 (.call "word_at" (.cons (.var 0) (.cons (.var 1) .nil))))
  (.cons (.ife (.and (.val (.cmp .eq (.var 3) (.str "turn"))) (.val (.cmp .notin (.tup (.cons (.str "turn") .nil)) (.var 2))))
  (.cons (.ret (.tup (.cons (.var 3) .nil)))
  .nil)
  .nil)
  (.cons (.ife (.val (.cmp .notin (.var 3) (.tup (.cons (.str "exchange") (.cons (.str "roll") .nil)))))
  (.cons (.rai "BadWord" (.cons (.var 1) .nil))
  .nil)
  .nil)
  (.cons (.set 4 (.call "read_place" (.cons (.var 0) (.cons (.bin false .add (.var 1) (.int 1)) .nil))))
  (.cons (.set 5 (.call "read_place" (.cons (.var 0) (.cons (.bin false .add (.var 1) (.int 2)) .nil))))
  (.cons (.ife (.val (.cmp .eq (.var 3) (.str "exchange")))
  (.cons (.ret (.tup (.cons (.var 3) (.cons (.var 4) (.cons (.var 5) .nil)))))
  .nil)
  .nil)
  (.cons (.set 6 (.call "word_at" (.cons (.var 0) (.cons (.bin false .add (.var 1) (.int 3)) .nil))))
  (.cons (.ife (.and (.val (.cmp .ne (.var 6) (.cst "HALF"))) (.val (.cmp .is_ (.call "number_of" (.cons (.var 6) .nil)) .non)))
  (.cons (.rai "BadWord" (.cons (.bin false .add (.var 1) (.int 3)) .nil))
  .nil)
  .nil)
  (.cons (.ret (.tup (.cons (.var 3) (.cons (.var 4) (.cons (.var 5) (.cons (.var 6) .nil))))))
  .nil))))))))), false⟩
def readMovesF : FnD := ⟨["words", "at"], ["words", "at", "moves", "move"], (.cons (.set 2 (.lst true .nil))
  (.cons (.whl (.tru (.bl true))
  (.cons (.set 3 (.call "read_move" (.cons (.var 0) (.cons (.var 1) (.cons (.var 2) .nil)))))
  (.cons (.ex (.meth .append (.var 2) (.cons (.var 3) .nil)))
  (.cons (.aug 1 .add (.blt .len (.cons (.var 3) .nil)))
  (.cons (.ife (.or (.val (.cmp .eq (.blt .len (.cons (.var 2) .nil)) (.cst "MOST_MOVES"))) (.or (.val (.cmp .eq (.var 1) (.blt .len (.cons (.var 0) .nil)))) (.val (.cmp .ne (.ix (.var 0) (.var 1)) (.str "then")))))
  (.cons (.ret (.tup (.cons (.blt .tuple (.cons (.var 2) .nil)) (.cons (.var 1) .nil))))
  .nil)
  .nil)
  (.cons (.aug 1 .add (.int 1))
  .nil))))))
  .nil)), false⟩
def partsF : FnD := ⟨["move"], ["move", "places", "amounts", "word"], (.cons (.set 1 (.lc false [3] (.nm 3) (.seq (.sl false (.var 0) (.some (.int 1)) (.some (.int 3)))) .yes (.call "place_parts" (.cons (.var 3) .nil))))
  (.cons (.set 2 (.lc false [3] (.nm 3) (.seq (.sl false (.var 0) (.some (.int 3)) .none)) .yes (.call "number_of" (.cons (.var 3) .nil))))
  (.cons (.ret (.tup (.cons (.ix (.var 0) (.int 0)) (.star (.var 1) (.star (.var 2) .nil)))))
  .nil))), false⟩
def ppF : FnD := ⟨["word"], ["word"], (.cons (.ife (.or (.val (.cmp .eq (.var 0) (.str "0"))) (.val (.cmp .in_ (.var 0) (.cst "NONZERO"))))
  (.cons (.ret (.tup (.cons (.str "front") (.cons (.blt .int (.cons (.var 0) .nil)) .nil))))
  .nil)
  .nil)
  (.cons (.ife (.val (.cmp .eq (.var 0) (.cst "HALF")))
  (.cons (.ret (.tup (.cons (.cst "HALF") (.cons (.int 0) .nil))))
  .nil)
  .nil)
  (.cons (.ife (.and (.tru (.meth .startswith (.var 0) (.cons (.str "half+") .nil))) (.val (.cmp .in_ (.sl false (.var 0) (.some (.int 5)) .none) (.cst "NONZERO"))))
  (.cons (.ret (.tup (.cons (.cst "HALF") (.cons (.blt .int (.cons (.sl false (.var 0) (.some (.int 5)) .none) .nil)) .nil))))
  .nil)
  .nil)
  (.cons (.ife (.and (.tru (.meth .startswith (.var 0) (.cons (.str "half-") .nil))) (.val (.cmp .in_ (.sl false (.var 0) (.some (.int 5)) .none) (.cst "NONZERO"))))
  (.cons (.ret (.tup (.cons (.cst "HALF") (.cons (.neg (.blt .int (.cons (.sl false (.var 0) (.some (.int 5)) .none) .nil))) .nil))))
  .nil)
  .nil)
  (.cons (.ife (.and (.tru (.meth .startswith (.var 0) (.cons (.str "-") .nil))) (.val (.cmp .in_ (.sl false (.var 0) (.some (.int 1)) .none) (.cst "NONZERO"))))
  (.cons (.ret (.tup (.cons (.str "end") (.cons (.blt .int (.cons (.sl false (.var 0) (.some (.int 1)) .none) .nil)) .nil))))
  .nil)
  .nil)
  (.cons (.ret .non)
  .nil)))))), false⟩
def numF : FnD := ⟨["word"], ["word", "digits"], (.cons (.set 1 (.ife (.tru (.meth .startswith (.var 0) (.cons (.str "-") .nil))) (.sl false (.var 0) (.some (.int 1)) .none) (.var 0)))
  (.cons (.ret (.ife (.val (.cmp .in_ (.var 1) (.cst "NONZERO"))) (.blt .int (.cons (.var 0) .nil)) .non))
  .nil)), false⟩
def initF : FnD := ⟨["self", "text"], ["self", "text", "words", "moves", "at", "move"], (.cons (.set 2 (.meth (.split false) (.var 1) (.cons (.str " ") .nil)))
  (.cons (.unp [3, 4] (.call "read_moves" (.cons (.var 2) (.cons (.int 0) .nil))))
  (.cons (.ife (.val (.cmp .lt (.var 4) (.blt .len (.cons (.var 2) .nil))))
  (.cons (.rai "BadWord" (.cons (.var 4) .nil))
  .nil)
  .nil)
  (.cons (.fset (.var 0) "text" (.var 1))
  (.cons (.fset (.var 0) "moves" (.var 3))
  (.cons (.fset (.var 0) "has_turn" (.cmp .in_ (.tup (.cons (.str "turn") .nil)) (.var 3)))
  (.cons (.fset (.var 0) "parts" (.blt .tuple (.cons (.lc false [5] (.nm 5) (.seq (.var 3)) .yes (.call "parts_of" (.cons (.var 5) .nil))) .nil)))
  .nil))))))), false⟩
def wAtF : FnD := ⟨["self", "size"], ["self", "size", "found", "move"], (.cons (.ife (.or (.not (.tru (.call "is_integer" (.cons (.var 1) .nil)))) (.not (.val (.cmp2 .le .le (.int 1) (.var 1) (.cst "MOST_SIZE")))))
  (.cons (.rai "BadSize" (.cons (.var 1) .nil))
  .nil)
  .nil)
  (.cons (.set 2 (.lrg false (.int 0) (.var 1)))
  (.cons (.for_ (.nm 3) (.seq (.fld (.var 0) "moves"))
  (.cons (.set 2 (.call "joined" (.cons (.var 2) (.cons (.call "move_at" (.cons (.var 3) (.cons (.var 1) .nil))) .nil))))
  .nil))
  (.cons (.ret (.var 2))
  .nil)))), true⟩
def valF : FnD := ⟨["word", "size"], ["word", "size", "start", "far"], (.cons (.unp [2, 3] (.call "place_parts" (.cons (.var 0) .nil)))
  (.cons (.ife (.val (.cmp .eq (.var 2) (.str "front")))
  (.cons (.ret (.var 3))
  .nil)
  .nil)
  (.cons (.ret (.ife (.val (.cmp .eq (.var 2) (.str "end"))) (.bin false .sub (.var 1) (.var 3)) (.bin false .add (.bin false .fdiv (.var 1) (.int 2)) (.var 3))))
  .nil))), false⟩
def lvalF : FnD := ⟨["word", "k"], ["word", "k"], (.cons (.ife (.val (.cmp .eq (.sl false (.var 0) .none (.some (.int 4))) (.str "half")))
  (.cons (.ret (.bin false .add (.bin false .fdiv (.var 1) (.int 2)) (.ife (.val (.cmp .eq (.var 0) (.str "half"))) (.int 0) (.blt .int (.cons (.sl false (.var 0) (.some (.int 4)) .none) .nil)))))
  .nil)
  .nil)
  (.cons (.ret (.ife (.val (.cmp .ne (.sl false (.var 0) .none (.some (.int 1))) (.str "-"))) (.blt .int (.cons (.var 0) .nil)) (.bin false .add (.var 1) (.blt .int (.cons (.var 0) .nil)))))
  .nil)), false⟩
section
variable {Γ Γ1 Γ2 Γ3 : MP.Env} {M : Mem} {ws : List D} {i : Int} {d : D} {w w1 w2 am s1 s2 : Str} {f1 f2 : Int} {da : D}
theorem word_at_ok (hg : atI ws i = some d) (hi : i < (ws.length : Int)) (hd : lowD 0 d = true) : callF Γ wordAtF [.lst ws, .int i] M = .ok d M := by
  refine callF_eq (fd := wordAtF) rfl rfl ?_ rfl hd
  rw [show startD wordAtF.N [D.lst ws, .int i] = [some (.lst ws), some (.int i)] from rfl]
  have h1 : ¬ (ws.length : Int) ≤ i := by omega
  clear hd hi
  unfold wordAtF
  walk_at "ev"
theorem read_place_ok (hw : Γ.cs.f "word_at" = callF Γ1 wordAtF) (hp : Γ.cs.f "place_parts" [.str w] M = .ok (.tup [.str s1, .int f1]) M) (hg : atI ws i = some (.str w)) (hi : i < (ws.length : Int)) : callF Γ readPlaceF [.lst ws, .int i] M = .ok (.str w) M := by
  refine callF_eq (fd := readPlaceF) rfl rfl ?_ rfl rfl
  rw [show startD readPlaceF.N [D.lst ws, .int i] = [some (.lst ws), some (.int i), none] from rfl]
  have h1 : Γ.cs.f "word_at" [.lst ws, .int i] M = .ok (.str w) M := by rw [hw]; exact word_at_ok hg hi rfl
  have h2 : isNon (.tup [.str s1, .int f1]) = false := rfl
  clear hw hg hi
  unfold readPlaceF
  walk_at "ev"
/-- an exchange is read -/
theorem read_exch {m : Nat} (hw : Γ.cs.f "word_at" = callF Γ1 wordAtF) (hr : Γ.cs.f "read_place" = callF Γ2 readPlaceF) (hw2 : Γ2.cs.f "word_at" = callF Γ3 wordAtF) (hp1 : Γ2.cs.f "place_parts" [.str w1] M = .ok (.tup [.str s1, .int f1]) M) (hp2 : Γ2.cs.f "place_parts" [.str w2] M = .ok (.tup [.str s2, .int f2]) M)
    (h0 : atI ws i = some (.str "exchange")) (h1 : atI ws (i + 1) = some (.str w1)) (h2 : atI ws (i + 2) = some (.str w2)) (hi : i + 2 < (ws.length : Int)) : callF Γ readMoveF [.lst ws, .int i, .ref m] M = .ok (.tup [.str "exchange", .str w1, .str w2]) M := by
  refine callF_eq (fd := readMoveF) rfl rfl ?_ rfl rfl
  rw [show startD readMoveF.N [D.lst ws, .int i, .ref m] = [some (.lst ws), some (.int i), some (.ref m), none, none, none, none] from rfl]
  have g0 : Γ.cs.f "word_at" [.lst ws, .int i] M = .ok (.str "exchange") M := by rw [hw]; exact word_at_ok h0 (by omega) rfl
  have g1 : Γ.cs.f "read_place" [.lst ws, .int (i + 1)] M = .ok (.str w1) M := by rw [hr]; exact read_place_ok hw2 hp1 h1 (by omega)
  have g2 : Γ.cs.f "read_place" [.lst ws, .int (i + 2)] M = .ok (.str w2) M := by rw [hr]; exact read_place_ok hw2 hp2 h2 (by omega)
  have e0 : evE Γ (.call "word_at" (.cons (.var 0) (.cons (.var 1) .nil))) [some (.lst ws), some (.int i), some (.ref m), none, none, none, none] M = .ok (.str "exchange") M := by
    clear hw hr hw2 hp1 hp2 h0 h1 h2 hi g1 g2
    walk_at "ev"
  have z3 : 0 + 1 + 1 + 1 ≤ sizeLine := by decide
  unfold readMoveF
  rw [set_of e0]
  simp only [List.set_cons_succ, List.set_cons_zero]
  rw [ife_f (M' := M) (by kernel_rfl), ife_f (M' := M) (by kernel_rfl)]
  rw [set_of (d := .str w1) (M' := M) (by clear hw hr hw2 hp1 hp2 h0 h1 h2 hi; walk_at "ev"), set_of (d := .str w2) (M' := M) (by clear hw hr hw2 hp1 hp2 h0 h1 h2 hi; walk_at "ev")]
  simp only [List.set_cons_succ, List.set_cons_zero]
  rw [ife_t (M' := M) (by kernel_rfl), ret_of (d := .tup [.str "exchange", .str w1, .str w2]) (M' := M) (by clear hw hr hw2 hp1 hp2 h0 h1 h2 hi; walk_at "ev"), sg_rt]
/-- a roll is read -/
theorem read_roll {m : Nat} (hw : Γ.cs.f "word_at" = callF Γ1 wordAtF) (hr : Γ.cs.f "read_place" = callF Γ2 readPlaceF) (hw2 : Γ2.cs.f "word_at" = callF Γ3 wordAtF) (hp1 : Γ2.cs.f "place_parts" [.str w1] M = .ok (.tup [.str s1, .int f1]) M) (hp2 : Γ2.cs.f "place_parts" [.str w2] M = .ok (.tup [.str s2, .int f2]) M)
    (ha : ∀ o0 o1 o2 o3 o4 o5 : Option D, evT Γ (.and (.val (.cmp .ne (.var 6) (.cst "HALF"))) (.val (.cmp .is_ (.call "number_of" (.cons (.var 6) .nil)) .non))) [o0, o1, o2, o3, o4, o5, some (.str am)] M = .ok false M)
    (h0 : atI ws i = some (.str "roll")) (h1 : atI ws (i + 1) = some (.str w1)) (h2 : atI ws (i + 2) = some (.str w2)) (h3 : atI ws (i + 3) = some (.str am)) (hi : i + 3 < (ws.length : Int)) : callF Γ readMoveF [.lst ws, .int i, .ref m] M = .ok (.tup [.str "roll", .str w1, .str w2, .str am]) M := by
  refine callF_eq (fd := readMoveF) rfl rfl ?_ rfl rfl
  rw [show startD readMoveF.N [D.lst ws, .int i, .ref m] = [some (.lst ws), some (.int i), some (.ref m), none, none, none, none] from rfl]
  have g0 : Γ.cs.f "word_at" [.lst ws, .int i] M = .ok (.str "roll") M := by rw [hw]; exact word_at_ok h0 (by omega) rfl
  have g1 : Γ.cs.f "read_place" [.lst ws, .int (i + 1)] M = .ok (.str w1) M := by rw [hr]; exact read_place_ok hw2 hp1 h1 (by omega)
  have g2 : Γ.cs.f "read_place" [.lst ws, .int (i + 2)] M = .ok (.str w2) M := by rw [hr]; exact read_place_ok hw2 hp2 h2 (by omega)
  have g3 : Γ.cs.f "word_at" [.lst ws, .int (i + 3)] M = .ok (.str am) M := by rw [hw]; exact word_at_ok h3 (by omega) rfl
  have e0 : evE Γ (.call "word_at" (.cons (.var 0) (.cons (.var 1) .nil))) [some (.lst ws), some (.int i), some (.ref m), none, none, none, none] M = .ok (.str "roll") M := by
    clear hw hr hw2 hp1 hp2 h0 h1 h2 h3 hi g1 g2 g3 ha
    walk_at "ev"
  have z3 : 0 + 1 + 1 + 1 + 1 ≤ sizeLine := by decide
  unfold readMoveF
  rw [set_of e0]
  simp only [List.set_cons_succ, List.set_cons_zero]
  rw [ife_f (M' := M) (by kernel_rfl), ife_f (M' := M) (by kernel_rfl)]
  rw [set_of (d := .str w1) (M' := M) (by clear hw hr hw2 hp1 hp2 h0 h1 h2 h3 hi ha; walk_at "ev"), set_of (d := .str w2) (M' := M) (by clear hw hr hw2 hp1 hp2 h0 h1 h2 h3 hi ha; walk_at "ev")]
  simp only [List.set_cons_succ, List.set_cons_zero]
  rw [ife_f (M' := M) (by kernel_rfl), set_of (d := .str am) (M' := M) (by clear hw hr hw2 hp1 hp2 h0 h1 h2 h3 hi ha; walk_at "ev")]
  simp only [List.set_cons_succ, List.set_cons_zero]
  rw [ife_f (ha ..), ret_of (d := .tup [.str "roll", .str w1, .str w2, .str am]) (M' := M) (by clear hw hr hw2 hp1 hp2 h0 h1 h2 h3 hi ha; walk_at "ev")]
/-- a turn is read -/
theorem read_turn {m : Nat} (hw : Γ.cs.f "word_at" = callF Γ1 wordAtF) (h0 : atI ws i = some (.str "turn")) (hi : i < (ws.length : Int)) (hm : memD M (.tup [.str "turn"]) (.ref m) = some false) : callF Γ readMoveF [.lst ws, .int i, .ref m] M = .ok (.tup [.str "turn"]) M := by
  refine callF_eq (fd := readMoveF) rfl rfl ?_ rfl rfl
  rw [show startD readMoveF.N [D.lst ws, .int i, .ref m] = [some (.lst ws), some (.int i), some (.ref m), none, none, none, none] from rfl]
  have g0 : Γ.cs.f "word_at" [.lst ws, .int i] M = .ok (.str "turn") M := by rw [hw]; exact word_at_ok h0 (by omega) rfl
  have e0 : evE Γ (.call "word_at" (.cons (.var 0) (.cons (.var 1) .nil))) [some (.lst ws), some (.int i), some (.ref m), none, none, none, none] M = .ok (.str "turn") M := by
    clear hw h0 hi hm
    walk_at "ev"
  have z3 : 0 + 1 ≤ sizeLine := by decide
  have e1 : eqD M (.str "turn") (.str "turn") = some true := by kernel_rfl
  unfold readMoveF
  rw [set_of e0]
  simp only [List.set_cons_succ, List.set_cons_zero]
  rw [ife_t (M' := M) (by clear hw h0 hi g0 e0; walk_at "ev"), ret_of (d := .tup [.str "turn"]) (M' := M) (by clear hw h0 hi g0 e0 hm; walk_at "ev"), sg_rt]
theorem whl_step {c : Rho → Mem → Rs Bool} {b : Rho → Mem → RS} {r : Rho} {d : D} {M' M1 : Mem} (hc : c r M = .ok true M1) (hb : b r M1 = .rt d M') : whlGo c b whlMax r M = .rt d M' := by
  have e : whlMax = (whlMax - 1) + 1 := by decide
  rw [e]
  show (c r M).go r _ = _
  rw [hc, rg_ok]
  show (match b r M1 with
    | .nx r M => whlGo c b (whlMax - 1) r M
    | .ct r M => whlGo c b (whlMax - 1) r M
    | .bk r M => .nx r M
    | y => y) = _
  rw [hb]
/-- one move and no more -/
theorem read_one {mv : List D} {L : Int} (hrm : Γ.cs.f "read_move" [.lst ws, .int 0, .ref M.length] (M ++ [.lst []]) = .ok (.tup mv) (M ++ [.lst []])) (hl : (mv.length : Int) = L) (hL : (ws.length : Int) = L) (hM : M.all (lowM M.length) = true) (hmv : lowDs 0 mv = true) (h4 : Γ.cst "MOST_MOVES" = some (.int 4)) :
    callF Γ readMovesF [.lst ws, .int 0] M = .ok (.tup [.tup [.tup mv], .int L]) M := by
  have t1 : tyD (M ++ [.lst []]) .append (.ref M.length) = true := by
    unfold tyD lstOf
    simp only [at_end]
    rfl
  have a1 : methD (M ++ [.lst []]) .append (.ref M.length) [.tup mv] = .ok .non (M ++ [.lst [.tup mv]]) := by
    unfold methD updL
    simp only [at_end]
    rw [if_pos (by decide)]
    show Rs.ok D.non ((M ++ [MO.lst []]).set M.length (.lst ([] ++ [.tup mv]))) = _
    rw [set_end]
    rfl
  have l1 : lenD (M ++ [.lst [.tup mv]]) (.ref M.length) = .ok (.int 1) (M ++ [.lst [.tup mv]]) := by
    unfold lenD
    simp only [at_end]
    rfl
  have tu : bltD (M ++ [.lst [.tup mv]]) .tuple [.ref M.length] = .ok (.tup [.tup mv]) (M ++ [.lst [.tup mv]]) := by
    unfold bltD seqOf
    simp only [at_end]
    rfl
  have e1 : eqD (M ++ [.lst [.tup mv]]) (.int 1) (.int 4) = some false := by rw [eq_int]; rfl
  have e2 : eqD (M ++ [.lst [.tup mv]]) (.int (0 + L)) (.int L) = some true := by rw [eq_int]; simp
  have z2 : 0 + 1 + 1 ≤ sizeLine := by decide
  have key : evSs Γ readMovesF.body [some (.lst ws), some (.int 0), none, none] M = .rt (.tup [.tup [.tup mv], .int (0 + L)]) (M ++ [.lst [.tup mv]]) := by
    unfold readMovesF
    rw [set_of (d := .ref M.length) (M' := M ++ [.lst []]) (by kernel_rfl)]
    simp only [List.set_cons_succ, List.set_cons_zero]
    rw [ss_cons, s_whl', whl_step (M1 := M ++ [.lst []]) (d := .tup [.tup [.tup mv], .int (0 + L)]) (M' := M ++ [.lst [.tup mv]]) (by kernel_rfl), sg_rt]
    rw [set_of (d := .tup mv) (M' := M ++ [.lst []]) (by clear hl hL hM hmv h4 t1 a1 l1 tu e1 e2; walk_at "ev")]
    simp only [List.set_cons_succ, List.set_cons_zero]
    rw [st_of (r' := [some (.lst ws), some (.int 0), some (.ref M.length), some (.tup mv)]) (M' := M ++ [.lst [.tup mv]]) (by clear hl hL hM hmv h4 hrm l1 tu e1 e2; walk_at "ev")]
    rw [st_of (r' := [some (.lst ws), some (.int (0 + L)), some (.ref M.length), some (.tup mv)]) (M' := M ++ [.lst [.tup mv]]) (by
      rw [← hl]
      rfl)]
    rw [ife_t (M' := M ++ [.lst [.tup mv]]) (by clear hl hM hmv hrm tu a1 t1; walk_at "ev"), ret_of (d := .tup [.tup [.tup mv], .int (0 + L)]) (M' := M ++ [.lst [.tup mv]]) (by clear hl hL hM hmv h4 hrm l1 e1 e2 a1 t1; walk_at "ev"), sg_rt]
  rw [callF_run (by rfl), show startD readMovesF.N [D.lst ws, .int 0] = [some (.lst ws), some (.int 0), none, none] from rfl, key, Int.zero_add]
  refine fin_pure1 ?_ hM
  show ((lowDs 0 mv && true) && (true && true)) = true
  rw [hmv]
  rfl
theorem lc_two {e : SE} {r : Rho} {j : Nat} {d1 d2 y1 y2 : D} (h1 : evE Γ e (r.set j (some d1)) M = .ok y1 M) (h2 : evE Γ e (r.set j (some d2)) M = .ok y2 M) : lcGo (fun d r M => asg M (.nm j) d r) (evC Γ .yes) (evE Γ e) r [d1, d2] [] M = .ok [y1, y2] M := by
  show (evE Γ e (r.set j (some d1)) M).bind (fun y M => lcGo _ _ _ r [d2] ([] ++ [y]) M) = _
  rw [h1]
  show (evE Γ e (r.set j (some d2)) M).bind (fun y M => lcGo _ _ _ r [] ([] ++ [y1] ++ [y]) M) = _
  rw [h2]
  rfl
theorem lc_one {e : SE} {r : Rho} {j : Nat} {d1 y1 : D} (h1 : evE Γ e (r.set j (some d1)) M = .ok y1 M) : lcGo (fun d r M => asg M (.nm j) d r) (evC Γ .yes) (evE Γ e) r [d1] [] M = .ok [y1] M := by
  show (evE Γ e (r.set j (some d1)) M).bind (fun y M => lcGo _ _ _ r [] ([] ++ [y]) M) = _
  rw [h1]
  rfl
theorem lc_nil {e : SE} {r : Rho} {j : Nat} : lcGo (fun d r M => asg M (.nm j) d r) (evC Γ .yes) (evE Γ e) r [] [] M = .ok [] M := rfl
abbrev plD (s : Str) (f : Int) : D := .tup [.str s, .int f]
/-- the parts of a move -/
theorem parts_exch (hp1 : Γ.cs.f "place_parts" [.str w1] M = .ok (plD s1 f1) M) (hp2 : Γ.cs.f "place_parts" [.str w2] M = .ok (plD s2 f2) M) : callF Γ partsF [.tup [.str "exchange", .str w1, .str w2]] M = .ok (.tup [.str "exchange", plD s1 f1, plD s2 f2]) M := by
  refine callF_eq (fd := partsF) rfl rfl ?_ rfl rfl
  rw [show startD partsF.N [D.tup [.str "exchange", .str w1, .str w2]] = [some (.tup [.str "exchange", .str w1, .str w2]), none, none, none] from rfl]
  have l1 := lc_two (Γ := Γ) (M := M) (e := .call "place_parts" (.cons (.var 3) .nil)) (r := [some (.tup [.str "exchange", .str w1, .str w2]), none, none, none]) (j := 3) (d1 := .str w1) (d2 := .str w2) (y1 := plD s1 f1) (y2 := plD s2 f2) (by simp only [List.set_cons_succ, List.set_cons_zero]; walk_at "ev") (by simp only [List.set_cons_succ, List.set_cons_zero]; walk_at "ev")
  have q1 : evE Γ (.lc false [3] (.nm 3) (.seq (.sl false (.var 0) (.some (.int 1)) (.some (.int 3)))) .yes (.call "place_parts" (.cons (.var 3) .nil))) [some (.tup [.str "exchange", .str w1, .str w2]), none, none, none] M = .ok (.lst [plD s1 f1, plD s2 f2]) M := by
    rw [e_lc, show evI Γ (.seq (.sl false (.var 0) (.some (.int 1)) (.some (.int 3)))) [some (.tup [.str "exchange", .str w1, .str w2]), none, none, none] M = .ok (.vals [.str w1, .str w2]) M from by kernel_rfl, rb_ok, k_lcv, if_pos (show [D.str w1, D.str w2].length ≤ sizeLine from (by decide : 2 ≤ sizeLine))]
    rw [show wipeD [some (D.tup [.str "exchange", .str w1, .str w2]), none, none, none] [3] = [some (.tup [.str "exchange", .str w1, .str w2]), none, none, none] from rfl, l1, no_ok, rb_ok, mk_f]
  have q2 : evE Γ (.lc false [3] (.nm 3) (.seq (.sl false (.var 0) (.some (.int 3)) .none)) .yes (.call "number_of" (.cons (.var 3) .nil))) [some (.tup [.str "exchange", .str w1, .str w2]), some (.lst [plD s1 f1, plD s2 f2]), none, none] M = .ok (.lst []) M := by
    rw [e_lc, show evI Γ (.seq (.sl false (.var 0) (.some (.int 3)) .none)) [some (.tup [.str "exchange", .str w1, .str w2]), some (.lst [plD s1 f1, plD s2 f2]), none, none] M = .ok (.vals []) M from by kernel_rfl, rb_ok, k_lcv, if_pos (by decide)]
    rw [lc_nil, no_ok, rb_ok, mk_f]
  unfold partsF
  rw [set_of q1]
  simp only [List.set_cons_succ, List.set_cons_zero]
  rw [set_of q2]
  simp only [List.set_cons_succ, List.set_cons_zero]
  rw [ret_of (d := .tup [.str "exchange", plD s1 f1, plD s2 f2]) (M' := M) (by kernel_rfl)]
theorem parts_roll (hp1 : Γ.cs.f "place_parts" [.str w1] M = .ok (plD s1 f1) M) (hp2 : Γ.cs.f "place_parts" [.str w2] M = .ok (plD s2 f2) M) (hn : Γ.cs.f "number_of" [.str am] M = .ok da M) (hd : lowD 0 da = true) : callF Γ partsF [.tup [.str "roll", .str w1, .str w2, .str am]] M = .ok (.tup [.str "roll", plD s1 f1, plD s2 f2, da]) M := by
  refine callF_eq (fd := partsF) rfl rfl ?_ rfl (by show (true && (true && (true && (lowD 0 da && true)))) = true; rw [hd]; rfl)
  rw [show startD partsF.N [D.tup [.str "roll", .str w1, .str w2, .str am]] = [some (.tup [.str "roll", .str w1, .str w2, .str am]), none, none, none] from rfl]
  have l1 := lc_two (Γ := Γ) (M := M) (e := .call "place_parts" (.cons (.var 3) .nil)) (r := [some (.tup [.str "roll", .str w1, .str w2, .str am]), none, none, none]) (j := 3) (d1 := .str w1) (d2 := .str w2) (y1 := plD s1 f1) (y2 := plD s2 f2) (by simp only [List.set_cons_succ, List.set_cons_zero]; walk_at "ev") (by simp only [List.set_cons_succ, List.set_cons_zero]; walk_at "ev")
  have q1 : evE Γ (.lc false [3] (.nm 3) (.seq (.sl false (.var 0) (.some (.int 1)) (.some (.int 3)))) .yes (.call "place_parts" (.cons (.var 3) .nil))) [some (.tup [.str "roll", .str w1, .str w2, .str am]), none, none, none] M = .ok (.lst [plD s1 f1, plD s2 f2]) M := by
    rw [e_lc, show evI Γ (.seq (.sl false (.var 0) (.some (.int 1)) (.some (.int 3)))) [some (.tup [.str "roll", .str w1, .str w2, .str am]), none, none, none] M = .ok (.vals [.str w1, .str w2]) M from by kernel_rfl, rb_ok, k_lcv, if_pos (show [D.str w1, D.str w2].length ≤ sizeLine from (by decide : 2 ≤ sizeLine))]
    rw [show wipeD [some (D.tup [.str "roll", .str w1, .str w2, .str am]), none, none, none] [3] = [some (.tup [.str "roll", .str w1, .str w2, .str am]), none, none, none] from rfl, l1, no_ok, rb_ok, mk_f]
  have l2 := lc_one (Γ := Γ) (M := M) (e := .call "number_of" (.cons (.var 3) .nil)) (r := [some (.tup [.str "roll", .str w1, .str w2, .str am]), some (.lst [plD s1 f1, plD s2 f2]), none, none]) (j := 3) (d1 := .str am) (y1 := da) (by simp only [List.set_cons_succ, List.set_cons_zero]; walk_at "ev")
  have q2 : evE Γ (.lc false [3] (.nm 3) (.seq (.sl false (.var 0) (.some (.int 3)) .none)) .yes (.call "number_of" (.cons (.var 3) .nil))) [some (.tup [.str "roll", .str w1, .str w2, .str am]), some (.lst [plD s1 f1, plD s2 f2]), none, none] M = .ok (.lst [da]) M := by
    rw [e_lc, show evI Γ (.seq (.sl false (.var 0) (.some (.int 3)) .none)) [some (.tup [.str "roll", .str w1, .str w2, .str am]), some (.lst [plD s1 f1, plD s2 f2]), none, none] M = .ok (.vals [.str am]) M from by kernel_rfl, rb_ok, k_lcv, if_pos (show [D.str am].length ≤ sizeLine from (by decide : 1 ≤ sizeLine))]
    rw [show wipeD [some (D.tup [.str "roll", .str w1, .str w2, .str am]), some (.lst [plD s1 f1, plD s2 f2]), none, none] [3] = [some (.tup [.str "roll", .str w1, .str w2, .str am]), some (.lst [plD s1 f1, plD s2 f2]), none, none] from rfl, l2, no_ok, rb_ok, mk_f]
  unfold partsF
  rw [set_of q1]
  simp only [List.set_cons_succ, List.set_cons_zero]
  rw [set_of q2]
  simp only [List.set_cons_succ, List.set_cons_zero]
  rw [ret_of (d := .tup [.str "roll", plD s1 f1, plD s2 f2, da]) (M' := M) (by kernel_rfl)]
theorem parts_turn : callF Γ partsF [.tup [.str "turn"]] M = .ok (.tup [.str "turn"]) M := by
  refine callF_eq (fd := partsF) rfl rfl ?_ rfl rfl
  rw [show startD partsF.N [D.tup [.str "turn"]] = [some (.tup [.str "turn"]), none, none, none] from rfl]
  kernel_rfl
/-! ### a word is made -/
def wnames : List Str := ["text", "moves", "has_turn", "parts"]
theorem fset_end {G : Glob} {c f : Str} {ns : List Str} {ds : List D} {v : D} (h1 : ns.length < 1000) (h2 : ns.length = ds.length) (h3 : G.fok c f = true) : fsetD G (M ++ [.ins c ns ds]) (.ref M.length) f v = some (M ++ [.ins c (putN f v ns ds).1 (putN f v ns ds).2]) := by
  unfold fsetD
  simp only [at_end]
  rw [if_pos ⟨h1, h2, h3⟩, set_end]
theorem mkI_ok {c : Str} {ns : List Str} {ds : List D} (hd : lowDs 0 ds = true) (hM : M.all (lowM M.length) = true) : mkI false M.length (.ok .non (M ++ [.ins c ns ds])) = .ok (.obj c ns ds) M := by
  have h1 : frzR (M ++ [MO.ins c ns ds]) M.length 64 M.length = some (.obj c ns ds) := by
    unfold frzR
    rw [if_neg (Nat.lt_irrefl _)]
    simp only [at_end]
    rw [frz_pures hd]
    rfl
  show (match frzR (M ++ [MO.ins c ns ds]) M.length 64 M.length, cutM M.length (M ++ [.ins c ns ds]) with
    | some d', some M' => Rs.ok d' M'
    | _, _ => .bad) = _
  rw [h1, cut_app hM]
theorem init_ok {text : Str} {words : List Str} {mv pt : List D} {ht : Bool} {L : Int} (hs : Txt.split text " " = words) (hl : text.length + 2 ≤ sizeLine) (hL : (words.length : Int) = L)
    (hf : ∀ f ∈ wnames, Γ.g.fok "Word" f = true)
    (hr : Γ.cs.f "read_moves" [.lst (words.map D.str), .int 0] (M ++ [.ins "Word" [] []]) = .ok (.tup [.tup [.tup mv], .int L]) (M ++ [.ins "Word" [] []]))
    (ht' : memD (M ++ [.ins "Word" ["text", "moves"] [.str text, .tup [.tup mv]]]) (.tup [.str "turn"]) (.tup [.tup mv]) = some ht)
    (hp : Γ.cs.f "parts_of" [.tup mv] (M ++ [.ins "Word" ["text", "moves", "has_turn"] [.str text, .tup [.tup mv], .bl ht]]) = .ok (.tup pt) (M ++ [.ins "Word" ["text", "moves", "has_turn"] [.str text, .tup [.tup mv], .bl ht]])) :
    callF Γ initF [.ref M.length, .str text] (M ++ [.ins "Word" [] []]) = .ok .non (M ++ [.ins "Word" wnames [.str text, .tup [.tup mv], .bl ht, .tup [.tup pt]]]) := by
  have b1 : methD (M ++ [.ins "Word" [] []]) (.split false) (.str text) [.str " "] = .ok (.lst (words.map D.str)) (M ++ [.ins "Word" [] []]) := by
    show (if ((" " : Str).length == 0) = false ∧ text.length + 2 ≤ sizeLine then mkL false ((Txt.split text " ").map D.str) _ else .bad) = _
    rw [if_pos ⟨by decide, hl⟩, hs]
    rfl
  have t1 : tyD (M ++ [.ins "Word" [] []]) (.split false) (.str text) = true := rfl
  have f1 := fset_end (M := M) (G := Γ.g) (c := "Word") (f := "text") (ns := []) (ds := []) (v := .str text) (by decide) rfl (hf _ (by simp [wnames]))
  have f2 := fset_end (M := M) (G := Γ.g) (c := "Word") (f := "moves") (ns := ["text"]) (ds := [.str text]) (v := .tup [.tup mv]) (by decide) rfl (hf _ (by simp [wnames]))
  have f3 := fset_end (M := M) (G := Γ.g) (c := "Word") (f := "has_turn") (ns := ["text", "moves"]) (ds := [.str text, .tup [.tup mv]]) (v := .bl ht) (by decide) rfl (hf _ (by simp [wnames]))
  have f4 := fset_end (M := M) (G := Γ.g) (c := "Word") (f := "parts") (ns := ["text", "moves", "has_turn"]) (ds := [.str text, .tup [.tup mv], .bl ht]) (v := .tup [.tup pt]) (by decide) rfl (hf _ (by simp [wnames]))
  rw [show (putN "text" (.str text) [] []) = (([Str.ofString "text"], [D.str text]) : List Str × List D) from rfl] at f1
  rw [show (putN "moves" (.tup [.tup mv]) ["text"] [.str text]) = (([Str.ofString "text", Str.ofString "moves"], [D.str text, .tup [.tup mv]]) : List Str × List D) from by kernel_rfl] at f2
  rw [show (putN "has_turn" (.bl ht) ["text", "moves"] [.str text, .tup [.tup mv]]) = (([Str.ofString "text", Str.ofString "moves", Str.ofString "has_turn"], [D.str text, .tup [.tup mv], .bl ht]) : List Str × List D) from by kernel_rfl] at f3
  rw [show (putN "parts" (.tup [.tup pt]) ["text", "moves", "has_turn"] [.str text, .tup [.tup mv], .bl ht]) = ((wnames, [D.str text, .tup [.tup mv], .bl ht, .tup [.tup pt]]) : List Str × List D) from by kernel_rfl] at f4
  have hlen : ((words.map D.str).length : Int) = L := by rw [List.length_map]; exact hL
  generalize hW : words.map D.str = W at *
  have l1 := lc_one (Γ := Γ) (M := M ++ [.ins "Word" ["text", "moves", "has_turn"] [.str text, .tup [.tup mv], .bl ht]]) (e := .call "parts_of" (.cons (.var 5) .nil)) (r := [some (.ref M.length), some (.str text), some (.lst W), some (.tup [.tup mv]), some (.int L), none]) (j := 5) (d1 := .tup mv) (y1 := .tup pt) (by
    clear b1 t1 f1 f2 f3 f4 hr ht' hs hl hL hf hlen hW
    simp only [List.set_cons_succ, List.set_cons_zero]
    walk_at "ev")
  have key : evSs Γ initF.body [some (.ref M.length), some (.str text), none, none, none, none] (M ++ [.ins "Word" [] []]) = .nx [some (.ref M.length), some (.str text), some (.lst W), some (.tup [.tup mv]), some (.int L), none] (M ++ [.ins "Word" wnames [.str text, .tup [.tup mv], .bl ht, .tup [.tup pt]]]) := by
    have q1 : evS Γ (.fset (.var 0) "text" (.var 1)) [some (.ref M.length), some (.str text), some (.lst W), some (.tup [.tup mv]), some (.int L), none] (M ++ [.ins "Word" [] []]) = .nx [some (.ref M.length), some (.str text), some (.lst W), some (.tup [.tup mv]), some (.int L), none] (M ++ [.ins "Word" ["text"] [.str text]]) := by
      show optS (fsetD Γ.g (M ++ [.ins "Word" [] []]) (.ref M.length) "text" (.str text)) _ = _
      rw [f1]
      rfl
    have q2 : evS Γ (.fset (.var 0) "moves" (.var 3)) [some (.ref M.length), some (.str text), some (.lst W), some (.tup [.tup mv]), some (.int L), none] (M ++ [.ins "Word" ["text"] [.str text]]) = .nx [some (.ref M.length), some (.str text), some (.lst W), some (.tup [.tup mv]), some (.int L), none] (M ++ [.ins "Word" ["text", "moves"] [.str text, .tup [.tup mv]]]) := by
      show optS (fsetD Γ.g (M ++ [.ins "Word" ["text"] [.str text]]) (.ref M.length) "moves" (.tup [.tup mv])) _ = _
      rw [f2]
      rfl
    have e3 : evE Γ (.cmp .in_ (.tup (.cons (.str "turn") .nil)) (.var 3)) [some (.ref M.length), some (.str text), some (.lst W), some (.tup [.tup mv]), some (.int L), none] (M ++ [.ins "Word" ["text", "moves"] [.str text, .tup [.tup mv]]]) = .ok (.bl ht) (M ++ [.ins "Word" ["text", "moves"] [.str text, .tup [.tup mv]]]) := by
      have z1 : 0 + 1 ≤ sizeLine := by decide
      clear b1 t1 f1 f2 f3 f4 hr hs hl hL hf hlen hW l1 hp q1 q2
      walk_at "ev"
    have q3 : evS Γ (.fset (.var 0) "has_turn" (.cmp .in_ (.tup (.cons (.str "turn") .nil)) (.var 3))) [some (.ref M.length), some (.str text), some (.lst W), some (.tup [.tup mv]), some (.int L), none] (M ++ [.ins "Word" ["text", "moves"] [.str text, .tup [.tup mv]]]) = .nx [some (.ref M.length), some (.str text), some (.lst W), some (.tup [.tup mv]), some (.int L), none] (M ++ [.ins "Word" ["text", "moves", "has_turn"] [.str text, .tup [.tup mv], .bl ht]]) := by
      show (evE Γ (.cmp .in_ (.tup (.cons (.str "turn") .nil)) (.var 3)) _ _).go _ _ = _
      rw [e3]
      show optS (fsetD Γ.g (M ++ [.ins "Word" ["text", "moves"] [.str text, .tup [.tup mv]]]) (.ref M.length) "has_turn" (.bl ht)) _ = _
      rw [f3]
      rfl
    have e4 : evE Γ (.blt .tuple (.cons (.lc false [5] (.nm 5) (.seq (.var 3)) .yes (.call "parts_of" (.cons (.var 5) .nil))) .nil)) [some (.ref M.length), some (.str text), some (.lst W), some (.tup [.tup mv]), some (.int L), none] (M ++ [.ins "Word" ["text", "moves", "has_turn"] [.str text, .tup [.tup mv], .bl ht]]) = .ok (.tup [.tup pt]) (M ++ [.ins "Word" ["text", "moves", "has_turn"] [.str text, .tup [.tup mv], .bl ht]]) := by
      have e5 : evE Γ (.lc false [5] (.nm 5) (.seq (.var 3)) .yes (.call "parts_of" (.cons (.var 5) .nil))) [some (.ref M.length), some (.str text), some (.lst W), some (.tup [.tup mv]), some (.int L), none] (M ++ [.ins "Word" ["text", "moves", "has_turn"] [.str text, .tup [.tup mv], .bl ht]]) = .ok (.lst [.tup pt]) (M ++ [.ins "Word" ["text", "moves", "has_turn"] [.str text, .tup [.tup mv], .bl ht]]) := by
        rw [e_lc, show evI Γ (.seq (.var 3)) [some (.ref M.length), some (.str text), some (.lst W), some (.tup [.tup mv]), some (.int L), none] (M ++ [.ins "Word" ["text", "moves", "has_turn"] [.str text, .tup [.tup mv], .bl ht]]) = .ok (.vals [.tup mv]) _ from rfl, rb_ok, k_lcv, if_pos (show [D.tup mv].length ≤ sizeLine from (by decide : 1 ≤ sizeLine))]
        rw [show wipeD [some (D.ref M.length), some (.str text), some (.lst W), some (.tup [.tup mv]), some (.int L), none] [5] = [some (.ref M.length), some (.str text), some (.lst W), some (.tup [.tup mv]), some (.int L), none] from rfl, l1, no_ok, rb_ok, mk_f]
      rw [e_blt, es_cons, e5, rb_ok, k_es, es_nil, rb_ok, k_es2, rb_ok, k_blt]
      rfl
    have q4 : evS Γ (.fset (.var 0) "parts" (.blt .tuple (.cons (.lc false [5] (.nm 5) (.seq (.var 3)) .yes (.call "parts_of" (.cons (.var 5) .nil))) .nil))) [some (.ref M.length), some (.str text), some (.lst W), some (.tup [.tup mv]), some (.int L), none] (M ++ [.ins "Word" ["text", "moves", "has_turn"] [.str text, .tup [.tup mv], .bl ht]]) = .nx [some (.ref M.length), some (.str text), some (.lst W), some (.tup [.tup mv]), some (.int L), none] (M ++ [.ins "Word" wnames [.str text, .tup [.tup mv], .bl ht, .tup [.tup pt]]]) := by
      show (evE Γ (.blt .tuple _) _ _).go _ _ = _
      rw [e4]
      show optS (fsetD Γ.g (M ++ [.ins "Word" ["text", "moves", "has_turn"] [.str text, .tup [.tup mv], .bl ht]]) (.ref M.length) "parts" (.tup [.tup pt])) _ = _
      rw [f4]
      rfl
    have lt : ¬ L < (W.length : Int) := by omega
    unfold initF
    rw [set_of (d := .lst W) (M' := M ++ [.ins "Word" [] []]) (by clear f1 f2 f3 f4 hr hs hl hL hf hlen hW l1 hp q1 q2 q3 q4 e3 e4 ht'; walk_at "ev")]
    simp only [List.set_cons_succ, List.set_cons_zero]
    rw [st_of (r' := [some (.ref M.length), some (.str text), some (.lst W), some (.tup [.tup mv]), some (.int L), none]) (M' := M ++ [.ins "Word" [] []]) (by
      rw [s_unp', show evE Γ (.call "read_moves" (.cons (.var 2) (.cons (.int 0) .nil))) [some (.ref M.length), some (.str text), some (.lst W), none, none, none] (M ++ [.ins "Word" [] []]) = Γ.cs.f "read_moves" [.lst W, .int 0] (M ++ [.ins "Word" [] []]) from rfl, hr]
      rfl)]
    rw [ife_f (M' := M ++ [.ins "Word" [] []]) (by clear f1 f2 f3 f4 hr hs hl hL hf hlen hW l1 hp q1 q2 q3 q4 e3 e4 ht' b1 t1; walk_at "ev")]
    rw [st_of q1, st_of q2, st_of q3, st_of q4, ss_nil]
  rw [callF_run (by rfl), show startD initF.N [D.ref M.length, .str text] = [some (.ref M.length), some (.str text), none, none, none, none] from rfl, key]
  exact fin_non (by simp)
/-! ### a word at a size -/
theorem wat_one {n : Nat} {mv : List D} {t h p : D} {f : Nat → Int} (hi : Γ.cs.f "is_integer" = callF Γ1 intF) (hj : Γ.cs.f "joined" = callF Γ2 joinF) (hnr : Γ2.cs.f "need_row" = callF Γ3 needF) {Γ4 : MP.Env} (hi3 : Γ3.cs.f "is_integer" = callF Γ4 intF)
    (hmax : Γ.cst "MOST_SIZE" = some (.int 1000)) (hf : Γ.g.fok "Word" "moves" = true) (h1 : 1 ≤ n) (hn : n ≤ 1000) (P : Perm n f) (hM : M.all (lowM M.length) = true) (hm : Γ.cs.f "move_at" [.tup mv, .int (n : Int)] M = .ok (.lst (rowD n f)) M) :
    callF Γ wAtF [.obj "Word" wnames [t, .tup [.tup mv], h, p], .int (n : Int)] M = .ok (.ref M.length) (M ++ [.lst (rowD n f)]) := by
  have c1 : (1 : Int) ≤ (n : Int) := by omega
  have c2 : (n : Int) ≤ 1000 := by omega
  have g1 := int_call hi (n : Int) M
  have j1 : Γ.cs.f "joined" [.lst (rowD n idI), .lst (rowD n f)] M = .ok (.ref M.length) (M ++ [.lst (rowD n f)]) := by rw [hj]; exact join_id hnr hi3 hn P hM
  have e1 := e_lrg_row (Γ := Γ) (m := false) (i := 1) (n := n) (M := M) (r := [some (.obj "Word" wnames [t, .tup [.tup mv], h, p]), some (.int (n : Int)), none, none]) rfl hn
  rw [mk_f] at e1
  have fl : fldD Γ.g M (.obj "Word" wnames [t, .tup [.tup mv], h, p]) "moves" = .ok (.tup [.tup mv]) M := by
    show (if Γ.g.fok "Word" "moves" = true then opt ((wnames.zip [t, .tup [.tup mv], h, p]).lookup (Str.ofString "moves")) (fun d => .ok d M) else .bad) = _
    rw [if_pos hf]
    kernel_rfl
  have key : evSs Γ wAtF.body [some (.obj "Word" wnames [t, .tup [.tup mv], h, p]), some (.int (n : Int)), none, none] M = .rt (.ref M.length) (M ++ [.lst (rowD n f)]) := by
    generalize D.obj "Word" wnames [t, .tup [.tup mv], h, p] = W at *
    unfold wAtF
    generalize rowD n idI = R0 at *
    generalize rowD n f = R1 at *
    rw [ife_f (M' := M) (by clear e1 fl j1 hm hj hnr hi3 hi hM hf; walk_at "ev"), set_of e1]
    simp only [List.set_cons_succ, List.set_cons_zero]
    rw [st_of (r' := [some W, some (.int (n : Int)), some (.ref M.length), some (.tup mv)]) (M' := M ++ [.lst R1]) (by
      have ib : evI Γ (.seq (.fld (.var 0) "moves")) [some W, some (.int (n : Int)), some (.lst R0), none] M = .ok (.vals [.tup mv]) M := by
        rw [i_seq, e_fld, e_var, get0, v_d, rb_ok, k_fld, fl, rb_ok, k_seqt]
      rw [s_for', ib, rg_ok, k_for]
      show (match stepF Γ (.nm 3) _ (.tup mv) [some W, some (.int (n : Int)), some (.lst R0), none] M with
        | .nx r M => forGo _ [] r M
        | .ct r M => forGo _ [] r M
        | .bk r M => .nx r M
        | y => y) = _
      rw [k_step, show evSs Γ (.cons (.set 2 (.call "joined" (.cons (.var 2) (.cons (.call "move_at" (.cons (.var 3) (.cons (.var 1) .nil))) .nil)))) .nil) ([some W, some (.int (n : Int)), some (.lst R0), none].set 3 (some (.tup mv))) M = .nx [some W, some (.int (n : Int)), some (.ref M.length), some (.tup mv)] (M ++ [.lst R1]) from by
        simp only [List.set_cons_succ, List.set_cons_zero]
        clear ib e1 fl hj hnr hi3 hi hM hf g1 hmax c1 c2
        walk_at "ev"]
      rfl)]
    rw [ret_of (d := .ref M.length) (M' := M ++ [.lst R1]) (by rfl)]
  rw [callF_run (by rfl), show startD wAtF.N [D.obj "Word" wnames [t, .tup [.tup mv], h, p], .int (n : Int)] = [some (.obj "Word" wnames [t, .tup [.tup mv], h, p]), some (.int (n : Int)), none, none] from rfl, key]
  rfl
end
end MX

/-! Words of several moves: read, made, at a size; moves of any row. -/
namespace MX
open MP
open PySem PySem.Spec PyProof.Rows L2
local macro_rules | `(tactic| walk_at "ev") => `(tactic| simp only [e_bin, k_bin, e_neg, e_not, e_cmp, k_cmp, e_cmp2, k_c1, k_c2, k_c3t, k_c3f, e_and, k_andt, k_andf, e_or, k_ort, k_orf, e_ife, k_ifet, k_ifef, e_tup, k_tup, e_lst, k_lst, e_ix, k_ix, k_ix2, e_sl, k_sl, k_sl2, k_sl3, e_rev, k_rev, e_call, e_blt, k_blt, e_me, k_me, k_me2, e_isi, k_isi, e_lrg, k_lrg, k_lrg2, e_int, e_str, e_bl, e_non, e_var, e_cst, v_d, v_b, es_nil, es_cons, k_es, k_es2, o_none, o_some, k_o, t_val, k_val, t_tru, k_tru, t_and, t_or, t_not, k_tat, k_taf, k_tot, k_tof, k_tn, c_yes, c_one, i_seq, k_seql, k_seqt, i_r1, k_r1, i_r2, k_r2, k_r3, ss_nil, ss_cons, s_set', k_set, s_par', k_par, s_unp', k_unp, s_sub', k_su, k_su2, k_su3, s_ex', k_ex, s_ret', s_ret0', s_if', k_ift, k_iff, s_for', k_for, s_brk', s_cnt', s_pas', s_try', k_try_rt, k_try_nx, setAll, get0, getS, nth0, nthS, rb_ok, rb_exc, rg_ok, rg_exc, sg_nx, sg_rt, sg_bk, sg_ct, sg_exc, opt_s, optS_s, b_add, b_sub, b_mul, b_fdiv, b_mod, b_pow, u_neg, u_not, c_lt, c_le, c_gt, c_ge, c_eq, c_ne, c_is, c_isnot, eq_int, l_lst, l_tup, f_len, f_int, f_list_scr, f_list_lst, f_list_tup, mk_f, mk_t, ix_lst, ix_tup, t_bl, t_int, t_non, List.set_cons_zero, List.set_cons_succ, List.length_nil, List.length_cons, List.length_map, decide_true, decide_false, ↓reduceIte, Int.reduceLT, Bool.not_true, Bool.not_false, Bool.true_and, Bool.false_and, reduceCtorEq, eq_self, e_make, k_mk, e_cm, k_cm, k_cm1, k_cm2, e_fld, k_fld, e_lc, k_lcv, k_lca, no_ok, i_en, k_enl, k_stepT, c_in, c_notin, s_sub2', k_s1, k_s2, k_s3, k_s4, k_s5, k_s6, ss_gc, *])
/-- first f, then g's things -/
def comp (g f : Nat → Int) (p : Nat) : Int := g (f p).toNat
theorem comp_perm {n : Nat} {g f : Nat → Int} (P : Perm n g) (Q : Perm n f) : Perm n (comp g f) := by
  have lt : ∀ p < n, (f p).toNat < n := fun p hp => by have := Q.lo p hp; have := Q.hi p hp; omega
  refine ⟨fun p hp => P.lo _ (lt p hp), fun p hp => P.hi _ (lt p hp), fun p hp q hq e => Q.inj p hp q hq ?_⟩
  have := P.inj _ (lt p hp) _ (lt q hq) e
  have := Q.lo p hp
  have := Q.lo q hq
  omega
theorem comp_id {n : Nat} {f : Nat → Int} (Q : Perm n f) : rowI n (comp idI f) = rowI n f := row_ext fun p hp => by
  have := Q.lo p hp
  show (((f p).toNat : Nat) : Int) = f p
  omega
def joinG : FnD := ⟨["first", "second"], ["first", "second", "part"], (.cons (.ex (.call "need_row" (.cons (.var 0) .nil)))
  (.cons (.ex (.call "need_row" (.cons (.var 1) .nil)))
  (.cons (.ife (.val (.cmp .ne (.blt .len (.cons (.var 0) .nil)) (.blt .len (.cons (.var 1) .nil))))
  (.cons (.rai "BadSize" (.cons (.blt .len (.cons (.var 1) .nil)) .nil))
  .nil)
  .nil)
  (.cons (.ret (.lc false [2] (.nm 2) (.seq (.var 1)) .yes (.ix (.var 0) (.var 2))))
  .nil)))), false⟩
theorem join_rows {Γ Γ1 Γ2 : MP.Env} (hd : Γ.cs.f "need_row" = callF Γ1 needF) (hi : Γ1.cs.f "is_integer" = callF Γ2 intF) {M : Mem} {n : Nat} {g f : Nat → Int} (hn : n ≤ 1000) (P : Perm n g) (Q : Perm n f) (hM : M.all (lowM M.length) = true) :
    callF Γ joinG [.lst (rowD n g), .lst (rowD n f)] M = .ok (.lst (rowD n (comp g f))) M := by
  have hz : sizeLine = 16777216 := sizeLine_eq
  have n1 : Γ.cs.f "need_row" [.lst (rowD n g)] M = .ok .non M := by rw [hd]; exact need_ok hi hn P hM
  have n2 : Γ.cs.f "need_row" [.lst (rowD n f)] M = .ok .non M := by rw [hd]; exact need_ok hi hn Q hM
  have l1 : ((rowD n g).length : Int) = (n : Int) := by rw [row_len]
  have l2 : ((rowD n f).length : Int) = (n : Int) := by rw [row_len]
  have l3 : (rowD n f).length ≤ sizeLine := by rw [row_len]; omega
  have lc : lcGo (fun d r M => asg M (.nm 2) d r) (evC Γ .yes) (evE Γ (.ix (.var 0) (.var 2))) (wipeD [some (.lst (rowD n g)), some (.lst (rowD n f)), none] [2]) (rowD n f) [] M = .ok (rowD n (comp g f)) M := by
    rw [lcGo_map (fun d => match d with
      | .int z => .int (g z.toNat)
      | d => d)]
    · rw [List.nil_append]
      unfold rowD rowI
      rw [List.map_map, List.map_map, List.map_map]
      rfl
    · intro d hd'
      obtain ⟨v, hv, rfl⟩ := List.mem_map.mp hd'
      obtain ⟨p, hp, rfl⟩ := List.mem_map.mp hv
      have hp := List.mem_range.mp hp
      have h0 := Q.lo p hp
      have h1 := Q.hi p hp
      obtain ⟨j, hj⟩ : ∃ j : Nat, f p = (j : Int) := ⟨(f p).toNat, by omega⟩
      have hjn : j < n := by omega
      have ha : atI (rowD n g) (f p) = some (.int (g (f p).toNat)) := by
        rw [hj]
        exact row_at hjn
      show evE Γ _ [some (.lst (rowD n g)), some (.lst (rowD n f)), some (.int (f p))] M = .ok (.int (g (f p).toNat)) M
      generalize g (f p).toNat = y at *
      generalize f p = z at *
      generalize rowD n g = R1 at *
      generalize rowD n f = R2 at *
      clear hj hjn h0 h1 hp hv hd' l1 l2 l3 n1 n2 P Q hd hi hz
      walk_at "ev"
  rw [callF_run (by rfl), show startD joinG.N [D.lst (rowD n g), D.lst (rowD n f)] = [some (.lst (rowD n g)), some (.lst (rowD n f)), none] from rfl]
  have key : evSs Γ joinG.body [some (.lst (rowD n g)), some (.lst (rowD n f)), none] M = .rt (.lst (rowD n (comp g f))) M := by
    generalize rowD n (comp g f) = R3 at *
    generalize rowD n g = R1 at *
    generalize rowD n f = R2 at *
    have e0 : eqD M (.int (R1.length : Int)) (.int (R2.length : Int)) = some true := by rw [l1, l2, eq_int]; simp
    clear hd hi hM P Q hz l1 l2
    unfold joinG
    walk_at "ev"
  rw [key]
  exact fin_pure rfl (row_low 0)
/-! ### stretches of any row -/
abbrev sgm (g : Nat → Int) (a m : Nat) : List D := rowD m fun p => g (a + p)
theorem sgm_get {g : Nat → Int} {a m p : Nat} (h : p < m) : (sgm g a m)[p]? = some (.int (g (a + p))) := row_get h
theorem sgm_id (n : Nat) (g : Nat → Int) : rowD n g = sgm g 0 n := congrArg (List.map D.int) (row_ext fun p _ => by rw [Nat.zero_add])
theorem sgm_drop (g : Nat → Int) (a m i : Nat) : (sgm g a m).drop i = sgm g (a + i) (m - i) := by
  refine List.ext_getElem? fun q => ?_
  rw [List.getElem?_drop]
  by_cases h : q < m - i
  · rw [sgm_get h, sgm_get (by omega), Nat.add_assoc]
  · rw [List.getElem?_eq_none (by rw [row_len]; omega), List.getElem?_eq_none (by rw [row_len]; omega)]
theorem sgm_take (g : Nat → Int) (a m j : Nat) : (sgm g a m).take j = sgm g a (min j m) := by
  refine List.ext_getElem? fun q => ?_
  rw [List.getElem?_take]
  by_cases h : q < min j m
  · rw [if_pos (by omega), sgm_get h, sgm_get (by omega)]
  · rw [List.getElem?_eq_none (l := sgm g a (min j m)) (by rw [row_len]; omega)]
    split
    · rw [List.getElem?_eq_none (by rw [row_len]; omega)]
    · rfl
theorem cut_sgm {g : Nat → Int} {a m i j : Nat} (h1 : i ≤ j) (h2 : j ≤ m) : cutG (sgm g a m) (some (i : Int)) (some (j : Int)) = sgm g (a + i) (j - i) := by
  unfold cutG
  rw [row_len, HT.sIx_nat, HT.sIx_nat, sgm_drop, sgm_take]
  have e1 : min i m = i := by omega
  have e2 : min j m = j := by omega
  rw [e1, e2]
  congr 2
  omega
theorem cut_sgm_hi {g : Nat → Int} {a m j : Nat} (h2 : j ≤ m) : cutG (sgm g a m) none (some (j : Int)) = sgm g a j := by
  unfold cutG
  rw [row_len, HT.sIx_nat, HT.sIx_none, sgm_drop, sgm_take]
  have e2 : min j m = j := by omega
  have e3 : min (j - 0) (m - 0) = j := by omega
  rw [e2, e3, Nat.add_zero]
theorem cut_sgm_lo {g : Nat → Int} {a m i : Nat} (h2 : i ≤ m) : cutG (sgm g a m) (some (i : Int)) none = sgm g (a + i) (m - i) := by
  unfold cutG
  rw [row_len, HT.sIx_nat, HT.sIx_none, sgm_drop, sgm_take]
  have e2 : min i m = i := by omega
  have e3 : min (m - i) (m - i) = m - i := by omega
  rw [e2, e3]
theorem roll_sgms {g : Nat → Int} {n x m cut : Nat} {b : Int} (hx : x + m ≤ n) (h1 : 1 ≤ m) (hc : (cut : Int) = m - b % m) (hc1 : 1 ≤ cut) (hc2 : cut ≤ m) :
    ((sgm g 0 x ++ sgm g (x + cut) (m - cut)) ++ sgm g x cut) ++ sgm g (x + m) (n - (x + m)) = rowD n (comp g (rollI x m b)) := by
  have en : n = (x + (m - cut)) + (cut + (n - (x + m))) := by omega
  rw [show rowD n (comp g (rollI x m b)) = rowD ((x + (m - cut)) + (cut + (n - (x + m)))) (comp g (rollI x m b)) from by rw [← en], row_add, row_add, row_add, ← List.append_assoc]
  have ed := Int.emod_def b m
  congr 1
  · congr 1
    · congr 1
      · exact congrArg (List.map D.int) (row_ext fun p hp => by
          unfold comp rollI
          rw [if_neg (by omega)]
          congr 1
          omega)
      · exact congrArg (List.map D.int) (row_ext fun p hp => by
          unfold comp rollI
          rw [if_pos (by omega)]
          have : (((x + p : Nat) : Int) - x - b) % m = (cut : Int) + p := by
            refine emod_is (q := -(b / m) - 1) ?_ (by omega) (by omega)
            have e2 : (m : Int) * (-(b / m) - 1) = -(m * (b / m)) - m := by rw [Int.mul_sub, Int.mul_neg, Int.mul_one]
            rw [e2]
            omega
          rw [this]
          congr 1
          omega)
    · exact congrArg (List.map D.int) (row_ext fun p hp => by
        unfold comp rollI
        rw [if_pos (by omega)]
        have : (((x + (m - cut) + p : Nat) : Int) - x - b) % m = (p : Int) := by
          refine emod_is (q := -(b / m)) ?_ (by omega) (by omega)
          rw [Int.mul_neg]
          omega
        rw [this]
        congr 1)
  · exact congrArg (List.map D.int) (row_ext fun p hp => by
      unfold comp rollI
      rw [if_neg (by omega)]
      congr 1
      omega)
theorem row_revG {n : Nat} {g : Nat → Int} : (rowD n g).reverse = rowD n (comp g (Mo.turn.f n)) := by
  refine List.ext_getElem? fun q => ?_
  by_cases hq : q < n
  · rw [row_get hq, List.getElem?_reverse (by rw [row_len]; exact hq), row_len, row_get (by omega)]
    show some (D.int (g (n - 1 - q))) = some (D.int (g ((n : Int) - 1 - q).toNat))
    congr 3
    omega
  · rw [List.getElem?_eq_none (by rw [List.length_reverse, row_len]; omega), List.getElem?_eq_none (by rw [row_len]; omega)]
theorem comp_idf {n : Nat} {g f : Nat → Int} (h : ∀ p < n, f p = p) : rowD n g = rowD n (comp g f) := congrArg (List.map D.int) (row_ext fun p hp => by
  unfold comp
  rw [h p hp]
  congr 1)
section
variable {Γ Γe Γr : MP.Env} {M : Mem} {n : Nat} {X Y : Int} {w1 w2 am : Str} {ws : List D} {A : Option Int} {g : Nat → Int}
theorem lawmG_turn : callF Γ lawmF [.lst (rowD n g), .lst [.str "turn"]] M = .ok (.lst (rowD n (comp g (Mo.turn.f n)))) M := by
  rw [callF_run (by rfl), show startD lawmF.N [D.lst (rowD n g), .lst [.str "turn"]] = [some (.lst (rowD n g)), some (.lst [.str "turn"]), none, none, none, none, none, none, none] from rfl]
  have hl := len_st (Γ := Γ) (M := M) (ws := [.str "turn"]) (R := rowD n g) (n := n) (by rw [row_len])
  have key : evSs Γ lawmF.body [some (.lst (rowD n g)), some (.lst [.str "turn"]), none, none, none, none, none, none, none] M = .rt (.lst (rowD n (comp g (Mo.turn.f n)))) M := by
    rw [← row_revG]
    unfold lawmF
    generalize rowD n g = R at *
    rw [set_of hl, ife_t (M' := M) (by kernel_rfl), ret_of (d := .lst R.reverse) (M' := M) (by rfl), sg_rt]
  rw [key]
  exact fin_pure rfl (row_low 0)
theorem lawmG_exch (hn : n ≤ 1000) (hM : M.all (lowM M.length) = true) (hX : Γ.cs.f "_law_value" [.str w1, .int (n : Int)] M = .ok (.int X) M) (hY : Γ.cs.f "_law_value" [.str w2, .int (n : Int)] M = .ok (.int Y) M) :
    callF Γ lawmF [.lst (rowD n g), .lst [.str "exchange", .str w1, .str w2]] M = .ok (.lst (rowD n (comp g ((Mo.exch X Y).f n)))) M := by
  rw [callF_run (by rfl), show startD lawmF.N [D.lst (rowD n g), .lst [.str "exchange", .str w1, .str w2]] = [some (.lst (rowD n g)), some (.lst [.str "exchange", .str w1, .str w2]), none, none, none, none, none, none, none] from rfl]
  have hl := len_st (Γ := Γ) (M := M) (ws := [.str "exchange", .str w1, .str w2]) (R := rowD n g) (n := n) (by rw [row_len])
  have hv := lv_at (M := M) (R := rowD n g) (o := none) (o5 := none) (o6 := none) (o7 := none) (o8 := none) (ws := [.str "exchange", .str w1, .str w2]) rfl rfl hX hY
  by_cases hb : inB n X Y
  · have hb2 := hb
    unfold inB at hb2
    obtain ⟨x, rfl⟩ : ∃ x : Nat, X = (x : Int) := ⟨X.toNat, by omega⟩
    obtain ⟨y, rfl⟩ : ∃ y : Nat, Y = (y : Int) := ⟨Y.toNat, by omega⟩
    have hx : x < n := by omega
    have hy : y < n := by omega
    have h2 := subL_row (M := M) (f := g) (v := g y) hx
    have h3 := subL_row (M := M) (f := fun q => if q = x then g y else g q) (v := g x) hy
    have e : (rowD n fun q => if q = y then g x else if q = x then g y else g q) = rowD n (comp g ((Mo.exch x y).f n)) := congrArg (List.map D.int) (row_ext fun p hp => by
      unfold comp
      rw [f_exch, if_pos hb]
      by_cases h1 : p = y
      · rw [if_pos h1, if_pos (c := (p : Int) = y) (by omega)]
        rfl
      · rw [if_neg h1, if_neg (c := (p : Int) = y) (by omega)]
        by_cases h2 : p = x
        · rw [if_pos h2, if_pos (c := (p : Int) = x) (by omega)]
          rfl
        · rw [if_neg h2, if_neg (c := (p : Int) = x) (by omega)]
          rfl)
    have ax : atI (rowD n g) (x : Int) = some (.int (g x)) := row_at hx
    have ay : atI (rowD n g) (y : Int) = some (.int (g y)) := row_at hy
    have z2 : 0 + 1 + 1 ≤ sizeLine := by decide
    have key : evSs Γ lawmF.body [some (.lst (rowD n g)), some (.lst [.str "exchange", .str w1, .str w2]), none, none, none, none, none, none, none] M = .rt (.ref M.length) (M ++ [.lst (rowD n (comp g ((Mo.exch x y).f n)))]) := by
      rw [← e]
      unfold lawmF
      rw [set_of hl]
      simp only [List.set_cons_succ, List.set_cons_zero]
      rw [ife_f (M' := M) (by kernel_rfl), st_of hv]
      rw [show ∀ A B, evSs Γ (.cons (.ife (.or (.val (.cmp .lt (.var 3) (.int 0))) (.or (.val (.cmp .lt (.var 4) (.int 0))) (.or (.val (.cmp .ge (.var 3) (.var 2))) (.val (.cmp .ge (.var 4) (.var 2)))))) A .nil) B) _ M = _ from fun A B => ife_f (out_false hb)]
      rw [ife_t (M' := M) (by kernel_rfl)]
      generalize (rowD n fun q => if q = y then g x else if q = x then g y else g q) = R2 at *
      generalize (rowD n fun q => if q = x then g y else g q) = R1 at *
      generalize rowD n g = R0 at *
      generalize g x = GX at *
      generalize g y = GY at *
      generalize (x : Int) = X at *
      generalize (y : Int) = Y at *
      clear hM hx hy hn hl hv hb hb2 hX hY e
      walk_at "ev"
    rw [key]
    exact fin_lst (row_low _) hM
  · have e : rowD n g = rowD n (comp g ((Mo.exch X Y).f n)) := comp_idf fun p hp => by rw [f_exch, if_neg hb]
    have key : evSs Γ lawmF.body [some (.lst (rowD n g)), some (.lst [.str "exchange", .str w1, .str w2]), none, none, none, none, none, none, none] M = .rt (.lst (rowD n (comp g ((Mo.exch X Y).f n)))) M := by
      rw [← e]
      unfold lawmF
      generalize rowD n g = R at *
      rw [set_of hl]
      simp only [List.set_cons_succ, List.set_cons_zero]
      rw [ife_f (M' := M) (by kernel_rfl), st_of hv]
      rw [ife_t (out_true hb), ret_of (d := .lst R) (M' := M) (by rfl), sg_rt]
    rw [key]
    exact fin_pure rfl (row_low 0)
theorem lawmG_roll (hn : n ≤ 1000) (hX : Γ.cs.f "_law_value" [.str w1, .int (n : Int)] M = .ok (.int X) M) (hY : Γ.cs.f "_law_value" [.str w2, .int (n : Int)] M = .ok (.int Y) M)
    (hC : ∀ (blk : List D) (o0 o2 o3 o4 : Option D) (M' : Mem), evE Γ cE [o0, some (.lst [.str "roll", .str w1, .str w2, .str am]), o2, o3, o4, none, some (.lst blk), none, none] M' = .ok (.int (amV A blk.length)) M') :
    callF Γ lawmF [.lst (rowD n g), .lst [.str "roll", .str w1, .str w2, .str am]] M = .ok (.lst (rowD n (comp g ((Mo.roll X Y A).f n)))) M := by
  have hz : sizeLine = 16777216 := sizeLine_eq
  rw [callF_run (by rfl), show startD lawmF.N [D.lst (rowD n g), .lst [.str "roll", .str w1, .str w2, .str am]] = [some (.lst (rowD n g)), some (.lst [.str "roll", .str w1, .str w2, .str am]), none, none, none, none, none, none, none] from rfl]
  have hl := len_st (Γ := Γ) (M := M) (ws := [.str "roll", .str w1, .str w2, .str am]) (R := rowD n g) (n := n) (by rw [row_len])
  have hv := lv_at (M := M) (R := rowD n g) (o := none) (o5 := none) (o6 := none) (o7 := none) (o8 := none) (ws := [.str "roll", .str w1, .str w2, .str am]) rfl rfl hX hY
  have key : evSs Γ lawmF.body [some (.lst (rowD n g)), some (.lst [.str "roll", .str w1, .str w2, .str am]), none, none, none, none, none, none, none] M = .rt (.lst (rowD n (comp g ((Mo.roll X Y A).f n)))) M := by
    unfold lawmF
    rw [set_of hl]
    simp only [List.set_cons_succ, List.set_cons_zero]
    rw [ife_f (M' := M) (by kernel_rfl), st_of hv]
    by_cases hb : inB n X Y
    · rw [ife_f (out_false hb), ife_f (M' := M) (by kernel_rfl)]
      by_cases hxy : X < Y
      · have ht : ∀ o0 o1 o2 : Option D, evT Γ (.val (.cmp .ge (.var 3) (.var 4))) [o0, o1, o2, some (.int X), some (.int Y), none, none, none, none] M = .ok false M := fun o0 o1 o2 => by
          have h2 : ¬ Y ≤ X := by omega
          clear hl hv hX hY hC hb hz
          walk_at "ev"
        rw [ife_f (ht _ _ _)]
        have hb2 := hb
        unfold inB at hb2
        obtain ⟨x, rfl⟩ : ∃ x : Nat, X = (x : Int) := ⟨X.toNat, by omega⟩
        obtain ⟨m, hm⟩ : ∃ m : Nat, Y = (x : Int) + m - 1 ∧ 1 ≤ m := ⟨(Y - x + 1).toNat, by omega⟩
        obtain ⟨rfl, hm1⟩ := hm
        have e : rowD n (comp g (rollI x m (amV A m))) = rowD n (comp g ((Mo.roll x ((x : Int) + m - 1) A).f n)) := congrArg (List.map D.int) (row_ext fun p hp => by
          unfold comp
          rw [f_roll, if_pos ⟨hb, hxy⟩, show (x : Int) + m - 1 - x + 1 = m by omega])
        rw [← e]
        have n0 := Int.emod_nonneg (amV A m) (show (m : Int) ≠ 0 by omega)
        have n1 := Int.emod_lt_of_pos (amV A m) (show (0 : Int) < m by omega)
        obtain ⟨cut, hcut⟩ : ∃ cut : Nat, (cut : Int) = m - amV A m % m := ⟨((m : Int) - amV A m % m).toNat, by omega⟩
        have hs := roll_sgms (g := g) (n := n) (x := x) (m := m) (cut := cut) (b := amV A m) (by omega) hm1 hcut (by omega) (by omega)
        have y1 : (x : Int) + m - 1 + 1 = ((x + m : Nat) : Int) := by omega
        have bl : ((sgm g x m).length : Int) = m := by rw [row_len]
        have s1 : slD false M (.lst (rowD n g)) (some (x : Int)) (some ((x : Int) + m - 1 + 1)) = .ok (.lst (sgm g x m)) M := by
          rw [y1, sgm_id]
          show Rs.ok (D.lst (cutG (sgm g 0 n) (some (x : Int)) (some ((x + m : Nat) : Int)))) M = _
          rw [cut_sgm (by omega) (by omega), Nat.zero_add, Nat.add_sub_cancel_left]
        have s2 : slD false M (.lst (rowD n g)) none (some (x : Int)) = .ok (.lst (sgm g 0 x)) M := by
          rw [sgm_id]
          show Rs.ok (D.lst (cutG (sgm g 0 n) none (some (x : Int)))) M = _
          rw [cut_sgm_hi (by omega)]
        have s3 : slD false M (.lst (sgm g x m)) (some (cut : Int)) none = .ok (.lst (sgm g (x + cut) (m - cut))) M := by
          show Rs.ok (D.lst (cutG (sgm g x m) (some (cut : Int)) none)) M = _
          rw [cut_sgm_lo (by omega)]
        have s4 : slD false M (.lst (sgm g x m)) none (some (cut : Int)) = .ok (.lst (sgm g x cut)) M := by
          show Rs.ok (D.lst (cutG (sgm g x m) none (some (cut : Int)))) M = _
          rw [cut_sgm_hi (by omega)]
        have s5 : slD false M (.lst (rowD n g)) (some ((x : Int) + m - 1 + 1)) none = .ok (.lst (sgm g (x + m) (n - (x + m)))) M := by
          rw [y1, sgm_id]
          show Rs.ok (D.lst (cutG (sgm g 0 n) (some ((x + m : Nat) : Int)) none)) M = _
          rw [cut_sgm_lo (by omega), Nat.zero_add]
        have a1 : binD false .add (.lst (sgm g 0 x)) (.lst (sgm g (x + cut) (m - cut))) M = .ok (.lst (sgm g 0 x ++ sgm g (x + cut) (m - cut))) M := by
          rw [b_addl, if_pos (by rw [row_len, row_len]; omega), mk_f]
        have a2 : binD false .add (.lst (sgm g 0 x ++ sgm g (x + cut) (m - cut))) (.lst (sgm g x cut)) M = .ok (.lst ((sgm g 0 x ++ sgm g (x + cut) (m - cut)) ++ sgm g x cut)) M := by
          rw [b_addl, if_pos (by rw [List.length_append, row_len, row_len, row_len]; omega), mk_f]
        have a3 : binD false .add (.lst ((sgm g 0 x ++ sgm g (x + cut) (m - cut)) ++ sgm g x cut)) (.lst (sgm g (x + m) (n - (x + m)))) M = .ok (.lst (rowD n (comp g (rollI x m (amV A m))))) M := by
          rw [b_addl, if_pos (by rw [List.length_append, List.length_append, row_len, row_len, row_len, row_len]; omega), mk_f, hs]
        have h0 : (0 : Int) < m := by omega
        have hC2 := hC (sgm g x m) (some (.lst (rowD n g))) (some (.int (n : Int))) (some (.int (x : Int))) (some (.int ((x : Int) + m - 1))) M
        rw [bl] at hC2
        unfold cE at hC2
        have hz2 : (m : Int) - amV A m % m = cut := hcut.symm
        generalize rowD n (comp g (rollI x m (amV A m))) = R9 at *
        generalize (sgm g 0 x ++ sgm g (x + cut) (m - cut)) ++ sgm g x cut = R8 at *
        generalize sgm g 0 x ++ sgm g (x + cut) (m - cut) = R7 at *
        generalize sgm g 0 x = R6 at *
        generalize sgm g (x + m) (n - (x + m)) = R5 at *
        generalize sgm g (x + cut) (m - cut) = R4 at *
        generalize sgm g x cut = R3 at *
        generalize sgm g x m = R2 at *
        generalize rowD n g = R1 at *
        generalize (cut : Int) = C at *
        generalize (m : Int) = Mm at *
        generalize (x : Int) = Xx at *
        generalize amV A Mm = Am at *
        clear hs hl hv hX hY hC hb hb2 e hcut y1 n0 n1 hz ht hxy
        walk_at "ev"
      · have ht : ∀ o0 o1 o2 : Option D, evT Γ (.val (.cmp .ge (.var 3) (.var 4))) [o0, o1, o2, some (.int X), some (.int Y), none, none, none, none] M = .ok true M := fun o0 o1 o2 => by
          have h2 : Y ≤ X := by omega
          clear hl hv hX hY hC hb hz
          walk_at "ev"
        have e : rowD n g = rowD n (comp g ((Mo.roll X Y A).f n)) := comp_idf fun p hp => by rw [f_roll, if_neg (fun z => hxy z.2)]
        rw [ife_t (ht _ _ _), ← e]
        generalize rowD n g = R
        rw [ret_of (d := .lst R) (M' := M) (by rfl), sg_rt]
    · have e : rowD n g = rowD n (comp g ((Mo.roll X Y A).f n)) := comp_idf fun p hp => by rw [f_roll, if_neg (fun z => hb z.1)]
      rw [ife_t (out_true hb), ← e]
      generalize rowD n g = R
      rw [ret_of (d := .lst R) (M' := M) (by rfl), sg_rt]
  rw [key]
  exact fin_pure rfl (row_low 0)
end
/-! ### several moves are read -/
section
variable {Γ : MP.Env} {M : Mem} {ws : List D}
abbrev tpl (l : List (List D)) : List D := l.map D.tup
/-- what reading finds from a place on: behind the moves done the moves rest -/
inductive Rd (Γ : MP.Env) (ws : List D) (M : Mem) : List (List D) → Int → List (List D) → Prop
  | last {done : List (List D)} {at_ : Int} {mv : List D} : Γ.cs.f "read_move" [.lst ws, .int at_, .ref M.length] (M ++ [.lst (tpl done)]) = .ok (.tup mv) (M ++ [.lst (tpl done)]) → at_ + (mv.length : Int) = (ws.length : Int) → Rd Γ ws M done at_ [mv]
  | more {done : List (List D)} {at_ : Int} {mv : List D} {rest : List (List D)} : Γ.cs.f "read_move" [.lst ws, .int at_, .ref M.length] (M ++ [.lst (tpl done)]) = .ok (.tup mv) (M ++ [.lst (tpl done)]) → rest ≠ [] → at_ + (mv.length : Int) ≠ (ws.length : Int) → atI ws (at_ + (mv.length : Int)) = some (.str "then") →
      Rd Γ ws M (done ++ [mv]) (at_ + (mv.length : Int) + 1) rest → Rd Γ ws M done at_ (mv :: rest)
def rmB : SSs := (.cons (.set 3 (.call "read_move" (.cons (.var 0) (.cons (.var 1) (.cons (.var 2) .nil)))))
  (.cons (.ex (.meth .append (.var 2) (.cons (.var 3) .nil)))
  (.cons (.aug 1 .add (.blt .len (.cons (.var 3) .nil)))
  (.cons (.ife (.or (.val (.cmp .eq (.blt .len (.cons (.var 2) .nil)) (.cst "MOST_MOVES"))) (.or (.val (.cmp .eq (.var 1) (.blt .len (.cons (.var 0) .nil)))) (.val (.cmp .ne (.ix (.var 0) (.var 1)) (.str "then")))))
  (.cons (.ret (.tup (.cons (.blt .tuple (.cons (.var 2) .nil)) (.cons (.var 1) .nil))))
  .nil)
  .nil)
  (.cons (.aug 1 .add (.int 1))
  .nil)))))
abbrev rmT : ST := .or (.val (.cmp .eq (.blt .len (.cons (.var 2) .nil)) (.cst "MOST_MOVES"))) (.or (.val (.cmp .eq (.var 1) (.blt .len (.cons (.var 0) .nil)))) (.val (.cmp .ne (.ix (.var 0) (.var 1)) (.str "then"))))
theorem rm_body {done : List (List D)} {at_ : Int} {mv : List D} {o3 : Option D} (hr : Γ.cs.f "read_move" [.lst ws, .int at_, .ref M.length] (M ++ [.lst (tpl done)]) = .ok (.tup mv) (M ++ [.lst (tpl done)])) (hd : done.length < 100) :
    evSs Γ rmB [some (.lst ws), some (.int at_), some (.ref M.length), o3] (M ++ [.lst (tpl done)]) = evSs Γ (.cons (.ife rmT (.cons (.ret (.tup (.cons (.blt .tuple (.cons (.var 2) .nil)) (.cons (.var 1) .nil)))) .nil) .nil) (.cons (.aug 1 .add (.int 1)) .nil)) [some (.lst ws), some (.int (at_ + mv.length)), some (.ref M.length), some (.tup mv)] (M ++ [.lst (tpl (done ++ [mv]))]) := by
  have hz : sizeLine = 16777216 := sizeLine_eq
  have t1 : tyD (M ++ [.lst (tpl done)]) .append (.ref M.length) = true := by
    unfold tyD lstOf
    simp only [at_end]
    rfl
  have a1 : methD (M ++ [.lst (tpl done)]) .append (.ref M.length) [.tup mv] = .ok .non (M ++ [.lst (tpl (done ++ [mv]))]) := by
    unfold methD updL
    simp only [at_end]
    rw [if_pos (by rw [List.length_map]; omega)]
    show Rs.ok D.non ((M ++ [MO.lst (tpl done)]).set M.length (.lst (tpl done ++ [.tup mv]))) = _
    rw [set_end]
    unfold tpl
    rw [List.map_append]
    rfl
  unfold rmB
  rw [set_of (d := .tup mv) (M' := M ++ [.lst (tpl done)]) (by clear t1 a1 hz hd; generalize M ++ [MO.lst (tpl done)] = Mx at *; walk_at "ev")]
  simp only [List.set_cons_succ, List.set_cons_zero]
  rw [st_of (r' := [some (.lst ws), some (.int at_), some (.ref M.length), some (.tup mv)]) (M' := M ++ [.lst (tpl (done ++ [mv]))]) (by clear hr hz hd; generalize M ++ [MO.lst (tpl (done ++ [mv]))] = My at *; generalize M ++ [MO.lst (tpl done)] = Mx at *; walk_at "ev")]
  rw [st_of (r' := [some (.lst ws), some (.int (at_ + mv.length)), some (.ref M.length), some (.tup mv)]) (M' := M ++ [.lst (tpl (done ++ [mv]))]) (by rfl)]
theorem rm_loop (h4 : Γ.cst "MOST_MOVES" = some (.int 4)) : ∀ {rest done : List (List D)} {at_ : Int} {o3 : Option D}, Rd Γ ws M done at_ rest → done.length + rest.length ≤ 4 → ∀ k, rest.length ≤ k →
    whlGo (evT Γ (.tru (.bl true))) (evSs Γ rmB) k [some (.lst ws), some (.int at_), some (.ref M.length), o3] (M ++ [.lst (tpl done)]) = .rt (.tup [.tup (tpl (done ++ rest)), .int (ws.length : Int)]) (M ++ [.lst (tpl (done ++ rest))]) := by
  intro rest done at_ o3 h
  induction h generalizing o3 with
  | @last done at_ mv hr hl =>
    intro hd k hk
    obtain ⟨k, rfl⟩ : ∃ j, k = j + 1 := ⟨k - 1, by simp at hk; omega⟩
    have l1 : lenD (M ++ [.lst (tpl (done ++ [mv]))]) (.ref M.length) = .ok (.int ((done.length + 1 : Nat) : Int)) (M ++ [.lst (tpl (done ++ [mv]))]) := by
      unfold lenD
      simp only [at_end]
      simp [tpl]
    have e1 : eqD (M ++ [.lst (tpl (done ++ [mv]))]) (.int ((done.length + 1 : Nat) : Int)) (.int 4) = some (decide (((done.length + 1 : Nat) : Int) = 4)) := eq_int
    have e2 : eqD (M ++ [.lst (tpl (done ++ [mv]))]) (.int (ws.length : Int)) (.int (ws.length : Int)) = some true := by rw [eq_int]; simp
    have tu : bltD (M ++ [.lst (tpl (done ++ [mv]))]) .tuple [.ref M.length] = .ok (.tup (tpl (done ++ [mv]))) (M ++ [.lst (tpl (done ++ [mv]))]) := by
      unfold bltD seqOf
      simp only [at_end]
      rfl
    have z2 : 0 + 1 + 1 ≤ sizeLine := by decide
    have tt : evT Γ rmT [some (.lst ws), some (.int (ws.length : Int)), some (.ref M.length), some (.tup mv)] (M ++ [.lst (tpl (done ++ [mv]))]) = .ok true (M ++ [.lst (tpl (done ++ [mv]))]) := by
      unfold rmT
      generalize M ++ [MO.lst (tpl (done ++ [mv]))] = Mx at *
      by_cases h3 : (((done.length + 1 : Nat) : Int) = 4)
      · rw [decide_eq_true h3] at e1
        generalize ((done.length + 1 : Nat) : Int) = L at *
        clear hr hd hk hl tu h3
        walk_at "ev"
      · rw [decide_eq_false h3] at e1
        generalize ((done.length + 1 : Nat) : Int) = L at *
        clear hr hd hk hl tu h3
        walk_at "ev"
    have bd : evSs Γ rmB [some (.lst ws), some (.int at_), some (.ref M.length), o3] (M ++ [.lst (tpl done)]) = .rt (.tup [.tup (tpl (done ++ [mv])), .int (ws.length : Int)]) (M ++ [.lst (tpl (done ++ [mv]))]) := by
      rw [rm_body hr (by simp at hd; omega), hl, ife_t tt, ret_of (d := .tup [.tup (tpl (done ++ [mv])), .int (ws.length : Int)]) (M' := M ++ [.lst (tpl (done ++ [mv]))]) (by generalize M ++ [MO.lst (tpl (done ++ [mv]))] = Mx at *; generalize tpl (done ++ [mv]) = Tp at *; clear hr hd hk hl e1 e2 l1 tt h4; walk_at "ev"), sg_rt]
    show (match evSs Γ rmB [some (.lst ws), some (.int at_), some (.ref M.length), o3] (M ++ [.lst (tpl done)]) with
      | .nx r M => whlGo (evT Γ (.tru (.bl true))) (evSs Γ rmB) k r M
      | .ct r M => whlGo (evT Γ (.tru (.bl true))) (evSs Γ rmB) k r M
      | .bk r M => .nx r M
      | y => y) = _
    rw [bd]
  | @more done at_ mv rest hr hne hl ht hR ih =>
    intro hd k hk
    obtain ⟨k, rfl⟩ : ∃ j, k = j + 1 := ⟨k - 1, by simp at hk; omega⟩
    have hpos : 0 < rest.length := List.length_pos_iff.mpr hne
    simp only [List.length_cons] at hd hk
    have l1 : lenD (M ++ [.lst (tpl (done ++ [mv]))]) (.ref M.length) = .ok (.int ((done.length + 1 : Nat) : Int)) (M ++ [.lst (tpl (done ++ [mv]))]) := by
      unfold lenD
      simp only [at_end]
      simp [tpl]
    have e1 : eqD (M ++ [.lst (tpl (done ++ [mv]))]) (.int ((done.length + 1 : Nat) : Int)) (.int 4) = some false := by rw [eq_int, decide_eq_false (by omega)]
    have e2 : eqD (M ++ [.lst (tpl (done ++ [mv]))]) (.int (at_ + mv.length)) (.int (ws.length : Int)) = some false := by rw [eq_int, decide_eq_false hl]
    have e3 : ∀ M : Mem, eqD M (.str "then") (.str "then") = some true := fun M => by kernel_rfl
    have tt : evT Γ rmT [some (.lst ws), some (.int (at_ + mv.length)), some (.ref M.length), some (.tup mv)] (M ++ [.lst (tpl (done ++ [mv]))]) = .ok false (M ++ [.lst (tpl (done ++ [mv]))]) := by
      unfold rmT
      generalize M ++ [MO.lst (tpl (done ++ [mv]))] = Mx at *
      generalize ((done.length + 1 : Nat) : Int) = L at *
      clear hr hd hk hl hR ih hne
      walk_at "ev"
    have bd : evSs Γ rmB [some (.lst ws), some (.int at_), some (.ref M.length), o3] (M ++ [.lst (tpl done)]) = .nx [some (.lst ws), some (.int (at_ + mv.length + 1)), some (.ref M.length), some (.tup mv)] (M ++ [.lst (tpl (done ++ [mv]))]) := by
      rw [rm_body hr (by omega), ife_f tt]
      rfl
    show (match evSs Γ rmB [some (.lst ws), some (.int at_), some (.ref M.length), o3] (M ++ [.lst (tpl done)]) with
      | .nx r M => whlGo (evT Γ (.tru (.bl true))) (evSs Γ rmB) k r M
      | .ct r M => whlGo (evT Γ (.tru (.bl true))) (evSs Γ rmB) k r M
      | .bk r M => .nx r M
      | y => y) = _
    rw [bd]
    have := ih (o3 := some (.tup mv)) (by simp; omega) k (by omega)
    rw [List.append_assoc] at this
    exact this
theorem read_many {mvs : List (List D)} (hR : Rd Γ ws M [] 0 mvs) (hl : mvs.length ≤ 4) (hM : M.all (lowM M.length) = true) (hmv : lowDs 0 (tpl mvs) = true) (h4 : Γ.cst "MOST_MOVES" = some (.int 4)) :
    callF Γ readMovesF [.lst ws, .int 0] M = .ok (.tup [.tup (tpl mvs), .int (ws.length : Int)]) M := by
  have big : mvs.length ≤ whlMax := Nat.le_trans hl (by decide)
  have lp := rm_loop h4 hR (by simpa using hl) whlMax big (o3 := none)
  have key : evSs Γ readMovesF.body [some (.lst ws), some (.int 0), none, none] M = .rt (.tup [.tup (tpl mvs), .int (ws.length : Int)]) (M ++ [.lst (tpl mvs)]) := by
    unfold readMovesF
    rw [set_of (d := .ref M.length) (M' := M ++ [.lst []]) (by kernel_rfl)]
    simp only [List.set_cons_succ, List.set_cons_zero]
    rw [ss_cons, s_whl']
    have lp : whlGo (evT Γ (.tru (.bl true))) (evSs Γ rmB) whlMax [some (.lst ws), some (.int 0), some (.ref M.length), none] (M ++ [.lst []]) = .rt (.tup [.tup (tpl mvs), .int (ws.length : Int)]) (M ++ [.lst (tpl mvs)]) := lp
    unfold rmB at lp
    rw [lp, sg_rt]
  rw [callF_run (by rfl), show startD readMovesF.N [D.lst ws, .int 0] = [some (.lst ws), some (.int 0), none, none] from rfl, key]
  refine fin_pure1 ?_ hM
  show (lowDs 0 (tpl mvs) && (true && true)) = true
  rw [hmv]
  rfl
end
/-- a list's walk, item by item -/
theorem lcGo_list {α : Type} {Γ : MP.Env} {e : SE} {r : Rho} {i : Nat} {M : Mem} (φ ψ : α → D) : ∀ (xs : List α) (acc : List D), (∀ a ∈ xs, evE Γ e (r.set i (some (φ a))) M = .ok (ψ a) M) →
    lcGo (fun d r M => asg M (.nm i) d r) (evC Γ .yes) (evE Γ e) r (xs.map φ) acc M = .ok (acc ++ xs.map ψ) M
  | [], acc, _ => by rw [List.map_nil, List.map_nil, List.append_nil]; rfl
  | a :: xs, acc, H => by
    show (evE Γ e (r.set i (some (φ a))) M).bind (fun y M => lcGo _ _ _ r (xs.map φ) (acc ++ [y]) M) = _
    rw [H a (by simp)]
    show lcGo (fun d r M => asg M (.nm i) d r) (evC Γ .yes) (evE Γ e) r (xs.map φ) (acc ++ [ψ a]) M = _
    rw [lcGo_list φ ψ xs _ fun d hd => H d (by simp [hd]), List.map_cons, List.append_assoc]
    rfl
/-- rows led through moves -/
def led {α : Type} (f : α → Nat → Int) (G : Nat → Int) (xs : List α) : Nat → Int := xs.foldl (fun G a => comp G (f a)) G
theorem led_perm {α : Type} {n : Nat} {f : α → Nat → Int} : ∀ {xs : List α} {G : Nat → Int}, Perm n G → (∀ a ∈ xs, Perm n (f a)) → Perm n (led f G xs)
  | [], _, P, _ => P
  | a :: xs, G, P, h => led_perm (xs := xs) (comp_perm P (h a (by simp))) fun b hb => h b (by simp [hb])
theorem forGo_led {α : Type} {step : D → Rho → Mem → RS} {n : Nat} {M : Mem} {f : α → Nat → Int} (φ : α → D) (S : (Nat → Int) → Option D → Rho) : ∀ (xs : List α) {G : Nat → Int} {o : Option D}, Perm n G → (∀ a ∈ xs, Perm n (f a)) →
    (∀ a ∈ xs, ∀ G o, Perm n G → step (φ a) (S G o) M = .nx (S (comp G (f a)) (some (φ a))) M) → ∃ o', forGo step (xs.map φ) (S G o) M = .nx (S (led f G xs) o') M
  | [], G, o, _, _, _ => ⟨o, rfl⟩
  | a :: xs, G, o, P, hP, h => by
    obtain ⟨o', e⟩ := forGo_led φ S xs (o := some (φ a)) (comp_perm P (hP a (by simp))) (fun b hb => hP b (by simp [hb])) fun b hb => h b (by simp [hb])
    refine ⟨o', ?_⟩
    show (match step (φ a) (S G o) M with
      | .nx r M => forGo step (xs.map φ) r M
      | .ct r M => forGo step (xs.map φ) r M
      | .bk r M => .nx r M
      | y => y) = _
    rw [h a (by simp) G o P]
    exact e
def wAtG : FnD := ⟨wAtF.ps, wAtF.N, wAtF.body, false⟩
/-- a word of several moves at a size -/
theorem wat_many {α : Type} {Γ Γ1 Γ2 Γ3 Γ4 : MP.Env} {M : Mem} {n : Nat} {ms : List α} (φ : α → List D) (f : α → Nat → Int) {t h p : D} (hi : Γ.cs.f "is_integer" = callF Γ1 intF) (hj : Γ.cs.f "joined" = callF Γ2 joinG) (hnr : Γ2.cs.f "need_row" = callF Γ3 needF) (hi3 : Γ3.cs.f "is_integer" = callF Γ4 intF)
    (hmax : Γ.cst "MOST_SIZE" = some (.int 1000)) (hf : Γ.g.fok "Word" "moves" = true) (h1 : 1 ≤ n) (hn : n ≤ 1000) (P : ∀ a ∈ ms, Perm n (f a)) (hM : M.all (lowM M.length) = true) (hm : ∀ a ∈ ms, Γ.cs.f "move_at" [.tup (φ a), .int (n : Int)] M = .ok (.lst (rowD n (f a))) M) :
    callF Γ wAtG [.obj "Word" wnames [t, .tup (ms.map fun a => .tup (φ a)), h, p], .int (n : Int)] M = .ok (.lst (rowD n (led f idI ms))) M := by
  have c1 : (1 : Int) ≤ (n : Int) := by omega
  have c2 : (n : Int) ≤ 1000 := by omega
  have g1 := int_call hi (n : Int) M
  have e1 := e_lrg_row (Γ := Γ) (m := false) (i := 1) (n := n) (M := M) (r := [some (.obj "Word" wnames [t, .tup (ms.map fun a => .tup (φ a)), h, p]), some (.int (n : Int)), none, none]) rfl hn
  rw [mk_f] at e1
  have fl : fldD Γ.g M (.obj "Word" wnames [t, .tup (ms.map fun a => .tup (φ a)), h, p]) "moves" = .ok (.tup (ms.map fun a => .tup (φ a))) M := by
    show (if Γ.g.fok "Word" "moves" = true then opt ((wnames.zip [t, .tup (ms.map fun a => .tup (φ a)), h, p]).lookup (Str.ofString "moves")) (fun d => .ok d M) else .bad) = _
    rw [if_pos hf]
    kernel_rfl
  have key : evSs Γ wAtG.body [some (.obj "Word" wnames [t, .tup (ms.map fun a => .tup (φ a)), h, p]), some (.int (n : Int)), none, none] M = .rt (.lst (rowD n (led f idI ms))) M := by
    generalize D.obj "Word" wnames [t, .tup (ms.map fun a => .tup (φ a)), h, p] = W at *
    obtain ⟨o', lp⟩ := forGo_led (step := stepF Γ (.nm 3) (.cons (.set 2 (.call "joined" (.cons (.var 2) (.cons (.call "move_at" (.cons (.var 3) (.cons (.var 1) .nil))) .nil)))) .nil)) (n := n) (M := M) (f := f) (fun a => D.tup (φ a)) (fun G o => [some W, some (.int (n : Int)), some (.lst (rowD n G)), o]) ms (o := none) (id_perm n) P (fun a ha G o PG => by
      have j1 : Γ.cs.f "joined" [.lst (rowD n G), .lst (rowD n (f a))] M = .ok (.lst (rowD n (comp G (f a)))) M := by rw [hj]; exact join_rows hnr hi3 hn PG (P a ha) hM
      have m1 := hm a ha
      rw [k_step]
      simp only [List.set_cons_succ, List.set_cons_zero]
      generalize rowD n (comp G (f a)) = R3 at *
      generalize rowD n (f a) = R1 at *
      generalize rowD n G = R2 at *
      generalize φ a = Fa at *
      clear e1 fl hj hnr hi3 hi hM hf g1 hmax c1 c2 hm P PG
      walk_at "ev")
    unfold wAtG wAtF
    rw [ife_f (M' := M) (by generalize rowD n idI = R0 at *; clear e1 fl lp hm hj hnr hi3 hi hM hf P; walk_at "ev"), set_of e1]
    simp only [List.set_cons_succ, List.set_cons_zero]
    have ib : evI Γ (.seq (.fld (.var 0) "moves")) [some W, some (.int (n : Int)), some (.lst (rowD n idI)), none] M = .ok (.vals (ms.map fun a => .tup (φ a))) M := by
      rw [i_seq, e_fld, e_var, get0, v_d, rb_ok, k_fld, fl, rb_ok, k_seqt]
    rw [st_of (r' := [some W, some (.int (n : Int)), some (.lst (rowD n (led f idI ms))), o']) (M' := M) (by
      rw [s_for', ib, rg_ok, k_for]
      exact lp)]
    rw [ret_of (d := .lst (rowD n (led f idI ms))) (M' := M) (by generalize rowD n (led f idI ms) = R9; rfl)]
  rw [callF_run (by rfl), show startD wAtG.N [D.obj "Word" wnames [t, .tup (ms.map fun a => .tup (φ a)), h, p], .int (n : Int)] = [some (.obj "Word" wnames [t, .tup (ms.map fun a => .tup (φ a)), h, p]), some (.int (n : Int)), none, none] from rfl, key]
  exact fin_pure rfl (row_low 0)
def allF : FnD := ⟨["row", "moves"], ["row", "moves", "found", "move"], (.cons (.set 2 (.blt (.list false) (.cons (.var 0) .nil)))
  (.cons (.for_ (.nm 3) (.seq (.var 1))
  (.cons (.set 2 (.call "_law_moved" (.cons (.var 2) (.cons (.var 3) .nil))))
  .nil))
  (.cons (.ret (.var 2))
  .nil))), false⟩
/-- the law's moves, one behind the other -/
theorem all_moved {α : Type} {Γ : MP.Env} {M : Mem} {n : Nat} {ms : List α} (φ : α → List D) (f : α → Nat → Int) (P : ∀ a ∈ ms, Perm n (f a)) (hm : ∀ a ∈ ms, ∀ G, Γ.cs.f "_law_moved" [.lst (rowD n G), .lst (φ a)] M = .ok (.lst (rowD n (comp G (f a)))) M) :
    callF Γ allF [.lst (rowD n idI), .lst (ms.map fun a => .lst (φ a))] M = .ok (.lst (rowD n (led f idI ms))) M := by
  have key : evSs Γ allF.body [some (.lst (rowD n idI)), some (.lst (ms.map fun a => .lst (φ a))), none, none] M = .rt (.lst (rowD n (led f idI ms))) M := by
    generalize hR : rowD n idI = R0
    generalize hL : (ms.map fun a => D.lst (φ a)) = Ls
    obtain ⟨o', lp⟩ := forGo_led (step := stepF Γ (.nm 3) (.cons (.set 2 (.call "_law_moved" (.cons (.var 2) (.cons (.var 3) .nil)))) .nil)) (n := n) (M := M) (f := f) (fun a => D.lst (φ a)) (fun G o => [some (.lst R0), some (.lst Ls), some (.lst (rowD n G)), o]) ms (o := none) (id_perm n) P (fun a ha G o PG => by
      have m1 := hm a ha G
      rw [k_step]
      simp only [List.set_cons_succ, List.set_cons_zero]
      generalize rowD n (comp G (f a)) = R3 at *
      generalize rowD n G = R2 at *
      generalize φ a = Fa at *
      clear hm P PG hR hL
      walk_at "ev")
    unfold allF
    rw [set_of (d := .lst R0) (M' := M) (by rfl)]
    simp only [List.set_cons_succ, List.set_cons_zero]
    rw [st_of (r' := [some (.lst R0), some (.lst Ls), some (.lst (rowD n (led f idI ms))), o']) (M' := M) (by
      rw [s_for', show evI Γ (.seq (.var 1)) [some (.lst R0), some (.lst Ls), some (.lst R0), none] M = .ok (.vals Ls) M from rfl, rg_ok, k_for, ← hL, ← hR]
      rw [hL, hR]
      rw [← hL]
      rw [hR] at lp
      rw [hL]
      rw [hL] at lp
      exact lp)]
    rw [ret_of (d := .lst (rowD n (led f idI ms))) (M' := M) (by generalize rowD n (led f idI ms) = R9; rfl)]
  rw [callF_run (by rfl), show startD allF.N [D.lst (rowD n idI), .lst (ms.map fun a => .lst (φ a))] = [some (.lst (rowD n idI)), some (.lst (ms.map fun a => .lst (φ a))), none, none] from rfl, key]
  exact fin_pure rfl (row_low 0)
theorem initM_ok {Γ : MP.Env} {M : Mem} {text : Str} {words : List Str} {MV PT : List D} {ht : Bool} {L : Int} (hs : Txt.split text " " = words) (hl : text.length + 2 ≤ sizeLine) (hL : (words.length : Int) = L)
    (hf : ∀ f ∈ wnames, Γ.g.fok "Word" f = true)
    (hr : Γ.cs.f "read_moves" [.lst (words.map D.str), .int 0] (M ++ [.ins "Word" [] []]) = .ok (.tup [.tup MV, .int L]) (M ++ [.ins "Word" [] []]))
    (ht' : memD (M ++ [.ins "Word" ["text", "moves"] [.str text, .tup MV]]) (.tup [.str "turn"]) (.tup MV) = some ht)
    (hMV : MV.length ≤ sizeLine)
    (l1 : ∀ W : List D, lcGo (fun d r M => asg M (.nm 5) d r) (evC Γ .yes) (evE Γ (.call "parts_of" (.cons (.var 5) .nil))) [some (.ref M.length), some (.str text), some (.lst W), some (.tup MV), some (.int L), none] MV [] (M ++ [.ins "Word" ["text", "moves", "has_turn"] [.str text, .tup MV, .bl ht]]) = .ok PT (M ++ [.ins "Word" ["text", "moves", "has_turn"] [.str text, .tup MV, .bl ht]])) :
    callF Γ initF [.ref M.length, .str text] (M ++ [.ins "Word" [] []]) = .ok .non (M ++ [.ins "Word" wnames [.str text, .tup MV, .bl ht, .tup PT]]) := by
  have b1 : methD (M ++ [.ins "Word" [] []]) (.split false) (.str text) [.str " "] = .ok (.lst (words.map D.str)) (M ++ [.ins "Word" [] []]) := by
    show (if ((" " : Str).length == 0) = false ∧ text.length + 2 ≤ sizeLine then mkL false ((Txt.split text " ").map D.str) _ else .bad) = _
    rw [if_pos ⟨by decide, hl⟩, hs]
    rfl
  have t1 : tyD (M ++ [.ins "Word" [] []]) (.split false) (.str text) = true := rfl
  have f1 := fset_end (M := M) (G := Γ.g) (c := "Word") (f := "text") (ns := []) (ds := []) (v := .str text) (by decide) rfl (hf _ (by simp [wnames]))
  have f2 := fset_end (M := M) (G := Γ.g) (c := "Word") (f := "moves") (ns := ["text"]) (ds := [.str text]) (v := .tup MV) (by decide) rfl (hf _ (by simp [wnames]))
  have f3 := fset_end (M := M) (G := Γ.g) (c := "Word") (f := "has_turn") (ns := ["text", "moves"]) (ds := [.str text, .tup MV]) (v := .bl ht) (by decide) rfl (hf _ (by simp [wnames]))
  have f4 := fset_end (M := M) (G := Γ.g) (c := "Word") (f := "parts") (ns := ["text", "moves", "has_turn"]) (ds := [.str text, .tup MV, .bl ht]) (v := .tup PT) (by decide) rfl (hf _ (by simp [wnames]))
  rw [show (putN "text" (.str text) [] []) = (([Str.ofString "text"], [D.str text]) : List Str × List D) from rfl] at f1
  rw [show (putN "moves" (.tup MV) ["text"] [.str text]) = (([Str.ofString "text", Str.ofString "moves"], [D.str text, .tup MV]) : List Str × List D) from by kernel_rfl] at f2
  rw [show (putN "has_turn" (.bl ht) ["text", "moves"] [.str text, .tup MV]) = (([Str.ofString "text", Str.ofString "moves", Str.ofString "has_turn"], [D.str text, .tup MV, .bl ht]) : List Str × List D) from by kernel_rfl] at f3
  rw [show (putN "parts" (.tup PT) ["text", "moves", "has_turn"] [.str text, .tup MV, .bl ht]) = ((wnames, [D.str text, .tup MV, .bl ht, .tup PT]) : List Str × List D) from by kernel_rfl] at f4
  have hlen : ((words.map D.str).length : Int) = L := by rw [List.length_map]; exact hL
  generalize hW : words.map D.str = W at *
  have l1 := l1 W
  have key : evSs Γ initF.body [some (.ref M.length), some (.str text), none, none, none, none] (M ++ [.ins "Word" [] []]) = .nx [some (.ref M.length), some (.str text), some (.lst W), some (.tup MV), some (.int L), none] (M ++ [.ins "Word" wnames [.str text, .tup MV, .bl ht, .tup PT]]) := by
    have q1 : evS Γ (.fset (.var 0) "text" (.var 1)) [some (.ref M.length), some (.str text), some (.lst W), some (.tup MV), some (.int L), none] (M ++ [.ins "Word" [] []]) = .nx [some (.ref M.length), some (.str text), some (.lst W), some (.tup MV), some (.int L), none] (M ++ [.ins "Word" ["text"] [.str text]]) := by
      show optS (fsetD Γ.g (M ++ [.ins "Word" [] []]) (.ref M.length) "text" (.str text)) _ = _
      rw [f1]
      rfl
    have q2 : evS Γ (.fset (.var 0) "moves" (.var 3)) [some (.ref M.length), some (.str text), some (.lst W), some (.tup MV), some (.int L), none] (M ++ [.ins "Word" ["text"] [.str text]]) = .nx [some (.ref M.length), some (.str text), some (.lst W), some (.tup MV), some (.int L), none] (M ++ [.ins "Word" ["text", "moves"] [.str text, .tup MV]]) := by
      show optS (fsetD Γ.g (M ++ [.ins "Word" ["text"] [.str text]]) (.ref M.length) "moves" (.tup MV)) _ = _
      rw [f2]
      rfl
    have e3 : evE Γ (.cmp .in_ (.tup (.cons (.str "turn") .nil)) (.var 3)) [some (.ref M.length), some (.str text), some (.lst W), some (.tup MV), some (.int L), none] (M ++ [.ins "Word" ["text", "moves"] [.str text, .tup MV]]) = .ok (.bl ht) (M ++ [.ins "Word" ["text", "moves"] [.str text, .tup MV]]) := by
      have z1 : 0 + 1 ≤ sizeLine := by decide
      clear b1 t1 f1 f2 f3 f4 hr hs hl hL hf hlen hW l1 hMV q1 q2
      walk_at "ev"
    have q3 : evS Γ (.fset (.var 0) "has_turn" (.cmp .in_ (.tup (.cons (.str "turn") .nil)) (.var 3))) [some (.ref M.length), some (.str text), some (.lst W), some (.tup MV), some (.int L), none] (M ++ [.ins "Word" ["text", "moves"] [.str text, .tup MV]]) = .nx [some (.ref M.length), some (.str text), some (.lst W), some (.tup MV), some (.int L), none] (M ++ [.ins "Word" ["text", "moves", "has_turn"] [.str text, .tup MV, .bl ht]]) := by
      show (evE Γ (.cmp .in_ (.tup (.cons (.str "turn") .nil)) (.var 3)) _ _).go _ _ = _
      rw [e3]
      show optS (fsetD Γ.g (M ++ [.ins "Word" ["text", "moves"] [.str text, .tup MV]]) (.ref M.length) "has_turn" (.bl ht)) _ = _
      rw [f3]
      rfl
    have e4 : evE Γ (.blt .tuple (.cons (.lc false [5] (.nm 5) (.seq (.var 3)) .yes (.call "parts_of" (.cons (.var 5) .nil))) .nil)) [some (.ref M.length), some (.str text), some (.lst W), some (.tup MV), some (.int L), none] (M ++ [.ins "Word" ["text", "moves", "has_turn"] [.str text, .tup MV, .bl ht]]) = .ok (.tup PT) (M ++ [.ins "Word" ["text", "moves", "has_turn"] [.str text, .tup MV, .bl ht]]) := by
      have e5 : evE Γ (.lc false [5] (.nm 5) (.seq (.var 3)) .yes (.call "parts_of" (.cons (.var 5) .nil))) [some (.ref M.length), some (.str text), some (.lst W), some (.tup MV), some (.int L), none] (M ++ [.ins "Word" ["text", "moves", "has_turn"] [.str text, .tup MV, .bl ht]]) = .ok (.lst PT) (M ++ [.ins "Word" ["text", "moves", "has_turn"] [.str text, .tup MV, .bl ht]]) := by
        rw [e_lc, show evI Γ (.seq (.var 3)) [some (.ref M.length), some (.str text), some (.lst W), some (.tup MV), some (.int L), none] (M ++ [.ins "Word" ["text", "moves", "has_turn"] [.str text, .tup MV, .bl ht]]) = .ok (.vals MV) _ from rfl, rb_ok, k_lcv, if_pos hMV]
        rw [show wipeD [some (D.ref M.length), some (.str text), some (.lst W), some (.tup MV), some (.int L), none] [5] = [some (.ref M.length), some (.str text), some (.lst W), some (.tup MV), some (.int L), none] from rfl, l1, no_ok, rb_ok, mk_f]
      rw [e_blt, es_cons, e5, rb_ok, k_es, es_nil, rb_ok, k_es2, rb_ok, k_blt]
      rfl
    have q4 : evS Γ (.fset (.var 0) "parts" (.blt .tuple (.cons (.lc false [5] (.nm 5) (.seq (.var 3)) .yes (.call "parts_of" (.cons (.var 5) .nil))) .nil))) [some (.ref M.length), some (.str text), some (.lst W), some (.tup MV), some (.int L), none] (M ++ [.ins "Word" ["text", "moves", "has_turn"] [.str text, .tup MV, .bl ht]]) = .nx [some (.ref M.length), some (.str text), some (.lst W), some (.tup MV), some (.int L), none] (M ++ [.ins "Word" wnames [.str text, .tup MV, .bl ht, .tup PT]]) := by
      show (evE Γ (.blt .tuple _) _ _).go _ _ = _
      rw [e4]
      show optS (fsetD Γ.g (M ++ [.ins "Word" ["text", "moves", "has_turn"] [.str text, .tup MV, .bl ht]]) (.ref M.length) "parts" (.tup PT)) _ = _
      rw [f4]
      rfl
    have lt : ¬ L < (W.length : Int) := by omega
    unfold initF
    rw [set_of (d := .lst W) (M' := M ++ [.ins "Word" [] []]) (by clear f1 f2 f3 f4 hr hs hl hL hf hlen hW l1 hMV q1 q2 q3 q4 e3 e4 ht'; walk_at "ev")]
    simp only [List.set_cons_succ, List.set_cons_zero]
    rw [st_of (r' := [some (.ref M.length), some (.str text), some (.lst W), some (.tup MV), some (.int L), none]) (M' := M ++ [.ins "Word" [] []]) (by
      rw [s_unp', show evE Γ (.call "read_moves" (.cons (.var 2) (.cons (.int 0) .nil))) [some (.ref M.length), some (.str text), some (.lst W), none, none, none] (M ++ [.ins "Word" [] []]) = Γ.cs.f "read_moves" [.lst W, .int 0] (M ++ [.ins "Word" [] []]) from rfl, hr]
      rfl)]
    rw [ife_f (M' := M ++ [.ins "Word" [] []]) (by clear f1 f2 f3 f4 hr hs hl hL hf hlen hW l1 hMV q1 q2 q3 q4 e3 e4 ht' b1 t1; walk_at "ev")]
    rw [st_of q1, st_of q2, st_of q3, st_of q4, ss_nil]
  rw [callF_run (by rfl), show startD initF.N [D.ref M.length, .str text] = [some (.ref M.length), some (.str text), none, none, none, none] from rfl, key]
  exact fin_non (by simp)
end MX

/-! Deeper calls answer the same: what the evaluator tells at a depth it tells at each greater one. -/
namespace MX
open MP
open PySem PySem.Spec PyProof.Rows L2

def Rle {α : Type} (x y : Rs α) : Prop := x = .bad ∨ x = y
def Sle (x y : RS) : Prop := x = .bad ∨ x = y
section
variable {α β : Type} {x y : Rs α} {f g : α → Mem → Rs β}
theorem Rle.rfl {x : Rs α} : Rle x x := .inr (Eq.refl x)
theorem Sle.rfl {x : RS} : Sle x x := .inr (Eq.refl x)
theorem Rle.bind (h : Rle x y) (hf : ∀ a M, Rle (f a M) (g a M)) : Rle (x.bind f) (y.bind g) := by
  rcases h with rfl | rfl
  · exact .inl (Eq.refl _)
  · cases x with
    | ok a M => exact hf a M
    | exc c ns ds M => exact Rle.rfl
    | bad => exact Rle.rfl
theorem Rle.go {f g : α → Mem → RS} {r : Rho} (h : Rle x y) (hf : ∀ a M, Sle (f a M) (g a M)) : Sle (x.go r f) (y.go r g) := by
  rcases h with rfl | rfl
  · exact .inl (Eq.refl _)
  · cases x with
    | ok a M => exact hf a M
    | exc c ns ds M => exact Sle.rfl
    | bad => exact Sle.rfl
theorem Sle.go {x y : RS} {f g : Rho → Mem → RS} (h : Sle x y) (hf : ∀ r M, Sle (f r M) (g r M)) : Sle (x.go f) (y.go g) := by
  rcases h with rfl | rfl
  · exact .inl (Eq.refl _)
  · cases x with
    | nx r M => exact hf r M
    | _ => exact Sle.rfl
theorem Rle.opt {α : Type} {o : Option α} {f g : α → Rs D} (hf : ∀ a, Rle (f a) (g a)) : Rle (opt o f) (opt o g) := by
  cases o with
  | none => exact Rle.rfl
  | some a => exact hf a
theorem Sle.optS {α : Type} {o : Option α} {f g : α → RS} (hf : ∀ a, Sle (f a) (g a)) : Sle (optS o f) (optS o g) := by
  cases o with
  | none => exact Sle.rfl
  | some a => exact hf a
theorem Rle.noExc (h : Rle x y) : Rle (noExc x) (noExc y) := by
  rcases h with rfl | rfl
  · exact .inl (Eq.refl _)
  · exact Rle.rfl
theorem Rle.mkI {x y : Rs D} {m : Bool} {n : Nat} (h : Rle x y) : Rle (mkI m n x) (mkI m n y) := by
  rcases h with rfl | rfl
  · exact .inl (Eq.refl _)
  · exact Rle.rfl
theorem Sle.gcR {x y : RS} {l : List Nat} {n : Nat} (h : Sle x y) : Sle (gcR l n x) (gcR l n y) := by
  rcases h with rfl | rfl
  · exact .inl (Eq.refl _)
  · exact Sle.rfl
theorem Sle.finE {x y : RS} {k : Bool} {n : Nat} (h : Sle x y) : Rle (finE k n x) (finE k n y) := by
  rcases h with rfl | rfl
  · exact .inl (Eq.refl _)
  · exact Rle.rfl
end
section
variable {g : D → Rho → Mem → Option Rho} {t t' : Rho → Mem → Rs Bool} {e e' : Rho → Mem → Rs D} {r : Rho}
theorem lcGo_le (ht : ∀ r M, Rle (t r M) (t' r M)) (he : ∀ r M, Rle (e r M) (e' r M)) : ∀ xs acc M, Rle (lcGo g t e r xs acc M) (lcGo g t' e' r xs acc M)
  | [], acc, M => Rle.rfl
  | d :: ds, acc, M => by
    unfold lcGo
    cases g d r M with
    | none => exact Rle.rfl
    | some r' =>
      refine (ht r' M).bind fun b M => ?_
      cases b with
      | true => exact (he r' M).bind fun y M => lcGo_le ht he ds _ M
      | false => exact lcGo_le ht he ds _ M
theorem lcAt_le (ht : ∀ r M, Rle (t r M) (t' r M)) (he : ∀ r M, Rle (e r M) (e' r M)) (i : Nat) (en : Bool) : ∀ n k acc M, Rle (lcAt g t e r i en n k acc M) (lcAt g t' e' r i en n k acc M)
  | 0, k, acc, M => Rle.rfl
  | n + 1, k, acc, M => by
    unfold lcAt
    split
    · split
      · exact Rle.rfl
      · split
        · exact Rle.rfl
        · rename_i r' _
          refine (ht r' M).bind fun b M => ?_
          cases b with
          | true => exact (he r' M).bind fun y M => lcAt_le ht he i en n _ _ M
          | false => exact lcAt_le ht he i en n _ _ M
    · exact Rle.rfl
end
section
variable {s s' : D → Rho → Mem → RS}
theorem forGo_le (h : ∀ d r M, Sle (s d r M) (s' d r M)) : ∀ xs r M, Sle (forGo s xs r M) (forGo s' xs r M)
  | [], r, M => Sle.rfl
  | d :: ds, r, M => by
    unfold forGo
    rcases h d r M with e | e
    · rw [e]
      exact .inl rfl
    · rw [e]
      cases s' d r M with
      | nx r M => exact forGo_le h ds r M
      | ct r M => exact forGo_le h ds r M
      | _ => exact Sle.rfl
theorem forAt_le (h : ∀ d r M, Sle (s d r M) (s' d r M)) (i : Nat) (en : Bool) : ∀ n k r M, Sle (forAt s i en n k r M) (forAt s' i en n k r M)
  | 0, k, r, M => Sle.rfl
  | n + 1, k, r, M => by
    unfold forAt
    split
    · split
      · exact Sle.rfl
      · rename_i d _
        rcases h (itemAt en k d) r M with e | e
        · rw [e]
          exact .inl rfl
        · rw [e]
          cases s' (itemAt en k d) r M with
          | nx r M => exact forAt_le h i en n _ r M
          | ct r M => exact forAt_le h i en n _ r M
          | _ => exact Sle.rfl
    · exact Sle.rfl
theorem whlGo_le {c c' : Rho → Mem → Rs Bool} {b b' : Rho → Mem → RS} (hc : ∀ r M, Rle (c r M) (c' r M)) (hb : ∀ r M, Sle (b r M) (b' r M)) : ∀ n r M, Sle (whlGo c b n r M) (whlGo c' b' n r M)
  | 0, r, M => Sle.rfl
  | n + 1, r, M => by
    unfold whlGo
    refine (hc r M).go fun k M => ?_
    cases k with
    | false => exact Sle.rfl
    | true =>
      dsimp only
      rcases hb r M with e | e
      · rw [e]
        exact .inl rfl
      · rw [e]
        cases b' r M with
        | nx r M => exact whlGo_le hc hb n r M
        | ct r M => exact whlGo_le hc hb n r M
        | _ => exact Sle.rfl
end
section
variable {G : Glob} {C C' : Calls} (hC : ∀ f ds M, Rle (C.f f ds M) (C'.f f ds M))
include hC
mutual
theorem evE_le : ∀ (a : SE) (r : Rho) (M : Mem), Rle (evE ⟨G, C⟩ a r M) (evE ⟨G, C'⟩ a r M)
  | .int i, _, M => Rle.rfl
  | .str x, _, M => Rle.rfl
  | .bl b, _, M => Rle.rfl
  | .non, _, M => Rle.rfl
  | .var i, r, M => Rle.rfl
  | .cst x, _, M => Rle.rfl
  | .bin m o a b, r, M => (evE_le a r M).bind fun x M => (evE_le b r M).bind fun y M => Rle.rfl
  | .neg a, r, M => (evE_le a r M).bind fun x M => Rle.rfl
  | .not a, r, M => (evE_le a r M).bind fun x M => Rle.rfl
  | .cmp o a b, r, M => (evE_le a r M).bind fun x M => (evE_le b r M).bind fun y M => Rle.rfl
  | .cmp2 o p a b c, r, M => (evE_le a r M).bind fun x M => (evE_le b r M).bind fun y M => Rle.rfl.bind fun k M => by
    split
    · exact (evE_le c r M).bind fun z M => Rle.rfl
    · exact Rle.rfl
    · exact Rle.rfl
  | .and a b, r, M => (evE_le a r M).bind fun x M => by
    split
    · exact evE_le b r M
    · exact Rle.rfl
    · exact Rle.rfl
  | .or a b, r, M => (evE_le a r M).bind fun x M => by
    split
    · exact Rle.rfl
    · exact evE_le b r M
    · exact Rle.rfl
  | .ife c a b, r, M => (evT_le c r M).bind fun k M => by
    cases k with
    | true => exact evE_le a r M
    | false => exact evE_le b r M
  | .tup es, r, M => (evEs_le es r M).bind fun xs M => Rle.rfl
  | .lst m es, r, M => (evEs_le es r M).bind fun xs M => Rle.rfl
  | .ix a i, r, M => (evE_le a r M).bind fun x M => (evE_le i r M).bind fun y M => Rle.rfl
  | .sl m a lo hi, r, M => (evE_le a r M).bind fun x M => (evO_le lo r M).bind fun l M => (evO_le hi r M).bind fun h M => Rle.rfl
  | .rev m a, r, M => (evE_le a r M).bind fun x M => Rle.rfl
  | .call f es, r, M => (evEs_le es r M).bind fun xs M => hC f xs M
  | .make m c es, r, M => (evEs_le es r M).bind fun xs M => (hC _ _ _).mkI
  | .cm f o es, r, M => (evE_le o r M).bind fun x M => Rle.opt fun c => (evEs_le es r M).bind fun xs M => hC _ _ _
  | .blt f es, r, M => (evEs_le es r M).bind fun xs M => Rle.rfl
  | .meth f o es, r, M => (evE_le o r M).bind fun x M => by
    split
    · exact (evEs_le es r M).bind fun xs M => Rle.rfl
    · exact Rle.rfl
  | .fld o f, r, M => (evE_le o r M).bind fun x M => Rle.rfl
  | .lc m own g it c e, r, M => (evI_le it r M).bind fun js M => by
    cases js with
    | vals xs =>
      dsimp only
      split
      · exact (lcGo_le (fun r M => evC_le c r M) (fun r M => evE_le e r M) xs [] M).noExc.bind fun ys M => Rle.rfl
      · exact Rle.rfl
    | at_ i n en =>
      dsimp only
      split
      · exact (lcAt_le (fun r M => evC_le c r M) (fun r M => evE_le e r M) i en n 0 [] M).noExc.bind fun ys M => Rle.rfl
      · exact Rle.rfl
  | .dct kvs, r, M => (evEs_le kvs r _).bind fun xs M1 => Rle.rfl
  | .isi a t, r, M => (evE_le a r M).bind fun x M => Rle.rfl
  | .isc a c, r, M => (evE_le a r M).bind fun x M => Rle.rfl
  | .eqo a b, r, M => (evE_le a r M).bind fun x M => (evE_le b r M).bind fun y M => by
    unfold eqoD
    split
    · split
      · exact (hC _ _ _).noExc.bind fun d M => Rle.rfl
      · exact Rle.rfl
    · exact Rle.rfl
  | .lrg m a b, r, M => (evE_le a r M).bind fun x M => (evE_le b r M).bind fun y M => Rle.rfl
theorem evEs_le : ∀ (a : SEs) (r : Rho) (M : Mem), Rle (evEs ⟨G, C⟩ a r M) (evEs ⟨G, C'⟩ a r M)
  | .nil, _, M => Rle.rfl
  | .cons e es, r, M => (evE_le e r M).bind fun x M => (evEs_le es r M).bind fun xs M => Rle.rfl
  | .star e es, r, M => (evE_le e r M).bind fun x M => by
    split
    · exact (evEs_le es r M).bind fun xs M => Rle.rfl
    · exact Rle.rfl
theorem evO_le : ∀ (a : SO) (r : Rho) (M : Mem), Rle (evO ⟨G, C⟩ a r M) (evO ⟨G, C'⟩ a r M)
  | .none, _, M => Rle.rfl
  | .some e, r, M => (evE_le e r M).bind fun x M => Rle.rfl
theorem evT_le : ∀ (a : ST) (r : Rho) (M : Mem), Rle (evT ⟨G, C⟩ a r M) (evT ⟨G, C'⟩ a r M)
  | .val e, r, M => (evE_le e r M).bind fun x M => Rle.rfl
  | .tru e, r, M => (evE_le e r M).bind fun x M => Rle.rfl
  | .and a b, r, M => (evT_le a r M).bind fun k M => by
    cases k with
    | true => exact evT_le b r M
    | false => exact Rle.rfl
  | .or a b, r, M => (evT_le a r M).bind fun k M => by
    cases k with
    | true => exact Rle.rfl
    | false => exact evT_le b r M
  | .not a, r, M => (evT_le a r M).bind fun k M => Rle.rfl
theorem evC_le : ∀ (a : SC) (r : Rho) (M : Mem), Rle (evC ⟨G, C⟩ a r M) (evC ⟨G, C'⟩ a r M)
  | .yes, _, M => Rle.rfl
  | .one t, r, M => evT_le t r M
theorem evI_le : ∀ (a : SI) (r : Rho) (M : Mem), Rle (evI ⟨G, C⟩ a r M) (evI ⟨G, C'⟩ a r M)
  | .seq e, r, M => (evE_le e r M).bind fun x M => Rle.rfl
  | .rng1 a, r, M => (evE_le a r M).bind fun x M => Rle.rfl
  | .rng2 a b, r, M => (evE_le a r M).bind fun x M => (evE_le b r M).bind fun y M => Rle.rfl
  | .enum e, r, M => (evE_le e r M).bind fun x M => Rle.rfl
  | .rng3 a b c, r, M => Rle.rfl
  | .zip a b, r, M => Rle.rfl
  | .chars e, r, M => Rle.rfl
end
mutual
theorem evS_le : ∀ (a : SS) (r : Rho) (M : Mem), Sle (evS ⟨G, C⟩ a r M) (evS ⟨G, C'⟩ a r M)
  | .set i e, r, M => (evE_le hC e r M).go fun x M => Sle.rfl
  | .par is es, r, M => (evEs_le hC es r M).go fun x M => Sle.rfl
  | .unp is e, r, M => (evE_le hC e r M).go fun x M => Sle.rfl
  | .sub o i e, r, M => (evE_le hC e r M).go fun v M => (evE_le hC o r M).go fun x M => (evE_le hC i r M).go fun y M => Sle.rfl
  | .fset o f e, r, M => (evE_le hC e r M).go fun v M => (evE_le hC o r M).go fun x M => Sle.rfl
  | .sub2 o i p j e, r, M => (evE_le hC e r M).go fun v M => Sle.optS fun ab => (evE_le hC o r M).go fun x M => (evE_le hC i r M).go fun y M => Sle.optS fun M => (evE_le hC p r M).go fun x M => (evE_le hC j r M).go fun y M => Sle.rfl
  | .aug i o e, r, M => Sle.optS fun x => (evE_le hC e r M).go fun y M => Sle.rfl
  | .ex e, r, M => (evE_le hC e r M).go fun _ M => Sle.rfl
  | .ret e, r, M => (evE_le hC e r M).go fun x M => Sle.rfl
  | .ret0, _, M => Sle.rfl
  | .ife c a b, r, M => (evT_le hC c r M).go fun k M => by
    cases k with
    | true => exact evSs_le a r M
    | false => exact evSs_le b r M
  | .for_ g it b, r, M => (evI_le hC it r M).go fun js M => by
    cases js with
    | vals xs => exact forGo_le (fun d r M => Sle.optS fun r => evSs_le b r M) xs r M
    | at_ i n en => exact forAt_le (fun d r M => Sle.optS fun r => evSs_le b r M) i en n 0 r M
  | .whl c b, r, M => whlGo_le (fun r M => evT_le hC c r M) (fun r M => evSs_le b r M) whlMax r M
  | .brk, r, M => Sle.rfl
  | .cnt, r, M => Sle.rfl
  | .pas, r, M => Sle.rfl
  | .rai c es, r, M => (evEs_le hC es r M).go fun xs M => Sle.rfl
  | .try_ b hs, r, M => by
    show Sle (match evSs ⟨G, C⟩ b r M with
      | .exc c ns ds r M => evH ⟨G, C⟩ hs c ns ds r M
      | y => y) (match evSs ⟨G, C'⟩ b r M with
      | .exc c ns ds r M => evH ⟨G, C'⟩ hs c ns ds r M
      | y => y)
    have hh : ∀ (hs : List (Str × Option Nat × HB)) c ns ds r M, evH ⟨G, C⟩ hs c ns ds r M = evH ⟨G, C'⟩ hs c ns ds r M := by
      have h1 : ∀ own c ns ds p, hpD ⟨G, C⟩ own c ns ds p = hpD ⟨G, C'⟩ own c ns ds p := fun own c ns ds p => by cases p <;> rfl
      have h2 : ∀ own c ns ds ps, hpsD ⟨G, C⟩ own c ns ds ps = hpsD ⟨G, C'⟩ own c ns ds ps := fun own c ns ds ps => by
        induction ps with
        | nil => rfl
        | cons p ps ih =>
          unfold hpsD
          rw [h1, ih]
      intro hs
      induction hs with
      | nil => intros; rfl
      | cons h hs ih =>
        obtain ⟨c', n, b⟩ := h
        intro c ns ds r M
        unfold evH
        rw [show Env.csub ⟨G, C'⟩ c c' = Env.csub ⟨G, C⟩ c c' from rfl]
        split
        · cases b with
          | ret p => dsimp only; rw [h1]
          | rtup ps => dsimp only; rw [h2]
        · exact ih c ns ds r M
        · rfl
    rcases evSs_le b r M with e | e
    · rw [e]
      exact .inl rfl
    · rw [e]
      split
      · rw [hh]
        exact Sle.rfl
      · exact Sle.rfl
theorem evSs_le : ∀ (a : SSs) (r : Rho) (M : Mem), Sle (evSs ⟨G, C⟩ a r M) (evSs ⟨G, C'⟩ a r M)
  | .nil, r, M => Sle.rfl
  | .cons s ss, r, M => (evS_le s r M).go fun r M => evSs_le ss r M
  | .gc dead b, r, M => (evSs_le b r M).gcR
end
end
theorem callF_le {G : Glob} {C C' : Calls} (hC : ∀ f ds M, Rle (C.f f ds M) (C'.f f ds M)) (fd : FnD) (ds : List D) (M : Mem) : Rle (callF ⟨G, C⟩ fd ds M) (callF ⟨G, C'⟩ fd ds M) := by
  unfold callF
  split
  · exact (evSs_le hC fd.body _ M).finE
  · exact Rle.rfl
theorem calls_le (G : Glob) (tab : List (Str × FnD)) : ∀ k f ds M, Rle ((callsN G tab k).f f ds M) ((callsN G tab (k + 1)).f f ds M)
  | 0, f, ds, M => .inl rfl
  | k + 1, f, ds, M => by
    show Rle (match tab.lookup f with
      | some fd => callF ⟨G, callsN G tab k⟩ fd ds M
      | none => .bad) (match tab.lookup f with
      | some fd => callF ⟨G, callsN G tab (k + 1)⟩ fd ds M
      | none => .bad)
    cases tab.lookup f with
    | none => exact Rle.rfl
    | some fd => exact callF_le (calls_le G tab k) fd ds M
theorem calls_mono (G : Glob) (tab : List (Str × FnD)) {k k' : Nat} (h : k ≤ k') {f : Str} {ds : List D} {M : Mem} {x : Rs D} (hx : (callsN G tab k).f f ds M = x) (hb : x ≠ .bad) : (callsN G tab k').f f ds M = x := by
  obtain ⟨n, rfl⟩ : ∃ n, k' = k + n := ⟨k' - k, by omega⟩
  clear h
  induction n with
  | zero => exact hx
  | succ n ih =>
    rcases calls_le G tab (k + n) f ds M with e | e
    · rw [ih] at e
      exact absurd e hb
    · rw [show k + (n + 1) = k + n + 1 from rfl, ← e, ih]
theorem calls_le2 (G : Glob) (tab : List (Str × FnD)) {k k' : Nat} (h : k ≤ k') (f : Str) (ds : List D) (M : Mem) : Rle ((callsN G tab k).f f ds M) ((callsN G tab k').f f ds M) := by
  cases hx : (callsN G tab k).f f ds M with
  | bad => exact .inl rfl
  | ok d M1 => exact .inr (calls_mono G tab h hx (by intro z; cases z)).symm
  | exc c ns ds M1 => exact .inr (calls_mono G tab h hx (by intro z; cases z)).symm
theorem evE_up {G : Glob} {tab : List (Str × FnD)} {k k' : Nat} (h : k ≤ k') {e : SE} {r : Rho} {M : Mem} {x : Rs D} (hx : evE ⟨G, callsN G tab k⟩ e r M = x) (hb : x ≠ .bad) : evE ⟨G, callsN G tab k'⟩ e r M = x := by
  rcases evE_le (G := G) (C := callsN G tab k) (C' := callsN G tab k') (calls_le2 G tab h) e r M with q | q
  · rw [hx] at q
    exact absurd q hb
  · rw [← q, hx]
end MX

namespace EV
open PySem PySem.Spec PyProof.Rows L2
def topS (i : Nat) : Stmt := PySem.Challenge.pw_everyorder_k08_texts_that_are_no_words.main.body.getD i (.Pass ⟨0, 0, 0, 0⟩)
def glob : MP.Glob := ⟨[("MOST_SIZE", .int 1000), ("NONZERO", .tup [(.str "1"), (.str "2"), (.str "3"), (.str "4"), (.str "5"), (.str "6"), (.str "7"), (.str "8"), (.str "9")]), ("MOST_MOVES", .int 4), ("HALF", .str "half")], [("BadWord", "index"), ("BadSize", "size"), ("BadRow", "index")], "EveryError", ["is_integer", "need_row", "joined", "number_of", "place_parts", "value_at", "word_at", "read_place", "read_move", "read_moves", "exchange_at", "roll_at", "move_at", "parts_of", "_law_pen", "_law_draw", "_law_pick", "_law_place_word", "_law_amount", "_law_move", "_law_moves", "_law_word_text", "_law_numbers", "_law_places", "_law_move_end", "_law_moves_end", "_law_word_wrong", "_law_spoiled", "_law_read", "_law_size", "law"], ["bool", "enumerate", "int", "isinstance", "len", "list", "range", "str", "tuple"], [("Word", ["text", "moves", "has_turn", "parts"], ["__init__", "__eq__", "at"])]⟩
def b_Word___init__ : MP.SSs := (.cons (.set 2 (.meth (.split false) (.var 1) (.cons (.str " ") .nil)))
  (.cons (.unp [3, 4] (.call "read_moves" (.cons (.var 2) (.cons (.int 0) .nil))))
  (.cons (.ife (.val (.cmp .lt (.var 4) (.blt .len (.cons (.var 2) .nil))))
  (.cons (.rai "BadWord" (.cons (.var 4) .nil))
  .nil)
  .nil)
  (.cons (.fset (.var 0) "text" (.var 1))
  (.cons (.fset (.var 0) "moves" (.var 3))
  (.cons (.fset (.var 0) "has_turn" (.cmp .in_ (.tup (.cons (.str "turn") .nil)) (.var 3)))
  (.cons (.fset (.var 0) "parts" (.blt .tuple (.cons (.lc false [5] (.nm 5) (.seq (.var 3)) .yes (.call "parts_of" (.cons (.var 5) .nil))) .nil)))
  .nil)))))))
def d_Word___init__ : MP.FnD := ⟨["self", "text"], ["self", "text", "words", "moves", "at", "move"], b_Word___init__, false⟩
abbrev s_Word___init__ : Stmt := inClass (topS 26) 0
theorem k_Word___init__ : MP.MetS glob "Word" "__init__" d_Word___init__ s_Word___init__ := ⟨⟨rfl, rfl, rfl, by decide +kernel, rfl, by decide +kernel, by decide +kernel⟩, (fun _ _ _ _ _ _ us hl => match us, hl with | [_, _], _ => rfl), by decide +kernel⟩
def b_Word___eq__ : MP.SSs := (.cons (.ret (.and (.isc (.var 1) "Word") (.cmp .eq (.fld (.var 0) "text") (.fld (.var 1) "text"))))
  .nil)
def d_Word___eq__ : MP.FnD := ⟨["self", "other"], ["self", "other"], b_Word___eq__, false⟩
abbrev s_Word___eq__ : Stmt := inClass (topS 26) 1
theorem k_Word___eq__ : MP.MetS glob "Word" "__eq__" d_Word___eq__ s_Word___eq__ := ⟨⟨rfl, rfl, rfl, by decide +kernel, rfl, by decide +kernel, by decide +kernel⟩, (fun _ _ _ _ _ _ us hl => match us, hl with | [_, _], _ => rfl), by decide +kernel⟩
def b_Word_at : MP.SSs := (.cons (.ife (.or (.not (.tru (.call "is_integer" (.cons (.var 1) .nil)))) (.not (.val (.cmp2 .le .le (.int 1) (.var 1) (.cst "MOST_SIZE")))))
  (.cons (.rai "BadSize" (.cons (.var 1) .nil))
  .nil)
  .nil)
  (.cons (.set 2 (.lrg false (.int 0) (.var 1)))
  (.cons (.for_ (.nm 3) (.seq (.fld (.var 0) "moves"))
  (.cons (.set 2 (.call "joined" (.cons (.var 2) (.cons (.call "move_at" (.cons (.var 3) (.cons (.var 1) .nil))) .nil))))
  .nil))
  (.cons (.ret (.var 2))
  .nil))))
def d_Word_at : MP.FnD := ⟨["self", "size"], ["self", "size", "found", "move"], b_Word_at, false⟩
abbrev s_Word_at : Stmt := inClass (topS 26) 2
theorem k_Word_at : MP.MetS glob "Word" "at" d_Word_at s_Word_at := ⟨⟨rfl, rfl, rfl, by decide +kernel, rfl, by decide +kernel, by decide +kernel⟩, (fun _ _ _ _ _ _ us hl => match us, hl with | [_, _], _ => rfl), by decide +kernel⟩
def b_is_integer : MP.SSs := (.cons (.ret (.and (.isi (.var 0) "int") (.not (.isi (.var 0) "bool"))))
  .nil)
def d_is_integer : MP.FnD := ⟨["value"], ["value"], b_is_integer, false⟩
abbrev s_is_integer : Stmt := topS 6
theorem k_is_integer : MP.DefS glob "is_integer" d_is_integer s_is_integer := ⟨⟨rfl, rfl, rfl, by decide +kernel, rfl, by decide +kernel, by decide +kernel⟩, (fun _ _ _ _ _ _ us hl => match us, hl with | [_], _ => rfl), by decide +kernel⟩
def b_need_row : MP.SSs := (.cons (.set 1 (.dct .nil))
  (.cons (.for_ (.tp [2, 3]) (.enum (.var 0))
  (.cons (.ife (.or (.not (.tru (.call "is_integer" (.cons (.var 3) .nil)))) (.or (.not (.val (.cmp2 .le .lt (.int 0) (.var 3) (.blt .len (.cons (.var 0) .nil))))) (.val (.cmp .in_ (.var 3) (.var 1)))))
  (.cons (.rai "BadRow" (.cons (.var 2) .nil))
  .nil)
  .nil)
  (.cons (.sub (.var 1) (.var 3) (.bl true))
  .nil)))
  .nil))
def d_need_row : MP.FnD := ⟨["row"], ["row", "seen", "index", "part"], b_need_row, false⟩
abbrev s_need_row : Stmt := topS 9
theorem k_need_row : MP.DefS glob "need_row" d_need_row s_need_row := ⟨⟨rfl, rfl, rfl, by decide +kernel, rfl, by decide +kernel, by decide +kernel⟩, (fun _ _ _ _ _ _ us hl => match us, hl with | [_], _ => rfl), by decide +kernel⟩
def b_joined : MP.SSs := (.cons (.ex (.call "need_row" (.cons (.var 0) .nil)))
  (.cons (.ex (.call "need_row" (.cons (.var 1) .nil)))
  (.cons (.ife (.val (.cmp .ne (.blt .len (.cons (.var 0) .nil)) (.blt .len (.cons (.var 1) .nil))))
  (.cons (.rai "BadSize" (.cons (.blt .len (.cons (.var 1) .nil)) .nil))
  .nil)
  .nil)
  (.cons (.ret (.lc false [2] (.nm 2) (.seq (.var 1)) .yes (.ix (.var 0) (.var 2))))
  .nil))))
def d_joined : MP.FnD := ⟨["first", "second"], ["first", "second", "part"], b_joined, false⟩
abbrev s_joined : Stmt := topS 10
theorem k_joined : MP.DefS glob "joined" d_joined s_joined := ⟨⟨rfl, rfl, rfl, by decide +kernel, rfl, by decide +kernel, by decide +kernel⟩, (fun _ _ _ _ _ _ us hl => match us, hl with | [_, _], _ => rfl), by decide +kernel⟩
def b_number_of : MP.SSs := (.cons (.set 1 (.ife (.tru (.meth .startswith (.var 0) (.cons (.str "-") .nil))) (.sl false (.var 0) (.some (.int 1)) .none) (.var 0)))
  (.cons (.ret (.ife (.val (.cmp .in_ (.var 1) (.cst "NONZERO"))) (.blt .int (.cons (.var 0) .nil)) .non))
  .nil))
def d_number_of : MP.FnD := ⟨["word"], ["word", "digits"], b_number_of, false⟩
abbrev s_number_of : Stmt := topS 15
theorem k_number_of : MP.DefS glob "number_of" d_number_of s_number_of := ⟨⟨rfl, rfl, rfl, by decide +kernel, rfl, by decide +kernel, by decide +kernel⟩, (fun _ _ _ _ _ _ us hl => match us, hl with | [_], _ => rfl), by decide +kernel⟩
def b_place_parts : MP.SSs := (.cons (.ife (.or (.val (.cmp .eq (.var 0) (.str "0"))) (.val (.cmp .in_ (.var 0) (.cst "NONZERO"))))
  (.cons (.ret (.tup (.cons (.str "front") (.cons (.blt .int (.cons (.var 0) .nil)) .nil))))
  .nil)
  .nil)
  (.cons (.ife (.val (.cmp .eq (.var 0) (.cst "HALF")))
  (.cons (.ret (.tup (.cons (.cst "HALF") (.cons (.int 0) .nil))))
  .nil)
  .nil)
  (.cons (.ife (.and (.tru (.meth .startswith (.var 0) (.cons (.str "half+") .nil))) (.val (.cmp .in_ (.sl false (.var 0) (.some (.int 5)) .none) (.cst "NONZERO"))))
  (.cons (.ret (.tup (.cons (.cst "HALF") (.cons (.blt .int (.cons (.sl false (.var 0) (.some (.int 5)) .none) .nil)) .nil))))
  .nil)
  .nil)
  (.cons (.ife (.and (.tru (.meth .startswith (.var 0) (.cons (.str "half-") .nil))) (.val (.cmp .in_ (.sl false (.var 0) (.some (.int 5)) .none) (.cst "NONZERO"))))
  (.cons (.ret (.tup (.cons (.cst "HALF") (.cons (.neg (.blt .int (.cons (.sl false (.var 0) (.some (.int 5)) .none) .nil))) .nil))))
  .nil)
  .nil)
  (.cons (.ife (.and (.tru (.meth .startswith (.var 0) (.cons (.str "-") .nil))) (.val (.cmp .in_ (.sl false (.var 0) (.some (.int 1)) .none) (.cst "NONZERO"))))
  (.cons (.ret (.tup (.cons (.str "end") (.cons (.blt .int (.cons (.sl false (.var 0) (.some (.int 1)) .none) .nil)) .nil))))
  .nil)
  .nil)
  (.cons (.ret .non)
  .nil))))))
def d_place_parts : MP.FnD := ⟨["word"], ["word"], b_place_parts, false⟩
abbrev s_place_parts : Stmt := topS 16
theorem k_place_parts : MP.DefS glob "place_parts" d_place_parts s_place_parts := ⟨⟨rfl, rfl, rfl, by decide +kernel, rfl, by decide +kernel, by decide +kernel⟩, (fun _ _ _ _ _ _ us hl => match us, hl with | [_], _ => rfl), by decide +kernel⟩
def b_value_at : MP.SSs := (.cons (.unp [2, 3] (.call "place_parts" (.cons (.var 0) .nil)))
  (.cons (.ife (.val (.cmp .eq (.var 2) (.str "front")))
  (.cons (.ret (.var 3))
  .nil)
  .nil)
  (.cons (.ret (.ife (.val (.cmp .eq (.var 2) (.str "end"))) (.bin false .sub (.var 1) (.var 3)) (.bin false .add (.bin false .fdiv (.var 1) (.int 2)) (.var 3))))
  .nil)))
def d_value_at : MP.FnD := ⟨["word", "size"], ["word", "size", "start", "far"], b_value_at, false⟩
abbrev s_value_at : Stmt := topS 17
theorem k_value_at : MP.DefS glob "value_at" d_value_at s_value_at := ⟨⟨rfl, rfl, rfl, by decide +kernel, rfl, by decide +kernel, by decide +kernel⟩, (fun _ _ _ _ _ _ us hl => match us, hl with | [_, _], _ => rfl), by decide +kernel⟩
def b_word_at : MP.SSs := (.cons (.ife (.val (.cmp .ge (.var 1) (.blt .len (.cons (.var 0) .nil))))
  (.cons (.rai "BadWord" (.cons (.blt .len (.cons (.var 0) .nil)) .nil))
  .nil)
  .nil)
  (.cons (.ret (.ix (.var 0) (.var 1)))
  .nil))
def d_word_at : MP.FnD := ⟨["words", "at"], ["words", "at"], b_word_at, false⟩
abbrev s_word_at : Stmt := topS 18
theorem k_word_at : MP.DefS glob "word_at" d_word_at s_word_at := ⟨⟨rfl, rfl, rfl, by decide +kernel, rfl, by decide +kernel, by decide +kernel⟩, (fun _ _ _ _ _ _ us hl => match us, hl with | [_, _], _ => rfl), by decide +kernel⟩
def b_read_place : MP.SSs := (.cons (.set 2 (.call "word_at" (.cons (.var 0) (.cons (.var 1) .nil))))
  (.cons (.ife (.val (.cmp .is_ (.call "place_parts" (.cons (.var 2) .nil)) .non))
  (.cons (.rai "BadWord" (.cons (.var 1) .nil))
  .nil)
  .nil)
  (.cons (.ret (.var 2))
  .nil)))
def d_read_place : MP.FnD := ⟨["words", "at"], ["words", "at", "word"], b_read_place, false⟩
abbrev s_read_place : Stmt := topS 19
theorem k_read_place : MP.DefS glob "read_place" d_read_place s_read_place := ⟨⟨rfl, rfl, rfl, by decide +kernel, rfl, by decide +kernel, by decide +kernel⟩, (fun _ _ _ _ _ _ us hl => match us, hl with | [_, _], _ => rfl), by decide +kernel⟩
def b_read_move : MP.SSs := (.cons (.set 3 (.call "word_at" (.cons (.var 0) (.cons (.var 1) .nil))))
  (.cons (.ife (.and (.val (.cmp .eq (.var 3) (.str "turn"))) (.val (.cmp .notin (.tup (.cons (.str "turn") .nil)) (.var 2))))
  (.cons (.ret (.tup (.cons (.var 3) .nil)))
  .nil)
  .nil)
  (.cons (.ife (.val (.cmp .notin (.var 3) (.tup (.cons (.str "exchange") (.cons (.str "roll") .nil)))))
  (.cons (.rai "BadWord" (.cons (.var 1) .nil))
  .nil)
  .nil)
  (.cons (.set 4 (.call "read_place" (.cons (.var 0) (.cons (.bin false .add (.var 1) (.int 1)) .nil))))
  (.cons (.set 5 (.call "read_place" (.cons (.var 0) (.cons (.bin false .add (.var 1) (.int 2)) .nil))))
  (.cons (.ife (.val (.cmp .eq (.var 3) (.str "exchange")))
  (.cons (.ret (.tup (.cons (.var 3) (.cons (.var 4) (.cons (.var 5) .nil)))))
  .nil)
  .nil)
  (.cons (.set 6 (.call "word_at" (.cons (.var 0) (.cons (.bin false .add (.var 1) (.int 3)) .nil))))
  (.cons (.ife (.and (.val (.cmp .ne (.var 6) (.cst "HALF"))) (.val (.cmp .is_ (.call "number_of" (.cons (.var 6) .nil)) .non)))
  (.cons (.rai "BadWord" (.cons (.bin false .add (.var 1) (.int 3)) .nil))
  .nil)
  .nil)
  (.cons (.ret (.tup (.cons (.var 3) (.cons (.var 4) (.cons (.var 5) (.cons (.var 6) .nil))))))
  .nil)))))))))
def d_read_move : MP.FnD := ⟨["words", "at", "moves"], ["words", "at", "moves", "kind", "x", "y", "amount"], b_read_move, false⟩
abbrev s_read_move : Stmt := topS 20
theorem k_read_move : MP.DefS glob "read_move" d_read_move s_read_move := ⟨⟨rfl, rfl, rfl, by decide +kernel, rfl, by decide +kernel, by decide +kernel⟩, (fun _ _ _ _ _ _ us hl => match us, hl with | [_, _, _], _ => rfl), by decide +kernel⟩
def b_read_moves : MP.SSs := (.cons (.set 2 (.lst true .nil))
  (.cons (.whl (.tru (.bl true))
  (.cons (.set 3 (.call "read_move" (.cons (.var 0) (.cons (.var 1) (.cons (.var 2) .nil)))))
  (.cons (.ex (.meth .append (.var 2) (.cons (.var 3) .nil)))
  (.cons (.aug 1 .add (.blt .len (.cons (.var 3) .nil)))
  (.cons (.ife (.or (.val (.cmp .eq (.blt .len (.cons (.var 2) .nil)) (.cst "MOST_MOVES"))) (.or (.val (.cmp .eq (.var 1) (.blt .len (.cons (.var 0) .nil)))) (.val (.cmp .ne (.ix (.var 0) (.var 1)) (.str "then")))))
  (.cons (.ret (.tup (.cons (.blt .tuple (.cons (.var 2) .nil)) (.cons (.var 1) .nil))))
  .nil)
  .nil)
  (.cons (.aug 1 .add (.int 1))
  .nil))))))
  .nil))
def d_read_moves : MP.FnD := ⟨["words", "at"], ["words", "at", "moves", "move"], b_read_moves, false⟩
abbrev s_read_moves : Stmt := topS 21
theorem k_read_moves : MP.DefS glob "read_moves" d_read_moves s_read_moves := ⟨⟨rfl, rfl, rfl, by decide +kernel, rfl, by decide +kernel, by decide +kernel⟩, (fun _ _ _ _ _ _ us hl => match us, hl with | [_, _], _ => rfl), by decide +kernel⟩
def b_exchange_at : MP.SSs := (.cons (.set 3 (.lrg true (.int 0) (.var 2)))
  (.cons (.sub2 (.var 3) (.var 0) (.var 3) (.var 1) (.tup (.cons (.var 1) (.cons (.var 0) .nil))))
  (.cons (.ret (.var 3))
  .nil)))
def d_exchange_at : MP.FnD := ⟨["x", "y", "size"], ["x", "y", "size", "found"], b_exchange_at, false⟩
abbrev s_exchange_at : Stmt := topS 22
theorem k_exchange_at : MP.DefS glob "exchange_at" d_exchange_at s_exchange_at := ⟨⟨rfl, rfl, rfl, by decide +kernel, rfl, by decide +kernel, by decide +kernel⟩, (fun _ _ _ _ _ _ us hl => match us, hl with | [_, _, _], _ => rfl), by decide +kernel⟩
def b_roll_at : MP.SSs := (.cons (.par [4, 5] (.cons (.lrg true (.int 0) (.var 3)) (.cons (.bin false .add (.bin false .sub (.var 1) (.var 0)) (.int 1)) .nil)))
  (.cons (.set 6 (.ife (.val (.cmp .eq (.var 2) (.cst "HALF"))) (.bin false .fdiv (.var 5) (.int 2)) (.blt .int (.cons (.var 2) .nil))))
  (.cons (.for_ (.nm 7) (.rng1 (.var 5))
  (.cons (.sub (.var 4) (.bin false .add (.var 0) (.bin false .mod (.bin false .add (.var 7) (.var 6)) (.var 5))) (.bin false .add (.var 0) (.var 7)))
  .nil))
  (.cons (.ret (.var 4))
  .nil))))
def d_roll_at : MP.FnD := ⟨["x", "y", "amount", "size"], ["x", "y", "amount", "size", "found", "many", "by", "at"], b_roll_at, false⟩
abbrev s_roll_at : Stmt := topS 23
theorem k_roll_at : MP.DefS glob "roll_at" d_roll_at s_roll_at := ⟨⟨rfl, rfl, rfl, by decide +kernel, rfl, by decide +kernel, by decide +kernel⟩, (fun _ _ _ _ _ _ us hl => match us, hl with | [_, _, _, _], _ => rfl), by decide +kernel⟩
def b_move_at : MP.SSs := (.cons (.ife (.val (.cmp .eq (.ix (.var 0) (.int 0)) (.str "turn")))
  (.cons (.ret (.rev false (.lrg false (.int 0) (.var 1))))
  .nil)
  .nil)
  (.cons (.par [2, 3] (.cons (.call "value_at" (.cons (.ix (.var 0) (.int 1)) (.cons (.var 1) .nil))) (.cons (.call "value_at" (.cons (.ix (.var 0) (.int 2)) (.cons (.var 1) .nil))) .nil)))
  (.cons (.ife (.or (.not (.val (.cmp2 .le .lt (.int 0) (.var 2) (.var 1)))) (.not (.val (.cmp2 .le .lt (.int 0) (.var 3) (.var 1)))))
  (.cons (.ret (.lrg false (.int 0) (.var 1)))
  .nil)
  .nil)
  (.cons (.ife (.val (.cmp .eq (.ix (.var 0) (.int 0)) (.str "exchange")))
  (.cons (.ret (.call "exchange_at" (.cons (.var 2) (.cons (.var 3) (.cons (.var 1) .nil)))))
  .nil)
  .nil)
  (.cons (.ret (.ife (.val (.cmp .lt (.var 2) (.var 3))) (.call "roll_at" (.cons (.var 2) (.cons (.var 3) (.cons (.ix (.var 0) (.int 3)) (.cons (.var 1) .nil))))) (.lrg false (.int 0) (.var 1))))
  .nil)))))
def d_move_at : MP.FnD := ⟨["move", "size"], ["move", "size", "x", "y"], b_move_at, false⟩
abbrev s_move_at : Stmt := topS 24
theorem k_move_at : MP.DefS glob "move_at" d_move_at s_move_at := ⟨⟨rfl, rfl, rfl, by decide +kernel, rfl, by decide +kernel, by decide +kernel⟩, (fun _ _ _ _ _ _ us hl => match us, hl with | [_, _], _ => rfl), by decide +kernel⟩
def b_parts_of : MP.SSs := (.cons (.set 1 (.lc false [3] (.nm 3) (.seq (.sl false (.var 0) (.some (.int 1)) (.some (.int 3)))) .yes (.call "place_parts" (.cons (.var 3) .nil))))
  (.cons (.set 2 (.lc false [3] (.nm 3) (.seq (.sl false (.var 0) (.some (.int 3)) .none)) .yes (.call "number_of" (.cons (.var 3) .nil))))
  (.cons (.ret (.tup (.cons (.ix (.var 0) (.int 0)) (.star (.var 1) (.star (.var 2) .nil)))))
  .nil)))
def d_parts_of : MP.FnD := ⟨["move"], ["move", "places", "amounts", "word"], b_parts_of, false⟩
abbrev s_parts_of : Stmt := topS 25
theorem k_parts_of : MP.DefS glob "parts_of" d_parts_of s_parts_of := ⟨⟨rfl, rfl, rfl, by decide +kernel, rfl, by decide +kernel, by decide +kernel⟩, (fun _ _ _ _ _ _ us hl => match us, hl with | [_], _ => rfl), by decide +kernel⟩
def b__law_pen : MP.SSs := (.cons (.ret (.dct (.cons (.str "cells") (.cons (.blt (.list false) (.cons (.sl false (.var 0) .none (.some (.int 63))) .nil)) (.cons (.str "at") (.cons (.int 0) (.cons (.str "left") (.cons (.int 0) .nil))))))))
  .nil)
def d__law_pen : MP.FnD := ⟨["script"], ["script"], b__law_pen, true⟩
abbrev s__law_pen : Stmt := topS 28
theorem k__law_pen : MP.DefS glob "_law_pen" d__law_pen s__law_pen := ⟨⟨rfl, rfl, rfl, by decide +kernel, rfl, by decide +kernel, by decide +kernel⟩, (fun _ _ _ _ _ _ us hl => match us, hl with | [_], _ => rfl), by decide +kernel⟩
def b__law_draw : MP.SSs := (.cons (.ife (.val (.cmp .ge (.ix (.var 0) (.str "left")) (.var 1)))
  (.cons (.set 2 (.bin false .mod (.blt .int (.cons (.ix (.var 0) (.str "left")) .nil)) (.var 1)))
  (.cons (.sub (.var 0) (.str "left") (.bin false .fdiv (.ix (.var 0) (.str "left")) (.var 1)))
  (.cons (.ret (.var 2))
  .nil)))
  .nil)
  (.cons (.set 3 (.ix (.var 0) (.str "at")))
  (.cons (.sub (.var 0) (.str "at") (.bin false .add (.var 3) (.int 1)))
  (.cons (.set 4 (.bin false .add (.bin false .mul (.int 41) (.var 3)) (.int 13)))
  (.cons (.ife (.val (.cmp .ne (.ix (.var 0) (.str "cells")) (.lst false .nil)))
  (.cons (.set 4 (.ix (.ix (.var 0) (.str "cells")) (.bin false .mod (.blt .int (.cons (.var 3) .nil)) (.blt .len (.cons (.ix (.var 0) (.str "cells")) .nil)))))
  .nil)
  .nil)
  (.cons (.ife (.and (.val (.cmp .lt (.var 3) (.blt .len (.cons (.ix (.var 0) (.str "cells")) .nil)))) (.val (.cmp .ge (.var 4) (.bin false .pow (.int 10) (.int 18)))))
  (.cons (.sub (.var 0) (.str "left") (.bin false .fdiv (.bin false .sub (.var 4) (.bin false .pow (.int 10) (.int 18))) (.var 1)))
  (.cons (.ret (.bin false .mod (.blt .int (.cons (.bin false .sub (.var 4) (.bin false .pow (.int 10) (.int 18))) .nil)) (.var 1)))
  .nil))
  .nil)
  (.cons (.set 5 (.bin false .add (.bin false .add (.bin false .add (.bin false .mul (.bin false .mod (.blt .int (.cons (.var 4) .nil)) (.int 2147483629)) (.int 48271)) (.bin false .mul (.bin false .mul (.int 69621) (.var 3)) (.var 3))) (.bin false .mul (.int 59) (.var 3))) (.int 11)))
  (.cons (.set 5 (.bin false .mod (.blt .int (.cons (.var 5) .nil)) (.int 2147483647)))
  (.cons (.set 5 (.bin false .mod (.blt .int (.cons (.bin false .mul (.var 5) (.bin false .add (.var 5) (.int 40014))) .nil)) (.int 2147483587)))
  (.cons (.ret (.bin false .mod (.blt .int (.cons (.bin false .fdiv (.bin false .mod (.blt .int (.cons (.bin false .mul (.var 5) (.var 5)) .nil)) (.int 2147483563)) (.int 64)) .nil)) (.var 1)))
  .nil))))))))))
def d__law_draw : MP.FnD := ⟨["pen", "many"], ["pen", "many", "digit", "at", "cell", "mixed"], b__law_draw, false⟩
abbrev s__law_draw : Stmt := topS 29
theorem k__law_draw : MP.DefS glob "_law_draw" d__law_draw s__law_draw := ⟨⟨rfl, rfl, rfl, by decide +kernel, rfl, by decide +kernel, by decide +kernel⟩, (fun _ _ _ _ _ _ us hl => match us, hl with | [_, _], _ => rfl), by decide +kernel⟩
def b__law_pick : MP.SSs := (.cons (.ret (.ix (.var 1) (.call "_law_draw" (.cons (.var 0) (.cons (.blt .len (.cons (.var 1) .nil)) .nil)))))
  .nil)
def d__law_pick : MP.FnD := ⟨["pen", "some"], ["pen", "some"], b__law_pick, false⟩
abbrev s__law_pick : Stmt := topS 30
theorem k__law_pick : MP.DefS glob "_law_pick" d__law_pick s__law_pick := ⟨⟨rfl, rfl, rfl, by decide +kernel, rfl, by decide +kernel, by decide +kernel⟩, (fun _ _ _ _ _ _ us hl => match us, hl with | [_, _], _ => rfl), by decide +kernel⟩
def b__law_place_word : MP.SSs := (.cons (.set 1 (.call "_law_draw" (.cons (.var 0) (.cons (.int 38) .nil))))
  (.cons (.ife (.val (.cmp .lt (.var 1) (.int 10)))
  (.cons (.ret (.blt .str (.cons (.var 1) .nil)))
  .nil)
  .nil)
  (.cons (.ife (.val (.cmp .lt (.var 1) (.int 19)))
  (.cons (.ret (.bin false .add (.str "-") (.blt .str (.cons (.bin false .sub (.var 1) (.int 9)) .nil))))
  .nil)
  .nil)
  (.cons (.ife (.val (.cmp .eq (.var 1) (.int 19)))
  (.cons (.ret (.str "half"))
  .nil)
  .nil)
  (.cons (.ret (.ife (.val (.cmp .lt (.var 1) (.int 29))) (.bin false .add (.str "half+") (.blt .str (.cons (.bin false .sub (.var 1) (.int 19)) .nil))) (.bin false .add (.str "half-") (.blt .str (.cons (.bin false .sub (.var 1) (.int 28)) .nil)))))
  .nil)))))
def d__law_place_word : MP.FnD := ⟨["pen"], ["pen", "k"], b__law_place_word, false⟩
abbrev s__law_place_word : Stmt := topS 31
theorem k__law_place_word : MP.DefS glob "_law_place_word" d__law_place_word s__law_place_word := ⟨⟨rfl, rfl, rfl, by decide +kernel, rfl, by decide +kernel, by decide +kernel⟩, (fun _ _ _ _ _ _ us hl => match us, hl with | [_], _ => rfl), by decide +kernel⟩
def b__law_amount : MP.SSs := (.cons (.set 1 (.call "_law_draw" (.cons (.var 0) (.cons (.int 20) .nil))))
  (.cons (.ret (.ife (.val (.cmp .gt (.var 1) (.int 17))) (.str "half") (.ife (.val (.cmp .lt (.var 1) (.int 9))) (.blt .str (.cons (.bin false .add (.var 1) (.int 1)) .nil)) (.bin false .add (.str "-") (.blt .str (.cons (.bin false .sub (.var 1) (.int 8)) .nil))))))
  .nil))
def d__law_amount : MP.FnD := ⟨["pen"], ["pen", "k"], b__law_amount, false⟩
abbrev s__law_amount : Stmt := topS 32
theorem k__law_amount : MP.DefS glob "_law_amount" d__law_amount s__law_amount := ⟨⟨rfl, rfl, rfl, by decide +kernel, rfl, by decide +kernel, by decide +kernel⟩, (fun _ _ _ _ _ _ us hl => match us, hl with | [_], _ => rfl), by decide +kernel⟩
def b__law_move : MP.SSs := (.cons (.set 2 (.call "_law_draw" (.cons (.var 0) (.cons (.ife (.tru (.var 1)) (.int 7) (.int 8)) .nil))))
  (.cons (.ife (.val (.cmp .eq (.var 2) (.int 7)))
  (.cons (.ret (.lst false (.cons (.str "turn") .nil)))
  .nil)
  .nil)
  (.cons (.par [3, 4] (.cons (.call "_law_place_word" (.cons (.var 0) .nil)) (.cons (.call "_law_place_word" (.cons (.var 0) .nil)) .nil)))
  (.cons (.ife (.val (.cmp .eq (.call "_law_draw" (.cons (.var 0) (.cons (.int 3) .nil))) (.int 0)))
  (.cons (.par [3, 4] (.cons (.call "_law_pick" (.cons (.var 0) (.cons (.lst false (.cons (.str "0") (.cons (.str "1") (.cons (.str "2") .nil)))) .nil))) (.cons (.call "_law_pick" (.cons (.var 0) (.cons (.lst false (.cons (.str "-1") (.cons (.str "-2") (.cons (.str "half") .nil)))) .nil))) .nil)))
  .nil)
  .nil)
  (.cons (.ret (.ife (.val (.cmp .lt (.var 2) (.int 3))) (.lst false (.cons (.str "exchange") (.cons (.var 3) (.cons (.var 4) .nil)))) (.lst false (.cons (.str "roll") (.cons (.var 3) (.cons (.var 4) (.cons (.call "_law_amount" (.cons (.var 0) .nil)) .nil)))))))
  .nil)))))
def d__law_move : MP.FnD := ⟨["pen", "has_turn"], ["pen", "has_turn", "way", "x", "y"], b__law_move, false⟩
abbrev s__law_move : Stmt := topS 33
theorem k__law_move : MP.DefS glob "_law_move" d__law_move s__law_move := ⟨⟨rfl, rfl, rfl, by decide +kernel, rfl, by decide +kernel, by decide +kernel⟩, (fun _ _ _ _ _ _ us hl => match us, hl with | [_, _], _ => rfl), by decide +kernel⟩
def b__law_moves : MP.SSs := (.cons (.set 1 (.lst true .nil))
  (.cons (.for_ (.nm 2) (.rng1 (.bin false .add (.int 1) (.call "_law_draw" (.cons (.var 0) (.cons (.int 4) .nil)))))
  (.cons (.ex (.meth .append (.var 1) (.cons (.call "_law_move" (.cons (.var 0) (.cons (.cmp .in_ (.lst false (.cons (.str "turn") .nil)) (.var 1)) .nil))) .nil)))
  .nil))
  (.cons (.ret (.var 1))
  .nil)))
def d__law_moves : MP.FnD := ⟨["pen"], ["pen", "found", "k"], b__law_moves, false⟩
abbrev s__law_moves : Stmt := topS 34
theorem k__law_moves : MP.DefS glob "_law_moves" d__law_moves s__law_moves := ⟨⟨rfl, rfl, rfl, by decide +kernel, rfl, by decide +kernel, by decide +kernel⟩, (fun _ _ _ _ _ _ us hl => match us, hl with | [_], _ => rfl), by decide +kernel⟩
def b__law_word_text : MP.SSs := (.cons (.ret (.meth .join (.str " then ") (.cons (.lc false [1] (.nm 1) (.seq (.var 0)) .yes (.meth .join (.str " ") (.cons (.var 1) .nil))) .nil)))
  .nil)
def d__law_word_text : MP.FnD := ⟨["moves"], ["moves", "move"], b__law_word_text, false⟩
abbrev s__law_word_text : Stmt := topS 35
theorem k__law_word_text : MP.DefS glob "_law_word_text" d__law_word_text s__law_word_text := ⟨⟨rfl, rfl, rfl, by decide +kernel, rfl, by decide +kernel, by decide +kernel⟩, (fun _ _ _ _ _ _ us hl => match us, hl with | [_], _ => rfl), by decide +kernel⟩
def b__law_numbers : MP.SSs := (.cons (.ret (.bin false .add (.lc false [0] (.nm 0) (.rng2 (.int 1) (.int 10)) .yes (.blt .str (.cons (.var 0) .nil))) (.lc false [0] (.nm 0) (.rng2 (.int 1) (.int 10)) .yes (.bin false .add (.str "-") (.blt .str (.cons (.var 0) .nil))))))
  .nil)
def d__law_numbers : MP.FnD := ⟨[], ["k"], b__law_numbers, false⟩
abbrev s__law_numbers : Stmt := topS 36
theorem k__law_numbers : MP.DefS glob "_law_numbers" d__law_numbers s__law_numbers := ⟨⟨rfl, rfl, rfl, by decide +kernel, rfl, by decide +kernel, by decide +kernel⟩, (fun _ _ _ _ _ _ us hl => match us, hl with | [], _ => rfl), by decide +kernel⟩
def b__law_places : MP.SSs := (.cons (.set 0 (.bin false .add (.lst false (.cons (.str "0") (.cons (.str "half") .nil))) (.call "_law_numbers" .nil)))
  (.cons (.ret (.bin false .add (.bin false .add (.var 0) (.lc false [1] (.nm 1) (.rng2 (.int 1) (.int 10)) .yes (.bin false .add (.str "half+") (.blt .str (.cons (.var 1) .nil))))) (.lc false [1] (.nm 1) (.rng2 (.int 1) (.int 10)) .yes (.bin false .add (.str "half-") (.blt .str (.cons (.var 1) .nil))))))
  .nil))
def d__law_places : MP.FnD := ⟨[], ["found", "k"], b__law_places, false⟩
abbrev s__law_places : Stmt := topS 37
theorem k__law_places : MP.DefS glob "_law_places" d__law_places s__law_places := ⟨⟨rfl, rfl, rfl, by decide +kernel, rfl, by decide +kernel, by decide +kernel⟩, (fun _ _ _ _ _ _ us hl => match us, hl with | [], _ => rfl), by decide +kernel⟩
def b__law_move_end : MP.SSs := (.cons (.ife (.val (.cmp .ge (.var 1) (.blt .len (.cons (.var 0) .nil))))
  (.cons (.ret (.tup (.cons (.blt .len (.cons (.var 0) .nil)) .nil)))
  .nil)
  .nil)
  (.cons (.ife (.and (.val (.cmp .eq (.ix (.var 0) (.var 1)) (.str "turn"))) (.not (.tru (.var 2))))
  (.cons (.ret (.bin false .add (.var 1) (.int 1)))
  .nil)
  .nil)
  (.cons (.ife (.val (.cmp .notin (.ix (.var 0) (.var 1)) (.tup (.cons (.str "exchange") (.cons (.str "roll") .nil)))))
  (.cons (.ret (.tup (.cons (.var 1) .nil)))
  .nil)
  .nil)
  (.cons (.set 3 (.lst true (.cons (.call "_law_places" .nil) (.cons (.call "_law_places" .nil) (.cons (.bin false .add (.call "_law_numbers" .nil) (.lst false (.cons (.str "half") .nil))) .nil)))))
  (.cons (.ife (.val (.cmp .eq (.ix (.var 0) (.var 1)) (.str "exchange")))
  (.cons (.ex (.meth .pop (.var 3) .nil))
  .nil)
  .nil)
  (.cons (.for_ (.nm 4) (.rng1 (.blt .len (.cons (.var 3) .nil)))
  (.cons (.ife (.val (.cmp .ge (.bin false .add (.bin false .add (.var 1) (.int 1)) (.var 4)) (.blt .len (.cons (.var 0) .nil))))
  (.cons (.ret (.tup (.cons (.blt .len (.cons (.var 0) .nil)) .nil)))
  .nil)
  .nil)
  (.cons (.ife (.val (.cmp .notin (.ix (.var 0) (.bin false .add (.bin false .add (.var 1) (.int 1)) (.var 4))) (.ix (.var 3) (.var 4))))
  (.cons (.ret (.tup (.cons (.bin false .add (.bin false .add (.var 1) (.int 1)) (.var 4)) .nil)))
  .nil)
  .nil)
  .nil)))
  (.cons (.ret (.bin false .add (.bin false .add (.var 1) (.int 1)) (.blt .len (.cons (.var 3) .nil))))
  .nil)))))))
def d__law_move_end : MP.FnD := ⟨["parts", "at", "turned"], ["parts", "at", "turned", "wants", "k"], b__law_move_end, false⟩
abbrev s__law_move_end : Stmt := topS 38
theorem k__law_move_end : MP.DefS glob "_law_move_end" d__law_move_end s__law_move_end := ⟨⟨rfl, rfl, rfl, by decide +kernel, rfl, by decide +kernel, by decide +kernel⟩, (fun _ _ _ _ _ _ us hl => match us, hl with | [_, _, _], _ => rfl), by decide +kernel⟩
def b__law_moves_end : MP.SSs := (.cons (.set 2 (.bl false))
  (.cons (.for_ (.nm 3) (.rng1 (.int 4))
  (.cons (.set 4 (.call "_law_move_end" (.cons (.var 0) (.cons (.var 1) (.cons (.var 2) .nil)))))
  (.cons (.ife (.tru (.isi (.var 4) "tuple"))
  (.cons (.ret (.var 4))
  .nil)
  .nil)
  (.cons (.set 2 (.or (.var 2) (.cmp .eq (.ix (.var 0) (.var 1)) (.str "turn"))))
  (.cons (.ife (.or (.val (.cmp .eq (.var 3) (.int 3))) (.or (.val (.cmp .ge (.var 4) (.blt .len (.cons (.var 0) .nil)))) (.val (.cmp .ne (.ix (.var 0) (.var 4)) (.str "then")))))
  (.cons (.ret (.var 4))
  .nil)
  .nil)
  (.cons (.set 1 (.bin false .add (.var 4) (.int 1)))
  .nil))))))
  (.cons (.ret (.var 1))
  .nil)))
def d__law_moves_end : MP.FnD := ⟨["parts", "at"], ["parts", "at", "turned", "many", "end"], b__law_moves_end, false⟩
abbrev s__law_moves_end : Stmt := topS 39
theorem k__law_moves_end : MP.DefS glob "_law_moves_end" d__law_moves_end s__law_moves_end := ⟨⟨rfl, rfl, rfl, by decide +kernel, rfl, by decide +kernel, by decide +kernel⟩, (fun _ _ _ _ _ _ us hl => match us, hl with | [_, _], _ => rfl), by decide +kernel⟩
def b__law_word_wrong : MP.SSs := (.cons (.set 1 (.call "_law_moves_end" (.cons (.var 0) (.cons (.int 0) .nil))))
  (.cons (.ife (.tru (.isi (.var 1) "tuple"))
  (.cons (.ret (.ix (.var 1) (.int 0)))
  .nil)
  .nil)
  (.cons (.ret (.ife (.val (.cmp .eq (.var 1) (.blt .len (.cons (.var 0) .nil)))) .non (.var 1)))
  .nil)))
def d__law_word_wrong : MP.FnD := ⟨["parts"], ["parts", "end"], b__law_word_wrong, false⟩
abbrev s__law_word_wrong : Stmt := topS 40
theorem k__law_word_wrong : MP.DefS glob "_law_word_wrong" d__law_word_wrong s__law_word_wrong := ⟨⟨rfl, rfl, rfl, by decide +kernel, rfl, by decide +kernel, by decide +kernel⟩, (fun _ _ _ _ _ _ us hl => match us, hl with | [_], _ => rfl), by decide +kernel⟩
def b__law_spoiled : MP.SSs := (.cons (.set 2 (.bin false .add (.call "_law_places" .nil) (.lst false (.cons (.str "then") (.cons (.str "turn") (.cons (.str "exchange") (.cons (.str "roll") (.cons (.str "same") (.cons (.str "along") (.cons (.str "list") (.cons (.str "to") (.cons (.str "the") (.cons (.str "end") (.cons (.str "") (.cons (.str "10") .nil)))))))))))))))
  (.cons (.set 2 (.bin false .add (.var 2) (.lst false (.cons (.str "-0") (.cons (.str "00") (.cons (.str "+1") (.cons (.str "half+0") (.cons (.str "half-10") (.cons (.str "Turn") (.cons (.str "to the end") (.cons (.str "1") (.cons (.str "half") (.cons (.str "then") (.cons (.str "turn") (.cons (.str "5") (.cons (.str "-10") .nil))))))))))))))))
  (.cons (.par [3, 4, 5] (.cons (.blt (.list true) (.cons (.var 1) .nil)) (.cons (.call "_law_draw" (.cons (.var 0) (.cons (.blt .len (.cons (.var 1) .nil)) .nil))) (.cons (.call "_law_draw" (.cons (.var 0) (.cons (.int 5) .nil))) .nil))))
  (.cons (.ife (.val (.cmp .eq (.var 5) (.int 0)))
  (.cons (.ex (.meth .popAt (.var 3) (.cons (.var 4) .nil)))
  .nil)
  (.cons (.ife (.val (.cmp .eq (.var 5) (.int 1)))
  (.cons (.ex (.meth .insert (.var 3) (.cons (.var 4) (.cons (.call "_law_pick" (.cons (.var 0) (.cons (.var 2) .nil))) .nil))))
  .nil)
  (.cons (.ife (.val (.cmp .eq (.var 5) (.int 2)))
  (.cons (.ex (.meth .insert (.var 3) (.cons (.var 4) (.cons (.ix (.var 3) (.var 4)) .nil))))
  .nil)
  (.cons (.ife (.val (.cmp .eq (.var 5) (.int 3)))
  (.cons (.ex (.meth .append (.var 3) (.cons (.call "_law_pick" (.cons (.var 0) (.cons (.var 2) .nil))) .nil)))
  .nil)
  (.cons (.sub (.var 3) (.var 4) (.call "_law_pick" (.cons (.var 0) (.cons (.var 2) .nil))))
  .nil))
  .nil))
  .nil))
  .nil))
  (.cons (.ret (.meth (.split false) (.meth .join (.str " ") (.cons (.var 3) .nil)) (.cons (.str " ") .nil)))
  .nil)))))
def d__law_spoiled : MP.FnD := ⟨["pen", "parts"], ["pen", "parts", "menu", "found", "at", "way"], b__law_spoiled, false⟩
abbrev s__law_spoiled : Stmt := topS 41
theorem k__law_spoiled : MP.DefS glob "_law_spoiled" d__law_spoiled s__law_spoiled := ⟨⟨rfl, rfl, rfl, by decide +kernel, rfl, by decide +kernel, by decide +kernel⟩, (fun _ _ _ _ _ _ us hl => match us, hl with | [_, _], _ => rfl), by decide +kernel⟩
def b__law_read : MP.SSs := (.cons (.try_
  (.cons (.ret (.fld (.make false "Word" (.cons (.var 0) .nil)) "moves"))
  .nil) [("BadWord", some 1, .rtup [(.str "word"), (.fld "index"), (.isi "EveryError")])])
  .nil)
def d__law_read : MP.FnD := ⟨["text"], ["text", "e"], b__law_read, false⟩
abbrev s__law_read : Stmt := topS 42
theorem k__law_read : MP.DefS glob "_law_read" d__law_read s__law_read := ⟨⟨rfl, rfl, rfl, by decide +kernel, rfl, by decide +kernel, by decide +kernel⟩, (fun _ _ _ _ _ _ us hl => match us, hl with | [_], _ => rfl), by decide +kernel⟩
def b__law_size : MP.SSs := (.cons (.try_
  (.cons (.ret (.blt .len (.cons (.cm "at" (.var 0) (.cons (.var 1) .nil)) .nil)))
  .nil) [("BadSize", some 2, .rtup [(.str "size"), (.fld "size"), (.isi "EveryError")])])
  .nil)
def d__law_size : MP.FnD := ⟨["made", "size"], ["made", "size", "e"], b__law_size, false⟩
abbrev s__law_size : Stmt := topS 43
theorem k__law_size : MP.DefS glob "_law_size" d__law_size s__law_size := ⟨⟨rfl, rfl, rfl, by decide +kernel, rfl, by decide +kernel, by decide +kernel⟩, (fun _ _ _ _ _ _ us hl => match us, hl with | [_, _], _ => rfl), by decide +kernel⟩
def b_law : MP.SSs := (.cons (.set 1 (.call "_law_pen" (.cons (.var 0) .nil)))
  (.cons (.for_ (.nm 2) (.rng1 (.int 10))
  (.gc [2, 3, 4, 5, 6, 7, 12] (.cons (.set 3 (.call "_law_moves" (.cons (.var 1) .nil)))
  (.cons (.set 4 (.call "_law_spoiled" (.cons (.var 1) (.cons (.meth (.split false) (.call "_law_word_text" (.cons (.var 3) .nil)) (.cons (.str " ") .nil)) .nil))))
  (.cons (.ife (.val (.cmp .eq (.call "_law_draw" (.cons (.var 1) (.cons (.int 3) .nil))) (.int 0)))
  (.cons (.set 4 (.call "_law_spoiled" (.cons (.var 1) (.cons (.var 4) .nil))))
  .nil)
  .nil)
  (.cons (.set 5 (.call "_law_word_wrong" (.cons (.var 4) .nil)))
  (.cons (.set 6 (.call "_law_read" (.cons (.meth .join (.str " ") (.cons (.var 4) .nil)) .nil)))
  (.cons (.ife (.and (.val (.cmp .isnot (.var 5) .non)) (.val (.cmp .ne (.var 6) (.tup (.cons (.str "word") (.cons (.var 5) (.cons (.bl true) .nil)))))))
  (.cons (.ret (.bl false))
  .nil)
  .nil)
  (.cons (.ife (.val (.cmp .is_ (.var 5) .non))
  (.cons (.set 7 (.meth .join (.str " then ") (.cons (.lc false [12] (.nm 12) (.seq (.var 6)) .yes (.meth .join (.str " ") (.cons (.blt (.list false) (.cons (.var 12) .nil)) .nil))) .nil)))
  (.cons (.ife (.val (.cmp .ne (.var 7) (.meth .join (.str " ") (.cons (.var 4) .nil))))
  (.cons (.ret (.bl false))
  .nil)
  .nil)
  .nil))
  .nil)
  (.cons (.ife (.val (.cmp .ne (.call "_law_read" (.cons (.call "_law_word_text" (.cons (.var 3) .nil)) .nil)) (.blt .tuple (.cons (.lc false [12] (.nm 12) (.seq (.var 3)) .yes (.blt .tuple (.cons (.var 12) .nil))) .nil))))
  (.cons (.ret (.bl false))
  .nil)
  .nil)
  .nil))))))))))
  (.cons (.set 8 (.lst false (.cons (.str "") (.cons (.str " ") (.cons (.str "turn ") (.cons (.str " turn") (.cons (.str "then") (.cons (.str "turn then") (.cons (.str "exchange") (.cons (.str "roll 0 1") (.cons (.str "turn then turn") (.cons (.str "roll 0 1 0") .nil))))))))))))
  (.cons (.for_ (.nm 9) (.seq (.var 8))
  (.cons (.ife (.val (.cmp .ne (.call "_law_read" (.cons (.var 9) .nil)) (.tup (.cons (.str "word") (.cons (.call "_law_word_wrong" (.cons (.meth (.split false) (.var 9) (.cons (.str " ") .nil)) .nil)) (.cons (.bl true) .nil))))))
  (.cons (.ret (.bl false))
  .nil)
  .nil)
  .nil))
  (.cons (.par [10, 11] (.cons (.make false "Word" (.cons (.str "roll 0 -1 1") .nil)) (.cons (.call "_law_pick" (.cons (.var 1) (.cons (.lst false (.cons (.int 0) (.cons (.neg (.int 1)) (.cons (.int 1001) (.cons .non (.cons (.bl true) (.cons (.str "3") (.cons (.bin false .pow (.int 10) (.int 30)) .nil)))))))) .nil))) .nil)))
  (.cons (.ret (.and (.cmp .eq (.call "_law_size" (.cons (.var 10) (.cons (.var 11) .nil))) (.tup (.cons (.str "size") (.cons (.var 11) (.cons (.bl true) .nil))))) (.and (.cmp .eq (.call "_law_size" (.cons (.var 10) (.cons (.int 1000) .nil))) (.int 1000)) (.cmp .eq (.call "_law_size" (.cons (.var 10) (.cons (.int 1) .nil))) (.int 1)))))
  .nil))))))
def d_law : MP.FnD := ⟨["script"], ["script", "pen", "lap", "moves", "parts", "index", "told", "back", "texts", "text", "made", "odd", "move"], b_law, false⟩
abbrev s_law : Stmt := topS 44
theorem k_law : MP.DefS glob "law" d_law s_law := ⟨⟨rfl, rfl, rfl, by decide +kernel, rfl, by decide +kernel, by decide +kernel⟩, (fun _ _ _ _ _ _ us hl => match us, hl with | [_], _ => rfl), by decide +kernel⟩
def lst : MP.DefL := [("is_integer", d_is_integer, s_is_integer), ("need_row", d_need_row, s_need_row), ("joined", d_joined, s_joined), ("number_of", d_number_of, s_number_of), ("place_parts", d_place_parts, s_place_parts), ("value_at", d_value_at, s_value_at), ("word_at", d_word_at, s_word_at), ("read_place", d_read_place, s_read_place), ("read_move", d_read_move, s_read_move), ("read_moves", d_read_moves, s_read_moves), ("exchange_at", d_exchange_at, s_exchange_at), ("roll_at", d_roll_at, s_roll_at), ("move_at", d_move_at, s_move_at), ("parts_of", d_parts_of, s_parts_of), ("_law_pen", d__law_pen, s__law_pen), ("_law_draw", d__law_draw, s__law_draw), ("_law_pick", d__law_pick, s__law_pick), ("_law_place_word", d__law_place_word, s__law_place_word), ("_law_amount", d__law_amount, s__law_amount), ("_law_move", d__law_move, s__law_move), ("_law_moves", d__law_moves, s__law_moves), ("_law_word_text", d__law_word_text, s__law_word_text), ("_law_numbers", d__law_numbers, s__law_numbers), ("_law_places", d__law_places, s__law_places), ("_law_move_end", d__law_move_end, s__law_move_end), ("_law_moves_end", d__law_moves_end, s__law_moves_end), ("_law_word_wrong", d__law_word_wrong, s__law_word_wrong), ("_law_spoiled", d__law_spoiled, s__law_spoiled), ("_law_read", d__law_read, s__law_read), ("_law_size", d__law_size, s__law_size), ("law", d_law, s_law)]
def mst : MP.MetL := [("Word", "__init__", d_Word___init__, s_Word___init__), ("Word", "__eq__", d_Word___eq__, s_Word___eq__), ("Word", "at", d_Word_at, s_Word_at)]
theorem mst_ok : MP.MetsOk glob mst := ⟨k_Word___init__, k_Word___eq__, k_Word_at, trivial⟩
abbrev tabA : List (Str × MP.FnD) := lst.tab ++ mst.tab
theorem lst_ok : MP.DefsOk glob lst := ⟨k_is_integer, k_need_row, k_joined, k_number_of, k_place_parts, k_value_at, k_word_at, k_read_place, k_read_move, k_read_moves, k_exchange_at, k_roll_at, k_move_at, k_parts_of, k__law_pen, k__law_draw, k__law_pick, k__law_place_word, k__law_amount, k__law_move, k__law_moves, k__law_word_text, k__law_numbers, k__law_places, k__law_move_end, k__law_moves_end, k__law_word_wrong, k__law_spoiled, k__law_read, k__law_size, k_law, trivial⟩
def e_BadWord : MP.ErrD := ⟨"BadWord", "index", "BadWord.__init__", defArgs (inClass (topS 2) 0), defBody (inClass (topS 2) 0), defScope (inClass (topS 2) 0)⟩
theorem o_BadWord : MP.ErrOk e_BadWord := ⟨⟨_, _, _, _, _, _, _, _, _, _, _, _, _, rfl, fun _ => rfl⟩, by decide +kernel, by decide +kernel, rfl, by decide +kernel, rfl, rfl, ⟨_, rfl, rfl⟩, by decide +kernel, by decide +kernel, ⟨by decide +kernel, by decide +kernel⟩, fun _ _ _ _ _ _ _ us hl => match us, hl with | [_, _], _ => rfl⟩
def e_BadSize : MP.ErrD := ⟨"BadSize", "size", "BadSize.__init__", defArgs (inClass (topS 3) 0), defBody (inClass (topS 3) 0), defScope (inClass (topS 3) 0)⟩
theorem o_BadSize : MP.ErrOk e_BadSize := ⟨⟨_, _, _, _, _, _, _, _, _, _, _, _, _, rfl, fun _ => rfl⟩, by decide +kernel, by decide +kernel, rfl, by decide +kernel, rfl, rfl, ⟨_, rfl, rfl⟩, by decide +kernel, by decide +kernel, ⟨by decide +kernel, by decide +kernel⟩, fun _ _ _ _ _ _ _ us hl => match us, hl with | [_, _], _ => rfl⟩
def e_BadRow : MP.ErrD := ⟨"BadRow", "index", "BadRow.__init__", defArgs (inClass (topS 4) 0), defBody (inClass (topS 4) 0), defScope (inClass (topS 4) 0)⟩
theorem o_BadRow : MP.ErrOk e_BadRow := ⟨⟨_, _, _, _, _, _, _, _, _, _, _, _, _, rfl, fun _ => rfl⟩, by decide +kernel, by decide +kernel, rfl, by decide +kernel, rfl, rfl, ⟨_, rfl, rfl⟩, by decide +kernel, by decide +kernel, ⟨by decide +kernel, by decide +kernel⟩, fun _ _ _ _ _ _ _ us hl => match us, hl with | [_, _], _ => rfl⟩
def ers : List MP.ErrD := [e_BadWord, e_BadSize, e_BadRow]
theorem ers_ok : ∀ e ∈ ers, MP.ErrOk e := by
  intro e h
  simp only [ers, List.mem_cons, List.not_mem_nil, or_false] at h
  rcases h with rfl | rfl | rfl
  · exact o_BadWord
  · exact o_BadSize
  · exact o_BadRow
def depth : Nat := 30
end EV
namespace EV
open PySem PySem.Spec PyProof.Rows L2
open MP MX
local macro_rules | `(tactic| walk_at "ev") => `(tactic| simp only [MX.e_bin, MX.k_bin, MX.e_neg, MX.e_not, MX.e_cmp, MX.k_cmp, MX.e_cmp2, MX.k_c1, MX.k_c2, MX.k_c3t, MX.k_c3f, MX.e_and, MX.k_andt, MX.k_andf, MX.e_or, MX.k_ort, MX.k_orf, MX.e_ife, MX.k_ifet, MX.k_ifef, MX.e_tup, MX.k_tup, MX.e_lst, MX.k_lst, MX.e_ix, MX.k_ix, MX.k_ix2, MX.e_sl, MX.k_sl, MX.k_sl2, MX.k_sl3, MX.e_rev, MX.k_rev, MX.e_call, MX.e_blt, MX.k_blt, MX.e_me, MX.k_me, MX.k_me2, MX.e_isi, MX.k_isi, MX.e_lrg, MX.k_lrg, MX.k_lrg2, MX.e_int, MX.e_str, MX.e_bl, MX.e_non, MX.e_var, MX.e_cst, MX.v_d, MX.v_b, MX.es_nil, MX.es_cons, MX.k_es, MX.k_es2, MX.o_none, MX.o_some, MX.k_o, MX.t_val, MX.k_val, MX.t_tru, MX.k_tru, MX.t_and, MX.t_or, MX.t_not, MX.k_tat, MX.k_taf, MX.k_tot, MX.k_tof, MX.k_tn, MX.c_yes, MX.c_one, MX.i_seq, MX.k_seql, MX.k_seqt, MX.i_r1, MX.k_r1, MX.i_r2, MX.k_r2, MX.k_r3, MX.ss_nil, MX.ss_cons, MX.s_set', MX.k_set, MX.s_par', MX.k_par, MX.s_unp', MX.k_unp, MX.s_sub', MX.k_su, MX.k_su2, MX.k_su3, MX.s_ex', MX.k_ex, MX.s_ret', MX.s_ret0', MX.s_if', MX.k_ift, MX.k_iff, MX.s_for', MX.k_for, MX.s_brk', MX.s_cnt', MX.s_pas', MX.s_try', MX.k_try_rt, MX.k_try_nx, MP.setAll, MX.get0, MX.getS, MX.nth0, MX.nthS, MX.rb_ok, MX.rb_exc, MX.rg_ok, MX.rg_exc, MX.sg_nx, MX.sg_rt, MX.sg_bk, MX.sg_ct, MX.sg_exc, MX.opt_s, MX.optS_s, MX.b_add, MX.b_sub, MX.b_mul, MX.b_fdiv, MX.b_mod, MX.b_pow, MX.u_neg, MX.u_not, MX.c_lt, MX.c_le, MX.c_gt, MX.c_ge, MX.c_eq, MX.c_ne, MX.c_is, MX.c_isnot, MX.eq_int, MX.l_lst, MX.l_tup, MX.f_len, MX.f_int, MX.f_list_scr, MX.f_list_lst, MX.f_list_tup, MX.mk_f, MX.mk_t, MX.ix_lst, MX.ix_tup, MX.t_bl, MX.t_int, MX.t_non, List.set_cons_zero, List.set_cons_succ, List.length_nil, List.length_cons, List.length_map, decide_true, decide_false, ↓reduceIte, Int.reduceLT, Bool.not_true, Bool.not_false, Bool.true_and, Bool.false_and, reduceCtorEq, eq_self, MX.e_make, MX.k_mk, MX.e_cm, MX.k_cm, MX.k_cm1, MX.k_cm2, MX.e_fld, MX.k_fld, MX.e_lc, MX.k_lcv, MX.k_lca, MX.no_ok, MX.i_en, MX.k_enl, MX.k_stepT, MX.c_in, MX.c_notin, MX.s_sub2', MX.k_s1, MX.k_s2, MX.k_s3, MX.k_s4, MX.k_s5, MX.k_s6, MX.ss_gc, *])

def Γn (n : Nat) : MP.Env := ⟨glob, callsN glob tabA n⟩
theorem cal {n : Nat} {f : Str} {fd : FnD} (h : tabA.lookup f = some fd) : (Γn (n + 1)).cs.f f = callF (Γn n) fd := MP.calls_at h
/-! place words: from where, how far -/
def pwt : List (Str × Str × Int) := [((Str.ofString "0"), (Str.ofString "front"), 0), ((Str.ofString "1"), (Str.ofString "front"), 1), ((Str.ofString "2"), (Str.ofString "front"), 2), ((Str.ofString "3"), (Str.ofString "front"), 3), ((Str.ofString "4"), (Str.ofString "front"), 4), ((Str.ofString "5"), (Str.ofString "front"), 5), ((Str.ofString "6"), (Str.ofString "front"), 6), ((Str.ofString "7"), (Str.ofString "front"), 7), ((Str.ofString "8"), (Str.ofString "front"), 8), ((Str.ofString "9"), (Str.ofString "front"), 9), ((Str.ofString "-1"), (Str.ofString "end"), 1), ((Str.ofString "-2"), (Str.ofString "end"), 2), ((Str.ofString "-3"), (Str.ofString "end"), 3), ((Str.ofString "-4"), (Str.ofString "end"), 4), ((Str.ofString "-5"), (Str.ofString "end"), 5), ((Str.ofString "-6"), (Str.ofString "end"), 6), ((Str.ofString "-7"), (Str.ofString "end"), 7), ((Str.ofString "-8"), (Str.ofString "end"), 8), ((Str.ofString "-9"), (Str.ofString "end"), 9), ((Str.ofString "half"), (Str.ofString "half"), 0), ((Str.ofString "half+1"), (Str.ofString "half"), 1), ((Str.ofString "half+2"), (Str.ofString "half"), 2), ((Str.ofString "half+3"), (Str.ofString "half"), 3), ((Str.ofString "half+4"), (Str.ofString "half"), 4), ((Str.ofString "half+5"), (Str.ofString "half"), 5), ((Str.ofString "half+6"), (Str.ofString "half"), 6), ((Str.ofString "half+7"), (Str.ofString "half"), 7), ((Str.ofString "half+8"), (Str.ofString "half"), 8), ((Str.ofString "half+9"), (Str.ofString "half"), 9), ((Str.ofString "half-1"), (Str.ofString "half"), (-1)), ((Str.ofString "half-2"), (Str.ofString "half"), (-2)), ((Str.ofString "half-3"), (Str.ofString "half"), (-3)), ((Str.ofString "half-4"), (Str.ofString "half"), (-4)), ((Str.ofString "half-5"), (Str.ofString "half"), (-5)), ((Str.ofString "half-6"), (Str.ofString "half"), (-6)), ((Str.ofString "half-7"), (Str.ofString "half"), (-7)), ((Str.ofString "half-8"), (Str.ofString "half"), (-8)), ((Str.ofString "half-9"), (Str.ofString "half"), (-9))]
def amt : List (Str × Option Int) := [((Str.ofString "1"), some (1)), ((Str.ofString "2"), some (2)), ((Str.ofString "3"), some (3)), ((Str.ofString "4"), some (4)), ((Str.ofString "5"), some (5)), ((Str.ofString "6"), some (6)), ((Str.ofString "7"), some (7)), ((Str.ofString "8"), some (8)), ((Str.ofString "9"), some (9)), ((Str.ofString "-1"), some (-1)), ((Str.ofString "-2"), some (-2)), ((Str.ofString "-3"), some (-3)), ((Str.ofString "-4"), some (-4)), ((Str.ofString "-5"), some (-5)), ((Str.ofString "-6"), some (-6)), ((Str.ofString "-7"), some (-7)), ((Str.ofString "-8"), some (-8)), ((Str.ofString "-9"), some (-9)), ((Str.ofString "half"), none), ((Str.ofString "half"), none)]
def vv (s : Str) (far n : Int) : Int := if s = "front" then far else if s = "end" then n - far else n / 2 + far
def nD : Option Int → D
  | some a => .int a
  | none => .non
section
variable (k : Nat) (n : Int)
theorem pp_0 : pwt.map (fun p => callF (Γn k) d_place_parts [.str p.1] []) = pwt.map fun p => .ok (plD p.2.1 p.2.2) [] := by kernel_rfl
theorem pp_1 (a : MO) : pwt.map (fun p => callF (Γn k) d_place_parts [.str p.1] [a]) = pwt.map fun p => .ok (plD p.2.1 p.2.2) [a] := by kernel_rfl
theorem pp_2 (a b : MO) : pwt.map (fun p => callF (Γn k) d_place_parts [.str p.1] [a, b]) = pwt.map fun p => .ok (plD p.2.1 p.2.2) [a, b] := by kernel_rfl
theorem pp_3 (a b c : MO) : pwt.map (fun p => callF (Γn k) d_place_parts [.str p.1] [a, b, c]) = pwt.map fun p => .ok (plD p.2.1 p.2.2) [a, b, c] := by kernel_rfl
theorem pp_4 (a b c d : MO) : pwt.map (fun p => callF (Γn k) d_place_parts [.str p.1] [a, b, c, d]) = pwt.map fun p => .ok (plD p.2.1 p.2.2) [a, b, c, d] := by kernel_rfl
theorem pp_5 (a b c d e : MO) : pwt.map (fun p => callF (Γn k) d_place_parts [.str p.1] [a, b, c, d, e]) = pwt.map fun p => .ok (plD p.2.1 p.2.2) [a, b, c, d, e] := by kernel_rfl
theorem pp_ok : ∀ {M : Mem}, M.length ≤ 5 → ∀ p ∈ pwt, callF (Γn k) d_place_parts [.str p.1] M = .ok (plD p.2.1 p.2.2) M
  | [], _ => List.map_inj_left.mp (pp_0 k)
  | [a], _ => List.map_inj_left.mp (pp_1 k a)
  | [a, b], _ => List.map_inj_left.mp (pp_2 k a b)
  | [a, b, c], _ => List.map_inj_left.mp (pp_3 k a b c)
  | [a, b, c, d], _ => List.map_inj_left.mp (pp_4 k a b c d)
  | [a, b, c, d, e], _ => List.map_inj_left.mp (pp_5 k a b c d e)
  | _ :: _ :: _ :: _ :: _ :: _ :: _, h => absurd h (by simp)
theorem va_1 (a : MO) : pwt.map (fun p => callF (Γn (k + 1)) d_value_at [.str p.1, .int n] [a]) = pwt.map fun p => .ok (.int (vv p.2.1 p.2.2 n)) [a] := by kernel_rfl
theorem va_2 (a b : MO) : pwt.map (fun p => callF (Γn (k + 1)) d_value_at [.str p.1, .int n] [a, b]) = pwt.map fun p => .ok (.int (vv p.2.1 p.2.2 n)) [a, b] := by kernel_rfl
theorem va_3 (a b c : MO) : pwt.map (fun p => callF (Γn (k + 1)) d_value_at [.str p.1, .int n] [a, b, c]) = pwt.map fun p => .ok (.int (vv p.2.1 p.2.2 n)) [a, b, c] := by kernel_rfl
theorem va_4 (a b c d : MO) : pwt.map (fun p => callF (Γn (k + 1)) d_value_at [.str p.1, .int n] [a, b, c, d]) = pwt.map fun p => .ok (.int (vv p.2.1 p.2.2 n)) [a, b, c, d] := by kernel_rfl
/-- the store's length within a lap -/
def Ln (M : Mem) : Prop := 1 ≤ M.length ∧ M.length ≤ 4
theorem va_ok : ∀ {M : Mem}, Ln M → ∀ p ∈ pwt, callF (Γn (k + 1)) d_value_at [.str p.1, .int n] M = .ok (.int (vv p.2.1 p.2.2 n)) M
  | [a, b], _ => List.map_inj_left.mp (va_2 k n a b)
  | [a, b, c], _ => List.map_inj_left.mp (va_3 k n a b c)
  | [a, b, c, d], _ => List.map_inj_left.mp (va_4 k n a b c d)
  | [], h => absurd h.1 (by simp)
  | [a], _ => List.map_inj_left.mp (va_1 k n a)
  | _ :: _ :: _ :: _ :: _ :: _, h => absurd h.2 (by simp)
/-! amounts -/
theorem by_all (m : Int) (o0 o1 o3 o4 : Option D) (M : Mem) : amt.map (fun p => evE (Γn k) byE [o0, o1, some (.str p.1), o3, o4, some (.int m), none, none] M) = amt.map fun p => .ok (.int (amV p.2 m)) M := by kernel_rfl
theorem nu_any (o0 o1 o2 o3 o4 o5 : Option D) : ∀ {M : Mem}, M.length ≤ 5 → amt.map (fun p => evT (Γn (k + 1)) (.and (.val (.cmp .ne (.var 6) (.cst "HALF"))) (.val (.cmp .is_ (.call "number_of" (.cons (.var 6) .nil)) .non))) [o0, o1, o2, o3, o4, o5, some (.str p.1)] M) = amt.map fun _ => .ok false M
  | [], _ => by kernel_rfl
  | [_], _ => by kernel_rfl
  | [_, _], _ => by kernel_rfl
  | [_, _, _], _ => by kernel_rfl
  | [_, _, _, _], _ => by kernel_rfl
  | [_, _, _, _, _], _ => by kernel_rfl
  | _ :: _ :: _ :: _ :: _ :: _ :: _, h => absurd h (by simp)
theorem nu_all (o0 o1 o2 o3 o4 o5 : Option D) {M : Mem} (h : M.length ≤ 5) : ∀ p ∈ amt, evT (Γn (k + 1)) (.and (.val (.cmp .ne (.var 6) (.cst "HALF"))) (.val (.cmp .is_ (.call "number_of" (.cons (.var 6) .nil)) .non))) [o0, o1, o2, o3, o4, o5, some (.str p.1)] M = .ok false M := List.map_inj_left.mp (nu_any k o0 o1 o2 o3 o4 o5 h)
theorem num_any : ∀ {M : Mem}, M.length ≤ 5 → amt.map (fun p => callF (Γn k) d_number_of [.str p.1] M) = amt.map fun p => .ok (nD p.2) M
  | [], _ => by kernel_rfl
  | [_], _ => by kernel_rfl
  | [_, _], _ => by kernel_rfl
  | [_, _, _], _ => by kernel_rfl
  | [_, _, _, _], _ => by kernel_rfl
  | [_, _, _, _, _], _ => by kernel_rfl
  | _ :: _ :: _ :: _ :: _ :: _ :: _, h => absurd h (by simp)
theorem num_all {M : Mem} (h : M.length ≤ 5) : ∀ p ∈ amt, callF (Γn k) d_number_of [.str p.1] M = .ok (nD p.2) M := List.map_inj_left.mp (num_any k h)
end
/-! ### the words of a move -/
inductive Mw where
  | turn | exch (p q : Str × Str × Int) | roll (p q : Str × Str × Int) (a : Str × Option Int)
def Mw.ok : Mw → Prop
  | .turn => True
  | .exch p q => p ∈ pwt ∧ q ∈ pwt
  | .roll p q a => p ∈ pwt ∧ q ∈ pwt ∧ a ∈ amt
def Mw.words : Mw → List Str
  | .turn => ["turn"]
  | .exch p q => ["exchange", p.1, q.1]
  | .roll p q a => ["roll", p.1, q.1, a.1]
def Mw.pt : Mw → List D
  | .turn => [.str "turn"]
  | .exch p q => [.str "exchange", plD p.2.1 p.2.2, plD q.2.1 q.2.2]
  | .roll p q a => [.str "roll", plD p.2.1 p.2.2, plD q.2.1 q.2.2, nD a.2]
def Mw.ht : Mw → Bool
  | .turn => true
  | _ => false
def Mw.mo (n : Int) : Mw → Mo
  | .turn => .turn
  | .exch p q => .exch (vv p.2.1 p.2.2 n) (vv q.2.1 q.2.2 n)
  | .roll p q a => .roll (vv p.2.1 p.2.2 n) (vv q.2.1 q.2.2 n) a.2
abbrev Mw.ds (w : Mw) : List D := w.words.map D.str
abbrev Mw.text (w : Mw) : Str := Txt.join " " w.words
abbrev wD (w : Mw) : D := .obj "Word" wnames [.str w.text, .tup [.tup w.ds], .bl w.ht, .tup [.tup w.pt]]
/-- a word without blanks, short, of signs -/
def Gw (s : Str) : Prop := 32 ∉ TL.tl s ∧ s.length ≤ 8 ∧ PyData.strOk s = true
instance (s : Str) : Decidable (Gw s) := by unfold Gw; infer_instance
theorem pw_blank : ∀ p ∈ pwt, Gw p.1 := by decide +kernel
theorem am_blank : ∀ p ∈ amt, Gw p.1 := by decide +kernel
theorem kw_blank : ∀ s ∈ ([Str.ofString "turn", Str.ofString "exchange", Str.ofString "roll"] : List Str), Gw s := by decide +kernel
theorem nD_low (a : Option Int) : lowD 0 (nD a) = true := by cases a <;> rfl
theorem Mw.blank : ∀ {w : Mw}, w.ok → ∀ s ∈ w.words, Gw s
  | .turn, _, s, hs => by
    rw [List.mem_singleton.mp (show s ∈ [Str.ofString "turn"] from hs)]
    exact kw_blank _ (by simp)
  | .exch p q, ⟨h1, h2⟩, s, hs => by
    simp only [Mw.words, List.mem_cons, List.not_mem_nil, or_false] at hs
    rcases hs with rfl | rfl | rfl
    · exact kw_blank _ (by simp)
    · exact pw_blank p h1
    · exact pw_blank q h2
  | .roll p q a, ⟨h1, h2, h3⟩, s, hs => by
    simp only [Mw.words, List.mem_cons, List.not_mem_nil, or_false] at hs
    rcases hs with rfl | rfl | rfl | rfl
    · exact kw_blank _ (by simp)
    · exact pw_blank p h1
    · exact pw_blank q h2
    · exact am_blank a h3
theorem strOk_app {a b : Str} (ha : PyData.strOk a = true) (hb : PyData.strOk b = true) : PyData.strOk (a ++ b) = true := by
  unfold PyData.strOk at *
  rw [Str.cps_append, Array.all_append, ha, hb]
  rfl
theorem join_ok : ∀ ws : List Str, (∀ s ∈ ws, PyData.strOk s = true) → PyData.strOk (Txt.join " " ws) = true := by
  intro ws h
  rw [TL.join_eq]
  induction ws with
  | nil => exact (by decide +kernel : PyData.strOk (Str.join " " []) = true)
  | cons a r ih =>
    cases r with
    | nil => exact h a (by simp)
    | cons b r => exact strOk_app (strOk_app (h a (by simp)) (by decide +kernel)) (ih fun s hs => h s (by simp [hs]))
theorem toPs_strs (M : Mem) : ∀ ws : List Str, toPs M (ws.map D.str) = some (ws.map PyData.str)
  | [] => rfl
  | n :: r => by
    show (match toP M (.str n), toPs M (r.map D.str) with
      | some p, some q => some (p :: q)
      | _, _ => none) = _
    rw [toPs_strs M r]
    rfl
theorem lay_strs : ∀ {ws : List Str}, (∀ s ∈ ws, PyData.strOk s = true) → PyData.canLayAll0 (ws.map PyData.str) = true ∧ PyData.depthAll (ws.map PyData.str) = 0
  | [], _ => ⟨rfl, rfl⟩
  | a :: r, h => by
    obtain ⟨h1, h2⟩ := lay_strs (ws := r) fun s hs => h s (by simp [hs])
    refine ⟨?_, ?_⟩
    · show (PyData.strOk a && PyData.canLayAll0 (r.map PyData.str)) = true
      rw [h a (by simp), h1]
      rfl
    · show max 0 (PyData.depthAll (r.map PyData.str)) = 0
      rw [h2]
      rfl
theorem shaped_l {ws : List Str} (h : ∀ s ∈ ws, PyData.strOk s = true) : SeqAt.shaped (.list (ws.map PyData.str)) = true := by
  obtain ⟨h1, h2⟩ := lay_strs h
  show (PyData.canLayAll0 (ws.map PyData.str) && decide (PyData.depthAll (ws.map PyData.str) + 1 ≤ 64)) = true
  rw [h1, h2]
  rfl
theorem shaped_tt {ws : List Str} (h : ∀ s ∈ ws, PyData.strOk s = true) : SeqAt.shaped (.tuple [.tuple (ws.map PyData.str)]) = true := by
  obtain ⟨h1, h2⟩ := lay_strs h
  show ((PyData.canLayAll0 (ws.map PyData.str) && true) && decide (max (PyData.depthAll (ws.map PyData.str) + 1) 0 + 1 ≤ 64)) = true
  rw [h1, h2]
  rfl
theorem toP_tt (M : Mem) (ws : List Str) : toP1 M (.tup [.tup (ws.map D.str)]) = some (.tuple [.tuple (ws.map PyData.str)]) := by
  show (match (toPs M (ws.map D.str)).map PyData.tuple, some [] with
    | some p, some q => some (p :: q)
    | _, _ => none).map PyData.tuple = _
  rw [toPs_strs]
  rfl
theorem eq_same {M : Mem} {a : D} {p : PyData} (h : toP1 M a = some p) (hs : SeqAt.shaped p = true) : eqD M a a = some true := by
  unfold eqD
  rw [h]
  show (if SeqAt.shaped p = true ∧ SeqAt.shaped p = true then some (PyData.eqv p p) else none) = _
  rw [if_pos ⟨hs, hs⟩, SeqAt.eqv_refl _ (SeqAt.canLay_of_shaped hs)]
theorem join_len : ∀ ws : List Str, (∀ s ∈ ws, s.length ≤ 8) → (Txt.join " " ws).length ≤ 9 * ws.length := by
  intro ws h
  rw [TL.join_eq]
  induction ws with
  | nil => exact Nat.zero_le _
  | cons a r ih =>
    cases r with
    | nil =>
      have := h a (by simp)
      show a.length ≤ 9 * 1
      omega
    | cons b r =>
      have h1 := h a (by simp)
      have h2 := ih fun s hs => h s (by simp [hs])
      show (a ++ " " ++ Str.join " " (b :: r)).length ≤ _
      rw [Str.length_append, Str.length_append]
      have : (Str.ofString " ").length = 1 := by decide +kernel
      simp only [List.length_cons] at h2 ⊢
      omega
theorem Mw.few (w : Mw) : w.words.length ≤ 4 := by cases w <;> simp [Mw.words]
theorem Mw.tlen {w : Mw} (h : w.ok) : w.text.length ≤ 36 := by
  have h1 := join_len w.words fun s hs => (w.blank h s hs).2.1
  have := w.few
  show (Txt.join " " w.words).length ≤ 36
  omega
theorem Mw.split {w : Mw} (h : w.ok) : Txt.split w.text " " = w.words := split_join (by cases w <;> simp [Mw.words]) fun s hs => (w.blank h s hs).1
theorem pt_low (w : Mw) : lowDs 0 w.pt = true := by
  cases w with
  | turn => rfl
  | exch p q => rfl
  | roll p q a =>
    show (true && (true && (true && (lowD 0 (nD a.2) && true)))) = true
    rw [nD_low]
    rfl
theorem ds_low (w : Mw) (k : Nat) : lowDs k w.ds = true := by cases w <;> rfl
/-! ### words of several moves -/
def sAt : SSs → Nat → SS
  | .cons s _, 0 => s
  | .cons _ r, n + 1 => sAt r n
  | _, _ => .pas
def bodyF : SS → SSs
  | .for_ _ _ (.gc _ b) => b
  | .for_ _ _ b => b
  | _ => .nil
def flatW : List (List Str) → List Str
  | [] => []
  | [m] => m
  | m :: m2 :: r => m ++ (Str.ofString "then" :: flatW (m2 :: r))
theorem sjoin_app (s : Str) : ∀ {a b : List Str}, a ≠ [] → b ≠ [] → Str.join s (a ++ b) = Str.join s a ++ s ++ Str.join s b
  | [], _, h, _ => absurd rfl h
  | [x], b, _, hb => by
    cases b with
    | nil => exact absurd rfl hb
    | cons y b => rfl
  | x :: y :: r, b, _, hb => by
    have ih := sjoin_app s (a := y :: r) (b := b) (by simp) hb
    show x ++ s ++ Str.join s (y :: r ++ b) = (x ++ s ++ Str.join s (y :: r)) ++ s ++ Str.join s b
    rw [ih]
    simp only [Str.append_assoc]
theorem join_flat : ∀ {L : List (List Str)}, (∀ m ∈ L, m ≠ []) → Str.join " then " (L.map (Str.join " ")) = Str.join " " (flatW L)
  | [], _ => rfl
  | [m], _ => rfl
  | m :: m2 :: r, h => by
    have ih := join_flat (L := m2 :: r) fun x hx => h x (by simp [hx])
    have ne : flatW (m2 :: r) ≠ [] := by
      cases r with
      | nil => exact h m2 (by simp)
      | cons m3 r =>
        show m2 ++ _ ≠ []
        simp
    have e2 : Str.join " " (Str.ofString "then" :: flatW (m2 :: r)) = Str.ofString "then" ++ " " ++ Str.join " " (flatW (m2 :: r)) := by
      cases q : flatW (m2 :: r) with
      | nil => exact absurd q ne
      | cons x l => rfl
    show Str.join " " m ++ " then " ++ Str.join " then " ((m2 :: r).map (Str.join " ")) = Str.join " " (m ++ (Str.ofString "then" :: flatW (m2 :: r)))
    rw [ih, sjoin_app " " (h m (by simp)) (by simp), e2, show (Str.ofString " then ") = Str.ofString " " ++ (Str.ofString "then" ++ Str.ofString " ") from by decide +kernel]
    simp only [Str.append_assoc]
abbrev Ms := List Mw
/-- the words of moves -/
abbrev wsM (ms : Ms) : List Str := flatW (ms.map Mw.words)
abbrev txM (ms : Ms) : Str := Txt.join " " (wsM ms)
def htM (ms : Ms) : Bool := ms.any Mw.ht
abbrev wDm (ms : Ms) : D := .obj "Word" wnames [.str (txM ms), .tup (ms.map fun w => .tup w.ds), .bl (htM ms), .tup (ms.map fun w => .tup w.pt)]
/-- one turn at most -/
def Ot (ms : Ms) : Prop := ms.Pairwise fun a b => ¬ (a.ht = true ∧ b.ht = true)
structure Gm (ms : Ms) : Prop where
  ok : ∀ w ∈ ms, w.ok
  ne : ms ≠ []
  few : ms.length ≤ 4
  ot : Ot ms
theorem words_ne (w : Mw) : w.words ≠ [] := by cases w <;> simp [Mw.words]
theorem flat_all {P : Str → Prop} (ht : P "then") : ∀ {L : List (List Str)}, (∀ m ∈ L, ∀ s ∈ m, P s) → ∀ s ∈ flatW L, P s
  | [], _, s, h => by cases h
  | [m], hL, s, h => hL m (by simp) s h
  | m :: m2 :: r, hL, s, h => by
    rcases List.mem_append.mp (show s ∈ m ++ (Str.ofString "then" :: flatW (m2 :: r)) from h) with h | h
    · exact hL m (by simp) s h
    · rcases List.mem_cons.mp h with rfl | h
      · exact ht
      · exact flat_all ht (L := m2 :: r) (fun x hx => hL x (by simp [hx])) s h
theorem then_blank : Gw "then" := by decide +kernel
theorem blankM {ms : Ms} (h : ∀ w ∈ ms, w.ok) : ∀ s ∈ wsM ms, Gw s := flat_all then_blank fun m hm => by
  obtain ⟨w, hw, rfl⟩ := List.mem_map.mp hm
  exact w.blank (h w hw)
theorem flat_len : ∀ {L : List (List Str)}, (∀ m ∈ L, m.length ≤ 4) → (flatW L).length ≤ 5 * L.length
  | [], _ => Nat.zero_le _
  | [m], h => by
    have := h m (by simp)
    show m.length ≤ 5 * 1
    omega
  | m :: m2 :: r, h => by
    have h1 := h m (by simp)
    have h2 := flat_len (L := m2 :: r) fun x hx => h x (by simp [hx])
    show (m ++ (Str.ofString "then" :: flatW (m2 :: r))).length ≤ _
    rw [List.length_append, List.length_cons]
    simp only [List.length_cons] at h2 ⊢
    omega
theorem fewM (ms : Ms) : (wsM ms).length ≤ 5 * ms.length := by
  have := flat_len (L := ms.map Mw.words) fun m hm => by
    obtain ⟨w, _, rfl⟩ := List.mem_map.mp hm
    exact w.few
  rwa [List.length_map] at this
theorem flat_ne {L : List (List Str)} (h : ∀ m ∈ L, m ≠ []) (hL : L ≠ []) : flatW L ≠ [] := by
  match L, hL with
  | [m], _ => exact h m (by simp)
  | m :: m2 :: r, _ =>
    show m ++ _ ≠ []
    simp
theorem wsM_ne {ms : Ms} (h : ms ≠ []) : wsM ms ≠ [] := flat_ne (fun m hm => by
  obtain ⟨w, _, rfl⟩ := List.mem_map.mp hm
  exact words_ne w) (by simpa using h)
theorem txM_len {ms : Ms} (g : Gm ms) : (txM ms).length ≤ 180 := by
  have h1 := join_len (wsM ms) fun s hs => (blankM g.ok s hs).2.1
  have h2 := fewM ms
  have h3 := g.few
  show (Txt.join " " (wsM ms)).length ≤ 180
  omega
theorem txM_eq {ms : Ms} : Txt.join " then " (ms.map Mw.text) = txM ms := by
  have e : ms.map Mw.text = (ms.map Mw.words).map (Str.join " ") := by
    rw [List.map_map]
    exact List.map_congr_left fun w _ => TL.join_eq " " w.words
  rw [TL.join_eq, e, join_flat fun m hm => by
    obtain ⟨w, _, rfl⟩ := List.mem_map.mp hm
    exact words_ne w]
  exact (TL.join_eq " " _).symm
/-! ### a move is read within others -/
theorem atI_pre {pre l suf : List D} {j : Nat} {d : D} (h : l[j]? = some d) : atI (pre ++ l ++ suf) ((pre.length : Int) + (j : Int)) = some d := by
  have hj := (List.getElem?_eq_some_iff.mp h).1
  have e : (pre.length : Int) + (j : Int) = ((pre.length + j : Nat) : Int) := by omega
  rw [e]
  refine atI_nat ?_
  rw [List.append_assoc, List.getElem?_append_right (by omega), show pre.length + j - pre.length = j by omega, List.getElem?_append_left hj]
  exact h
theorem atI_pre0 {pre l suf : List D} {d : D} (h : l[0]? = some d) : atI (pre ++ l ++ suf) (pre.length : Int) = some d := by
  have q := atI_pre (pre := pre) (suf := suf) h
  rw [show ((0 : Nat) : Int) = 0 from rfl, Int.add_zero] at q
  exact q
theorem mem_turn {M : Mem} {i : Nat} {done : Ms} (hM : M[i]? = some (.lst (done.map fun w => .tup w.ds))) (hok : ∀ w ∈ done, w.ok) (hn : ∀ w ∈ done, w.ht = false) : memD M (.tup [.str "turn"]) (.ref i) = some false := by
  have hs : ∀ w ∈ done, ∀ s ∈ w.words, PyData.strOk s = true := fun w hw s hs => (w.blank (hok w hw) s hs).2.2
  have e1 : ∀ l : Ms, toPs M (l.map fun w => .tup w.ds) = some (l.map fun w => .tuple (w.words.map PyData.str)) := by
    intro l
    induction l with
    | nil => rfl
    | cons w l ih =>
      show (match (toPs M w.ds).map PyData.tuple, toPs M (l.map fun w => .tup w.ds) with
        | some p, some q => some (p :: q)
        | _, _ => none) = _
      rw [toPs_strs, ih]
      rfl
  have sh : SeqAt.shaped (.list (done.map fun w => .tuple (w.words.map PyData.str))) = true := by
    have key : ∀ l : Ms, (∀ w ∈ l, ∀ s ∈ w.words, PyData.strOk s = true) → PyData.canLayAll0 (l.map fun w => .tuple (w.words.map PyData.str)) = true ∧ PyData.depthAll (l.map fun w => .tuple (w.words.map PyData.str)) ≤ 1 := by
      intro l hl
      induction l with
      | nil => exact ⟨rfl, Nat.zero_le _⟩
      | cons w l ih =>
        obtain ⟨a1, a2⟩ := ih fun x hx => hl x (by simp [hx])
        obtain ⟨b1, b2⟩ := lay_strs (hl w (by simp))
        refine ⟨?_, ?_⟩
        · show (PyData.canLayAll0 (w.words.map PyData.str) && PyData.canLayAll0 (l.map _)) = true
          rw [b1, a1]
          rfl
        · show max (PyData.depthAll (w.words.map PyData.str) + 1) (PyData.depthAll (l.map _)) ≤ 1
          rw [b2]
          omega
    obtain ⟨k1, k2⟩ := key done hs
    show (PyData.canLayAll0 _ && decide (PyData.depthAll _ + 1 ≤ 64)) = true
    rw [k1, decide_eq_true (by omega)]
    rfl
  unfold memD seqOf
  simp only [hM]
  rw [if_neg (by intro z; cases z.1)]
  rw [e1]
  show (if SeqAt.shaped (.tuple [.str "turn"]) = true ∧ SeqAt.shaped (.list (done.map fun w => .tuple (w.words.map PyData.str))) = true then some ((done.map fun w => PyData.tuple (w.words.map PyData.str)).any fun z => PyData.eqv z (.tuple [.str "turn"])) else none) = _
  rw [if_pos ⟨by decide +kernel, sh⟩]
  congr 1
  rw [List.any_eq_false]
  intro z hz
  obtain ⟨w, hw, rfl⟩ := List.mem_map.mp hz
  have := hn w hw
  cases w with
  | turn => cases this
  | exch p q => exact Bool.eq_false_iff.mp (by kernel_rfl)
  | roll p q a => exact Bool.eq_false_iff.mp (by kernel_rfl)
theorem rd_move {w : Mw} (h : w.ok) {pre suf : List D} {M : Mem} {i : Nat} {done : Ms} (hM : M[i]? = some (.lst (done.map fun w => .tup w.ds))) (hl : M.length ≤ 5) (hok : ∀ w ∈ done, w.ok) (ht : w.ht = true → ∀ w ∈ done, w.ht = false) :
    (Γn 27).cs.f "read_move" [.lst (pre ++ w.ds ++ suf), .int (pre.length : Int), .ref i] M = .ok (.tup w.ds) M := by
  rw [show (Γn 27).cs.f "read_move" = callF (Γn 26) readMoveF from cal (by kernel_rfl)]
  have hw : (Γn 26).cs.f "word_at" = callF (Γn 25) wordAtF := cal (by kernel_rfl)
  have hr : (Γn 26).cs.f "read_place" = callF (Γn 25) readPlaceF := cal (by kernel_rfl)
  have hw2 : (Γn 25).cs.f "word_at" = callF (Γn 24) wordAtF := cal (by kernel_rfl)
  have hp : (Γn 25).cs.f "place_parts" = callF (Γn 24) d_place_parts := cal (by kernel_rfl)
  cases w with
  | turn =>
    have a0 := atI_pre0 (pre := pre) (l := [.str "turn"]) (suf := suf) rfl
    exact read_turn (Γ1 := Γn 25) hw a0 (by show _ < ((pre ++ [D.str "turn"] ++ suf).length : Int); simp; omega) (mem_turn hM hok (ht rfl))
  | exch p q =>
    obtain ⟨h1, h2⟩ := h
    have a0 := atI_pre0 (pre := pre) (l := [.str "exchange", .str p.1, .str q.1]) (suf := suf) rfl
    have a1 := atI_pre (pre := pre) (l := [.str "exchange", .str p.1, .str q.1]) (suf := suf) (j := 1) rfl
    have a2 := atI_pre (pre := pre) (l := [.str "exchange", .str p.1, .str q.1]) (suf := suf) (j := 2) rfl
    exact read_exch hw hr hw2 (by rw [hp]; exact pp_ok 24 hl p h1) (by rw [hp]; exact pp_ok 24 hl q h2) a0 a1 a2 (by show _ < ((pre ++ [D.str "exchange", .str p.1, .str q.1] ++ suf).length : Int); simp; omega)
  | roll p q a =>
    obtain ⟨h1, h2, h3⟩ := h
    have a0 := atI_pre0 (pre := pre) (l := [.str "roll", .str p.1, .str q.1, .str a.1]) (suf := suf) rfl
    have a1 := atI_pre (pre := pre) (l := [.str "roll", .str p.1, .str q.1, .str a.1]) (suf := suf) (j := 1) rfl
    have a2 := atI_pre (pre := pre) (l := [.str "roll", .str p.1, .str q.1, .str a.1]) (suf := suf) (j := 2) rfl
    have a3 := atI_pre (pre := pre) (l := [.str "roll", .str p.1, .str q.1, .str a.1]) (suf := suf) (j := 3) rfl
    refine read_roll hw hr hw2 (by rw [hp]; exact pp_ok 24 hl p h1) (by rw [hp]; exact pp_ok 24 hl q h2) (fun o0 o1 o2 o3 o4 o5 => ?_) a0 a1 a2 a3 (by show _ < ((pre ++ [D.str "roll", .str p.1, .str q.1, .str a.1] ++ suf).length : Int); simp; omega)
    exact nu_all 25 o0 o1 o2 o3 o4 o5 hl a h3
theorem rd_all {M : Mem} (hl : M.length ≤ 4) : ∀ {rest done : Ms} {pre : List D}, rest ≠ [] → (∀ w ∈ done, w.ok) → (∀ w ∈ rest, w.ok) → Ot (done ++ rest) → Rd (Γn 27) (pre ++ (wsM rest).map D.str) M (done.map Mw.ds) (pre.length : Int) (rest.map Mw.ds)
  | [], _, _, h, _, _, _ => absurd rfl h
  | [w], done, pre, _, hd, hr, ho => by
    have ht : w.ht = true → ∀ x ∈ done, x.ht = false := fun h x hx => by
      have := (List.pairwise_append.mp ho).2.2 x hx w (by simp)
      cases q : x.ht
      · rfl
      · exact absurd ⟨q, h⟩ this
    have e := rd_move (w := w) (hr w (by simp)) (pre := pre) (suf := []) (M := M ++ [.lst (tpl (done.map Mw.ds))]) (i := M.length) (done := done) (by rw [at_end]; unfold tpl; rw [List.map_map]; rfl) (by simp; omega) hd ht
    rw [List.append_nil] at e
    refine Rd.last e ?_
    show (pre.length : Int) + (w.ds.length : Int) = ((pre ++ w.ds).length : Int)
    simp
  | w :: w2 :: r, done, pre, _, hd, hr, ho => by
    have ht : w.ht = true → ∀ x ∈ done, x.ht = false := fun h x hx => by
      have := (List.pairwise_append.mp ho).2.2 x hx w (by simp)
      cases q : x.ht
      · rfl
      · exact absurd ⟨q, h⟩ this
    have ews : pre ++ (wsM (w :: w2 :: r)).map D.str = pre ++ w.ds ++ (.str "then" :: (wsM (w2 :: r)).map D.str) := by
      show pre ++ ((w.words ++ (Str.ofString "then" :: flatW ((w2 :: r).map Mw.words))).map D.str) = _
      rw [List.map_append, List.append_assoc]
      rfl
    have e := rd_move (w := w) (hr w (by simp)) (pre := pre) (suf := .str "then" :: (wsM (w2 :: r)).map D.str) (M := M ++ [.lst (tpl (done.map Mw.ds))]) (i := M.length) (done := done) (by rw [at_end]; unfold tpl; rw [List.map_map]; rfl) (by simp; omega) hd ht
    have ih := rd_all hl (rest := w2 :: r) (done := done ++ [w]) (pre := pre ++ w.ds ++ [.str "then"]) (by simp) (fun x hx => by
      rcases List.mem_append.mp hx with hx | hx
      · exact hd x hx
      · rw [List.mem_singleton.mp hx]
        exact hr w (by simp)) (fun x hx => hr x (by simp [hx])) (by rw [List.append_assoc]; exact ho)
    rw [← ews] at e
    have ih2 : Rd (Γn 27) (pre ++ (wsM (w :: w2 :: r)).map D.str) M (done.map Mw.ds ++ [w.ds]) ((pre.length : Int) + (w.ds.length : Int) + 1) ((w2 :: r).map Mw.ds) := by
      rw [ews]
      have e2 : pre ++ w.ds ++ [D.str "then"] ++ (wsM (w2 :: r)).map D.str = pre ++ w.ds ++ (.str "then" :: (wsM (w2 :: r)).map D.str) := by simp
      rw [e2, List.map_append] at ih
      have e3 : ((pre ++ w.ds ++ [D.str "then"]).length : Int) = (pre.length : Int) + (w.ds.length : Int) + 1 := by
        simp
        omega
      rw [e3] at ih
      exact ih
    refine Rd.more e (by simp) ?_ ?_ ih2
    · rw [ews]
      simp
      omega
    · rw [ews]
      exact (atI_pre (pre := pre ++ w.ds) (l := [.str "then"]) (suf := (wsM (w2 :: r)).map D.str) (j := 0) rfl ▸ by simp)
/-! ### words of several moves are made -/
theorem eqv_t (w : Mw) : PyData.eqv (.tuple (w.words.map PyData.str)) (.tuple [.str "turn"]) = w.ht := by cases w <;> kernel_rfl
theorem eqv_l (w : Mw) : PyData.eqv (.list (w.words.map PyData.str)) (.list [.str "turn"]) = w.ht := by cases w <;> kernel_rfl
theorem toPs_t (M : Mem) : ∀ l : Ms, toPs M (l.map fun w => .tup w.ds) = some (l.map fun w => .tuple (w.words.map PyData.str))
  | [] => rfl
  | w :: l => by
    show (match (toPs M w.ds).map PyData.tuple, toPs M (l.map fun w => .tup w.ds) with
      | some p, some q => some (p :: q)
      | _, _ => none) = _
    rw [toPs_strs, toPs_t M l]
    rfl
theorem toPs_l (M : Mem) : ∀ l : Ms, toPs M (l.map fun w => .lst w.ds) = some (l.map fun w => .list (w.words.map PyData.str))
  | [] => rfl
  | w :: l => by
    show (match (toPs M w.ds).map PyData.list, toPs M (l.map fun w => .lst w.ds) with
      | some p, some q => some (p :: q)
      | _, _ => none) = _
    rw [toPs_strs, toPs_l M l]
    rfl
theorem lay_m {f : List PyData → PyData} (hf : ∀ l, (f l).canLay0 = PyData.canLayAll0 l) (hd : ∀ l, (f l).depth = PyData.depthAll l + 1) : ∀ l : Ms, (∀ w ∈ l, w.ok) → PyData.canLayAll0 (l.map fun w => f (w.words.map PyData.str)) = true ∧ PyData.depthAll (l.map fun w => f (w.words.map PyData.str)) ≤ 1
  | [], _ => ⟨rfl, Nat.zero_le _⟩
  | w :: l, h => by
    obtain ⟨a1, a2⟩ := lay_m hf hd l fun x hx => h x (by simp [hx])
    obtain ⟨b1, b2⟩ := lay_strs (ws := w.words) fun s hs => (w.blank (h w (by simp)) s hs).2.2
    refine ⟨?_, ?_⟩
    · show ((f (w.words.map PyData.str)).canLay0 && PyData.canLayAll0 (l.map _)) = true
      rw [hf, b1, a1]
      rfl
    · show max (f (w.words.map PyData.str)).depth (PyData.depthAll (l.map _)) ≤ 1
      rw [hd, b2]
      omega
theorem sh_tt {l : Ms} (h : ∀ w ∈ l, w.ok) : SeqAt.shaped (.tuple (l.map fun w => .tuple (w.words.map PyData.str))) = true := by
  obtain ⟨k1, k2⟩ := lay_m (f := .tuple) (fun _ => rfl) (fun _ => rfl) l h
  show (PyData.canLayAll0 _ && decide (PyData.depthAll _ + 1 ≤ 64)) = true
  rw [k1, decide_eq_true (by omega)]
  rfl
theorem sh_ll {l : Ms} (h : ∀ w ∈ l, w.ok) : SeqAt.shaped (.list (l.map fun w => .list (w.words.map PyData.str))) = true := by
  obtain ⟨k1, k2⟩ := lay_m (f := .list) (fun _ => rfl) (fun _ => rfl) l h
  show (PyData.canLayAll0 _ && decide (PyData.depthAll _ + 1 ≤ 64)) = true
  rw [k1, decide_eq_true (by omega)]
  rfl
theorem any_ht {f : List PyData → PyData} {t : PyData} (he : ∀ w : Mw, PyData.eqv (f (w.words.map PyData.str)) t = w.ht) (l : Ms) : ((l.map fun w => f (w.words.map PyData.str)).any fun z => PyData.eqv z t) = htM l := by
  unfold htM
  rw [List.any_map]
  congr 1
  funext w
  exact he w
theorem mem_t {M : Mem} {l : Ms} (h : ∀ w ∈ l, w.ok) : memD M (.tup [.str "turn"]) (.tup (l.map fun w => .tup w.ds)) = some (htM l) := by
  unfold memD
  rw [show seqOf M (.tup (l.map fun w => .tup w.ds)) = some (false, l.map fun w => .tup w.ds) from rfl]
  dsimp only
  rw [if_neg (by intro z; cases z.1), toPs_t]
  show (if SeqAt.shaped (.tuple [.str "turn"]) = true ∧ SeqAt.shaped (.tuple (l.map fun w => .tuple (w.words.map PyData.str))) = true then _ else none) = _
  rw [if_pos ⟨by decide +kernel, sh_tt h⟩]
  congr 1
  exact any_ht eqv_t l
theorem mem_l {M : Mem} {l : Ms} {d : D} (hs : seqOf M d = some (true, l.map fun w => .lst w.ds)) (h : ∀ w ∈ l, w.ok) : memD M (.lst [.str "turn"]) d = some (htM l) := by
  unfold memD
  rw [hs]
  dsimp only
  rw [if_neg (by intro z; cases z.1), toPs_l]
  show (if SeqAt.shaped (.list [.str "turn"]) = true ∧ SeqAt.shaped (.list (l.map fun w => .list (w.words.map PyData.str))) = true then _ else none) = _
  rw [if_pos ⟨by decide +kernel, sh_ll h⟩]
  congr 1
  exact any_ht eqv_l l
theorem low_map {α : Type} {f : α → D} {k : Nat} {l : List α} (h : ∀ a, lowD k (f a) = true) : lowDs k (l.map f) = true := low_of fun d hd => by
  obtain ⟨a, _, rfl⟩ := List.mem_map.mp hd
  exact h a
theorem nD_lowk (a : Option Int) (k : Nat) : lowD k (nD a) = true := by cases a <;> rfl
theorem pt_lowk (w : Mw) (k : Nat) : lowDs k w.pt = true := by
  cases w with
  | turn => rfl
  | exch p q => rfl
  | roll p q a =>
    show (true && (true && (true && (lowD k (nD a.2) && true)))) = true
    rw [nD_lowk]
    rfl
theorem wDm_low (ms : Ms) (k : Nat) : lowD k (wDm ms) = true := by
  show (true && (lowDs k (ms.map fun w => .tup w.ds) && (true && (lowDs k (ms.map fun w => .tup w.pt) && true)))) = true
  rw [low_map (f := fun w : Mw => D.tup w.ds) (fun w => ds_low w k), low_map (f := fun w : Mw => D.tup w.pt) (fun w => pt_lowk w k)]
  rfl
theorem parts_ok {w : Mw} (h : w.ok) {M : Mem} (hl : M.length ≤ 5) : (Γn 28).cs.f "parts_of" [.tup w.ds] M = .ok (.tup w.pt) M := by
  rw [show (Γn 28).cs.f "parts_of" = callF (Γn 27) partsF from cal (by kernel_rfl)]
  have hp : (Γn 27).cs.f "place_parts" = callF (Γn 26) d_place_parts := cal (by kernel_rfl)
  have hn : (Γn 27).cs.f "number_of" = callF (Γn 26) d_number_of := cal (by kernel_rfl)
  cases w with
  | turn => exact parts_turn
  | exch p q =>
    obtain ⟨h1, h2⟩ := h
    exact parts_exch (by rw [hp]; exact pp_ok 26 hl p h1) (by rw [hp]; exact pp_ok 26 hl q h2)
  | roll p q a =>
    obtain ⟨h1, h2, h3⟩ := h
    exact parts_roll (by rw [hp]; exact pp_ok 26 hl p h1) (by rw [hp]; exact pp_ok 26 hl q h2) (by rw [hn]; exact num_all 26 hl a h3) (nD_low _)
theorem madeM {ms : Ms} (g : Gm ms) {M : Mem} (hl : M.length ≤ 3) (hM : ∀ k, M.all (lowM k) = true) : mkI false M.length ((Γn 29).cs.f (mkey "Word" "__init__") [.ref M.length, .str (txM ms)] (M ++ [.ins "Word" [] []])) = .ok (wDm ms) M := by
  have hs : sizeLine = 16777216 := sizeLine_eq
  have hM2 : (M ++ [MO.ins "Word" [] []]).all (lowM (M ++ [MO.ins "Word" [] []]).length) = true := by
    rw [List.all_append, hM]
    rfl
  have el : tpl (ms.map Mw.ds) = ms.map fun w => .tup w.ds := by
    unfold tpl
    rw [List.map_map]
    rfl
  have rd : Rd (Γn 27) ((wsM ms).map D.str) (M ++ [.ins "Word" [] []]) [] 0 (ms.map Mw.ds) := rd_all (by simp; omega) (done := []) (pre := []) g.ne (fun _ h => by cases h) g.ok g.ot
  have rr : (Γn 28).cs.f "read_moves" [.lst ((wsM ms).map D.str), .int 0] (M ++ [.ins "Word" [] []]) = .ok (.tup [.tup (ms.map fun w => .tup w.ds), .int ((wsM ms).length : Int)]) (M ++ [.ins "Word" [] []]) := by
    rw [show (Γn 28).cs.f "read_moves" = callF (Γn 27) readMovesF from cal (by kernel_rfl)]
    have := read_many rd (by rw [List.length_map]; exact g.few) hM2 (by rw [el]; exact low_map fun w => ds_low w 0) (by kernel_rfl)
    rw [el, List.length_map] at this
    exact this
  have key := initM_ok (Γ := Γn 28) (M := M) (text := txM ms) (words := wsM ms) (MV := ms.map fun w => .tup w.ds) (PT := ms.map fun w => .tup w.pt) (ht := htM ms) (L := (wsM ms).length) (split_join (wsM_ne g.ne) fun s hs => (blankM g.ok s hs).1) (by have := txM_len g; omega) rfl (by decide +kernel) rr (mem_t g.ok)
    (by rw [List.length_map]; have := g.few; omega) (fun W => by
      have q := lcGo_list (Γ := Γn 28) (M := M ++ [.ins "Word" ["text", "moves", "has_turn"] [.str (txM ms), .tup (ms.map fun w => .tup w.ds), .bl (htM ms)]]) (e := .call "parts_of" (.cons (.var 5) .nil)) (r := [some (.ref M.length), some (.str (txM ms)), some (.lst W), some (.tup (ms.map fun w => .tup w.ds)), some (.int ((wsM ms).length : Int)), none]) (i := 5) (fun w : Mw => D.tup w.ds) (fun w => .tup w.pt) ms [] (fun w hw => by
        have p1 := parts_ok (g.ok w hw) (M := M ++ [.ins "Word" ["text", "moves", "has_turn"] [.str (txM ms), .tup (ms.map fun w => .tup w.ds), .bl (htM ms)]]) (by simp; omega)
        simp only [List.set_cons_succ, List.set_cons_zero]
        generalize M ++ [MO.ins "Word" ["text", "moves", "has_turn"] [.str (txM ms), .tup (ms.map fun w => .tup w.ds), .bl (htM ms)]] = Mx at *
        generalize txM ms = T at *
        generalize (ms.map fun w => D.tup w.ds) = Q at *
        generalize w.ds = Wd at *
        clear rr rd el hM hM2 hl hs
        walk_at "ev")
      rw [List.nil_append] at q
      exact q)
  rw [show (Γn 29).cs.f (mkey "Word" "__init__") = callF (Γn 28) initF from cal (by kernel_rfl), key]
  refine mkI_ok ?_ (hM _)
  have := wDm_low ms 0
  exact this
/-! ### at a size -/
section
variable {n : Nat} {M : Mem}
abbrev fW (n : Nat) (w : Mw) : Nat → Int := (w.mo n).f n
theorem mv_ok {w : Mw} (h : w.ok) (hn : n ≤ 1000) (hl : Ln M) (hM : M.all (lowM M.length) = true) : (Γn 28).cs.f "move_at" [.tup w.ds, .int (n : Int)] M = .ok (.lst (rowD n (fW n w))) M := by
  rw [show (Γn 28).cs.f "move_at" = callF (Γn 27) moveF from cal (by kernel_rfl)]
  have hv : (Γn 27).cs.f "value_at" = callF (Γn 26) d_value_at := cal (by kernel_rfl)
  cases w with
  | turn => exact move_turn hn
  | exch p q =>
    obtain ⟨h1, h2⟩ := h
    exact move_exch (Γe := Γn 26) hn hM (cal (by kernel_rfl)) (by rw [hv]; exact va_ok 25 n hl p h1) (by rw [hv]; exact va_ok 25 n hl q h2)
  | roll p q a =>
    obtain ⟨h1, h2, h3⟩ := h
    exact move_roll (Γr := Γn 26) hn hM (cal (by kernel_rfl)) (by rw [hv]; exact va_ok 25 n hl p h1) (by rw [hv]; exact va_ok 25 n hl q h2) fun m o0 o1 o3 o4 M' => List.map_inj_left.mp (by_all 26 m o0 o1 o3 o4 M') a h3
theorem atM {ms : Ms} (h : ∀ w ∈ ms, w.ok) (h1 : 1 ≤ n) (hn : n ≤ 1000) (hl : Ln M) (hM : M.all (lowM M.length) = true) : (Γn 29).cs.f (mkey "Word" "at") [wDm ms, .int (n : Int)] M = .ok (.lst (rowD n (led (fW n) idI ms))) M := by
  rw [show (Γn 29).cs.f (mkey "Word" "at") = callF (Γn 28) wAtG from cal (by kernel_rfl)]
  exact wat_many (Γ1 := Γn 27) (Γ2 := Γn 27) (Γ3 := Γn 26) (Γ4 := Γn 25) Mw.ds (fW n) (cal (by kernel_rfl)) (cal (by kernel_rfl)) (cal (by kernel_rfl)) (cal (by kernel_rfl)) (by kernel_rfl) (by decide +kernel) h1 hn (fun w _ => Mo.perm n _) hM fun w hw => mv_ok (h w hw) hn hl hM
end
theorem txM_ok {ms : Ms} (h : ∀ w ∈ ms, w.ok) : PyData.strOk (txM ms) = true := join_ok _ fun s hs => (blankM h s hs).2.2
theorem eqD_str {M : Mem} {a b : Str} (ha : PyData.strOk a = true) (hb : PyData.strOk b = true) : eqD M (.str a) (.str b) = some (a == b) := by
  unfold eqD
  show (if SeqAt.shaped (.str a) = true ∧ SeqAt.shaped (.str b) = true then some (PyData.eqv (.str a) (.str b)) else none) = _
  rw [if_pos ⟨by show (PyData.strOk a && decide (0 ≤ 64)) = true; rw [ha]; rfl, by show (PyData.strOk b && decide (0 ≤ 64)) = true; rw [hb]; rfl⟩]
  rfl
theorem tail_len (w w2 : Mw) (r : Ms) : (txM (w2 :: r)).length < (txM (w :: w2 :: r)).length := by
  rw [← txM_eq (ms := w :: w2 :: r), ← txM_eq (ms := w2 :: r), TL.join_eq, TL.join_eq]
  show _ < (w.text ++ " then " ++ Str.join " then " ((w2 :: r).map Mw.text)).length
  rw [Str.length_append, Str.length_append]
  have : (Str.ofString " then ").length = 6 := by decide +kernel
  omega
/-! ### the pen -/
def One (J : Mem) (M : Mem) (c : Int) : Prop := ∃ (ns : List Int) (a l : Int), M = pen (ns.map D.int) a l :: J ∧ 0 ≤ a ∧ a ≤ c
variable {J : Mem}
theorem One.at0 {M : Mem} {c : Int} (h : One J M c) : PenAt M 0 c := by
  obtain ⟨ns, a, l, rfl, h0, h1⟩ := h
  exact ⟨ns, a, l, rfl, h0, h1⟩
theorem One.next {M M' : Mem} {c c' : Int} (h : One J M c) (hd : Drawn M 0 M') (hp : PenAt M' 0 c') : One J M' c' := by
  obtain ⟨ns, a, l, rfl, _⟩ := h
  obtain ⟨ns2, a2, l2, rfl⟩ := hd
  obtain ⟨ns3, a3, l3, e, h0, h1⟩ := hp
  have e : pen (ns2.map D.int) a2 l2 = pen (ns3.map D.int) a3 l3 := Option.some.inj e
  exact ⟨ns3, a3, l3, by rw [← e]; rfl, h0, h1⟩
theorem One.mono {M : Mem} {c c' : Int} (h : One J M c) (l : c ≤ c') : One J M c' := by
  obtain ⟨ns, a, l, e, h0, h1⟩ := h
  exact ⟨ns, a, l, e, h0, by omega⟩
theorem One.len {M : Mem} {c : Int} (h : One J M c) : M.length = J.length + 1 := by
  obtain ⟨ns, a, l, rfl, _⟩ := h
  rfl
def pwB : SSs := match b__law_place_word with
  | .cons _ r => r
  | r => r
def amB : SSs := match b__law_amount with
  | .cons _ r => r
  | r => r
theorem pw_eq (M : Mem) : (List.range 38).map (fun (j : Nat) => evSs (Γn 27) pwB [some (.ref 0), some (.int (j : Int))] M) = (List.range 38).map fun j => .rt (.str (pwt.getD j ("", "", 0)).1) M := by kernel_rfl
theorem am_eq (M : Mem) : (List.range 20).map (fun (j : Nat) => evSs (Γn 27) amB [some (.ref 0), some (.int (j : Int))] M) = (List.range 20).map fun j => .rt (.str (amt.getD j ("", none)).1) M := by kernel_rfl
theorem c_draw27 : (Γn 27).cs.f "_law_draw" = callF (Γn 26) drawF := cal (by kernel_rfl)
theorem c_draw28 : (Γn 28).cs.f "_law_draw" = callF (Γn 27) drawF := cal (by kernel_rfl)
theorem c_draw29 : (Γn 29).cs.f "_law_draw" = callF (Γn 28) drawF := cal (by kernel_rfl)
theorem c_draw30 : (Γn 30).cs.f "_law_draw" = callF (Γn 29) drawF := cal (by kernel_rfl)
theorem c_pick28 : (Γn 28).cs.f "_law_pick" = callF (Γn 27) pickF := cal (by kernel_rfl)
theorem pword {M : Mem} {c : Int} (h : One J M c) (hc : c < 2 ^ 30) : ∃ p M', (Γn 28).cs.f "_law_place_word" [.ref 0] M = .ok (.str p.1) M' ∧ p ∈ pwt ∧ One J M' (c + 1) := by
  obtain ⟨z, M1, e1, z0, z1, hp, hd⟩ := draw_call c_draw27 h.at0 (by omega) (many := 38) (by decide) (by decide)
  have h1 := h.next hd hp
  obtain ⟨j, rfl⟩ : ∃ j : Nat, z = (j : Int) := ⟨z.toNat, by omega⟩
  have hj : j < 38 := by omega
  have e2 : evSs (Γn 27) pwB [some (.ref 0), some (.int (j : Int))] M1 = .rt (.str (pwt.getD j ("", "", 0)).1) M1 := by
    exact List.map_inj_left.mp (pw_eq M1) j (List.mem_range.mpr hj)
  refine ⟨pwt.getD j ("", "", 0), M1, ?_, ?_, h1⟩
  · rw [show (Γn 28).cs.f "_law_place_word" = callF (Γn 27) d__law_place_word from cal (by kernel_rfl)]
    refine callF_eq (fd := d__law_place_word) rfl rfl ?_ hd.len rfl
    have eb : d__law_place_word.body = .cons (.set 1 (.call "_law_draw" (.cons (.var 0) (.cons (.int 38) .nil)))) pwB := rfl
    have es : startD d__law_place_word.N [.ref 0] = [some (.ref 0), none] := rfl
    rw [eb, es]
    clear eb es hp hd h1 h z0 z1 hj
    walk_at "ev"
  · have : pwt.length = 38 := rfl
    rw [List.getD_eq_getElem?_getD, List.getElem?_eq_getElem (by omega)]
    exact List.getElem_mem (by omega)
theorem amount {M : Mem} {c : Int} (h : One J M c) (hc : c < 2 ^ 30) : ∃ p M', (Γn 28).cs.f "_law_amount" [.ref 0] M = .ok (.str p.1) M' ∧ p ∈ amt ∧ One J M' (c + 1) := by
  obtain ⟨z, M1, e1, z0, z1, hp, hd⟩ := draw_call c_draw27 h.at0 (by omega) (many := 20) (by decide) (by decide)
  have h1 := h.next hd hp
  obtain ⟨j, rfl⟩ : ∃ j : Nat, z = (j : Int) := ⟨z.toNat, by omega⟩
  have hj : j < 20 := by omega
  have e2 : evSs (Γn 27) amB [some (.ref 0), some (.int (j : Int))] M1 = .rt (.str (amt.getD j ("", none)).1) M1 := by
    exact List.map_inj_left.mp (am_eq M1) j (List.mem_range.mpr hj)
  refine ⟨amt.getD j ("", none), M1, ?_, ?_, h1⟩
  · rw [show (Γn 28).cs.f "_law_amount" = callF (Γn 27) d__law_amount from cal (by kernel_rfl)]
    refine callF_eq (fd := d__law_amount) rfl rfl ?_ hd.len rfl
    have eb : d__law_amount.body = .cons (.set 1 (.call "_law_draw" (.cons (.var 0) (.cons (.int 20) .nil)))) amB := rfl
    have es : startD d__law_amount.N [.ref 0] = [some (.ref 0), none] := rfl
    rw [eb, es]
    clear eb es hp hd h1 h z0 z1 hj
    walk_at "ev"
  · have : amt.length = 20 := rfl
    rw [List.getD_eq_getElem?_getD, List.getElem?_eq_getElem (by omega)]
    exact List.getElem_mem (by omega)
/-! ### a move is drawn -/
def mvS (i : Nat) : SS := sAt b__law_move i
theorem pick_in {d : D} (h : d ∈ ([.str "0", .str "1", .str "2"] : List D) ∨ d ∈ ([.str "-1", .str "-2", .str "half"] : List D)) : ∃ p ∈ pwt, d = .str p.1 := by
  have key : ∀ s ∈ ([Str.ofString "0", Str.ofString "1", Str.ofString "2", Str.ofString "-1", Str.ofString "-2", Str.ofString "half"] : List Str), ∃ p ∈ pwt, p.1 = s := by decide +kernel
  simp only [List.mem_cons, List.not_mem_nil, or_false] at h
  have fin : ∀ s : Str, (∃ p ∈ pwt, p.1 = s) → ∃ p ∈ pwt, D.str s = .str p.1 := fun s ⟨p, hp, e⟩ => ⟨p, hp, by rw [e]⟩
  rcases h with (rfl | rfl | rfl) | (rfl | rfl | rfl)
  · exact fin _ (key (Str.ofString "0") (by simp))
  · exact fin _ (key (Str.ofString "1") (by simp))
  · exact fin _ (key (Str.ofString "2") (by simp))
  · exact fin _ (key (Str.ofString "-1") (by simp))
  · exact fin _ (key (Str.ofString "-2") (by simp))
  · exact fin _ (key (Str.ofString "half") (by simp))
theorem xy {M : Mem} {c : Int} (h : One J M c) (hc : c < 2 ^ 29) {rest : SSs} {z : Int} {b : Bool} : ∃ p q M', evSs (Γn 28) (.cons (mvS 2) (.cons (mvS 3) rest)) [some (.ref 0), some (.bl b), some (.int z), none, none] M = evSs (Γn 28) rest [some (.ref 0), some (.bl b), some (.int z), some (.str p.1), some (.str q.1)] M' ∧ p ∈ pwt ∧ q ∈ pwt ∧ One J M' (c + 5) := by
  obtain ⟨p, M1, e1, hp, h1⟩ := pword h (by omega)
  obtain ⟨q, M2, e2, hq, h2⟩ := pword h1 (by omega)
  obtain ⟨d, M3, e3, d0, d1, p3, x3⟩ := draw_call c_draw28 h2.at0 (by omega) (many := 3) (by decide) (by decide)
  have h3 := h2.next x3 p3
  have s1 : evS (Γn 28) (mvS 2) [some (.ref 0), some (.bl b), some (.int z), none, none] M = .nx [some (.ref 0), some (.bl b), some (.int z), some (.str p.1), some (.str q.1)] M2 := by
    show evS (Γn 28) (.par [3, 4] (.cons (.call "_law_place_word" (.cons (.var 0) .nil)) (.cons (.call "_law_place_word" (.cons (.var 0) .nil)) .nil))) _ _ = _
    clear hp hq h h1 h2 h3 hc e3 p3 x3 d0 d1
    walk_at "ev"
  rw [st_of s1]
  by_cases hd : d = 0
  · subst hd
    obtain ⟨x, M4, e4, hx, p4, x4⟩ := pick_call c_pick28 c_draw27 h3.at0 (by omega) (ds := [.str "0", .str "1", .str "2"]) (by simp) (by simp) rfl
    have h4 := h3.next x4 p4
    obtain ⟨y, M5, e5, hy, p5, x5⟩ := pick_call c_pick28 c_draw27 h4.at0 (by omega) (ds := [.str "-1", .str "-2", .str "half"]) (by simp) (by simp) rfl
    have h5 := h4.next x5 p5
    obtain ⟨p', hp', rfl⟩ := pick_in (.inl hx)
    obtain ⟨q', hq', rfl⟩ := pick_in (.inr hy)
    refine ⟨p', q', M5, ?_, hp', hq', h5.mono (by omega)⟩
    have z3 : 0 + 1 + 1 + 1 ≤ sizeLine := by decide
    have ez : eqD M3 (.int 0) (.int 0) = some true := by rw [MX.eq_int]; rfl
    have s2 : evS (Γn 28) (mvS 3) [some (.ref 0), some (.bl b), some (.int z), some (.str p.1), some (.str q.1)] M2 = .nx [some (.ref 0), some (.bl b), some (.int z), some (.str p'.1), some (.str q'.1)] M5 := by
      show evS (Γn 28) (.ife (.val (.cmp .eq (.call "_law_draw" (.cons (.var 0) (.cons (.int 3) .nil))) (.int 0))) (.cons (.par [3, 4] (.cons (.call "_law_pick" (.cons (.var 0) (.cons (.lst false (.cons (.str "0") (.cons (.str "1") (.cons (.str "2") .nil)))) .nil))) (.cons (.call "_law_pick" (.cons (.var 0) (.cons (.lst false (.cons (.str "-1") (.cons (.str "-2") (.cons (.str "half") .nil)))) .nil))) .nil))) .nil) .nil) _ _ = _
      clear hp hq h h1 h2 h3 h4 h5 hc p3 x3 p4 x4 p5 x5 d0 d1 hx hy hp' hq' s1 e1 e2
      walk_at "ev"
    rw [st_of s2]
  · refine ⟨p, q, M3, ?_, hp, hq, h3.mono (by omega)⟩
    have ez : eqD M3 (.int d) (.int 0) = some false := by rw [MX.eq_int, decide_eq_false hd]
    have s2 : evS (Γn 28) (mvS 3) [some (.ref 0), some (.bl b), some (.int z), some (.str p.1), some (.str q.1)] M2 = .nx [some (.ref 0), some (.bl b), some (.int z), some (.str p.1), some (.str q.1)] M3 := by
      show evS (Γn 28) (.ife (.val (.cmp .eq (.call "_law_draw" (.cons (.var 0) (.cons (.int 3) .nil))) (.int 0))) _ .nil) _ _ = _
      clear hp hq h h1 h2 h3 hc p3 x3 d0 d1 s1 e1 e2 hd
      walk_at "ev"
    rw [st_of s2]
theorem lmove {M : Mem} {c : Int} (h : One J M c) (hc : c < 2 ^ 28) (b : Bool) : ∃ (w : Mw) (M' : Mem), (Γn 29).cs.f "_law_move" [.ref 0, .bl b] M = .ok (.lst w.ds) M' ∧ w.ok ∧ (b = true → w.ht = false) ∧ One J M' (c + 8) := by
  obtain ⟨d, M1, e1, d0, d1, p1, x1⟩ := draw_call c_draw28 h.at0 (by omega) (many := if b = true then 7 else 8) (by cases b <;> decide) (by cases b <;> decide)
  have h1 := h.next x1 p1
  have hl := h.len
  have s0 : evE (Γn 28) (.call "_law_draw" (.cons (.var 0) (.cons (.ife (.tru (.var 1)) (.int 7) (.int 8)) .nil))) [some (.ref 0), some (.bl b), none, none, none] M = .ok (.int d) M1 := by
    clear h h1 hc p1 x1 d0 d1 hl
    cases b with
    | true =>
      rw [if_pos rfl] at e1
      walk_at "ev"
    | false =>
      rw [if_neg (by decide)] at e1
      walk_at "ev"
  have go : ∀ (w : Mw) (M' : Mem), w.ok → (b = true → w.ht = false) → One J M' (c + 8) → evSs (Γn 28) b__law_move [some (.ref 0), some (.bl b), none, none, none] M = .rt (.lst w.ds) M' → ∃ (w : Mw) (M' : Mem), (Γn 29).cs.f "_law_move" [.ref 0, .bl b] M = .ok (.lst w.ds) M' ∧ w.ok ∧ (b = true → w.ht = false) ∧ One J M' (c + 8) := fun w M' hw hb h' e => by
    refine ⟨w, M', ?_, hw, hb, h'⟩
    rw [show (Γn 29).cs.f "_law_move" = callF (Γn 28) d__law_move from cal (by kernel_rfl)]
    exact callF_eq (fd := d__law_move) rfl rfl e (by rw [h'.len, hl]) (ds_low w 0)
  have eb : b__law_move = .cons (.set 2 (.call "_law_draw" (.cons (.var 0) (.cons (.ife (.tru (.var 1)) (.int 7) (.int 8)) .nil)))) (.cons (mvS 1) (.cons (mvS 2) (.cons (mvS 3) (.cons (mvS 4) .nil)))) := rfl
  by_cases hd : d = 7
  · subst hd
    refine go .turn M1 trivial (fun hb => by subst hb; simp at d1) (h1.mono (by omega)) ?_
    rw [eb, set_of s0]
    simp only [List.set_cons_succ, List.set_cons_zero]
    rw [show evSs (Γn 28) (.cons (mvS 1) _) [some (.ref 0), some (.bl b), some (.int 7), none, none] M1 = _ from ife_t (M' := M1) (by kernel_rfl)]
    kernel_rfl
  · have t1 : evT (Γn 28) (.val (.cmp .eq (.var 2) (.int 7))) [some (.ref 0), some (.bl b), some (.int d), none, none] M1 = .ok false M1 := by
      have ez : eqD M1 (.int d) (.int 7) = some false := by rw [MX.eq_int, decide_eq_false hd]
      clear hd go s0 h h1 hc p1 x1 d0 d1 hl eb e1
      walk_at "ev"
    obtain ⟨p, q, M2, e2, hp, hq, h2⟩ := xy h1 (by omega) (rest := .cons (mvS 4) .nil) (z := d) (b := b)
    have pre : evSs (Γn 28) b__law_move [some (.ref 0), some (.bl b), none, none, none] M = evSs (Γn 28) (.cons (mvS 4) .nil) [some (.ref 0), some (.bl b), some (.int d), some (.str p.1), some (.str q.1)] M2 := by
      rw [eb, set_of s0]
      simp only [List.set_cons_succ, List.set_cons_zero]
      rw [show evSs (Γn 28) (.cons (mvS 1) _) [some (.ref 0), some (.bl b), some (.int d), none, none] M1 = _ from ife_f t1, e2]
    by_cases h3 : d < 3
    · refine go (.exch p q) M2 ⟨hp, hq⟩ (fun _ => rfl) (h2.mono (by omega)) ?_
      rw [pre]
      have z3 : 0 + 1 + 1 + 1 ≤ sizeLine := by decide
      show evSs (Γn 28) (.cons (.ret (.ife (.val (.cmp .lt (.var 2) (.int 3))) (.lst false (.cons (.str "exchange") (.cons (.var 3) (.cons (.var 4) .nil)))) (.lst false (.cons (.str "roll") (.cons (.var 3) (.cons (.var 4) (.cons (.call "_law_amount" (.cons (.var 0) .nil)) .nil))))))) .nil) _ _ = .rt (.lst [.str "exchange", .str p.1, .str q.1]) M2
      clear pre go s0 h h1 h2 hc p1 x1 d0 d1 hl eb e1 e2 hd t1 hp hq
      walk_at "ev"
    · obtain ⟨a, M3, e3, ha, h3'⟩ := amount h2 (by omega)
      refine go (.roll p q a) M3 ⟨hp, hq, ha⟩ (fun _ => rfl) (h3'.mono (by omega)) ?_
      rw [pre]
      have z3 : 0 + 1 + 1 + 1 + 1 ≤ sizeLine := by decide
      show evSs (Γn 28) (.cons (.ret (.ife (.val (.cmp .lt (.var 2) (.int 3))) (.lst false (.cons (.str "exchange") (.cons (.var 3) (.cons (.var 4) .nil)))) (.lst false (.cons (.str "roll") (.cons (.var 3) (.cons (.var 4) (.cons (.call "_law_amount" (.cons (.var 0) .nil)) .nil))))))) .nil) _ _ = .rt (.lst [.str "roll", .str p.1, .str q.1, .str a.1]) M3
      clear pre go s0 h h1 h2 h3' hc p1 x1 d0 d1 hl eb e1 e2 hd t1 hp hq ha
      walk_at "ev"
/-! ### several moves are drawn -/
def mvsB : SSs := bodyF (sAt b__law_moves 1)
theorem lmoves {M : Mem} {c : Int} (h : One [] M c) (hc : c < 2 ^ 27) : ∃ (ms : Ms) (M' : Mem), (Γn 30).cs.f "_law_moves" [.ref 0] M = .ok (.lst (ms.map fun w => .lst w.ds)) M' ∧ Gm ms ∧ One [] M' (c + 40) := by
  have hz : sizeLine = 16777216 := sizeLine_eq
  obtain ⟨n1, a1, l1, rfl, ha, hb⟩ := h
  have h0 : One [.lst []] [pen (n1.map D.int) a1 l1, .lst []] c := ⟨n1, a1, l1, rfl, ha, hb⟩
  obtain ⟨d, M1, e1, d0, d1, p1, x1⟩ := draw_call c_draw29 h0.at0 (by omega) (many := 4) (by decide) (by decide)
  have h1 := h0.next x1 p1
  obtain ⟨j, hj⟩ : ∃ j : Nat, 1 + d = (j : Int) := ⟨(1 + d).toNat, by omega⟩
  have hj1 : 1 ≤ j ∧ j ≤ 4 := by omega
  obtain ⟨n2, a2, l2, rfl, ha2, hb2⟩ := h1
  obtain ⟨r', M', lp, ⟨o2, er⟩, ms, c', eM, hok, hlen, hot, hcc⟩ := forGo_ind (step := stepF (Γn 29) (.nm 2) mvsB) (fun k r M => (∃ o2, r = [some (.ref 0), some (.ref 1), o2]) ∧ ∃ (ms : Ms) (c' : Int), One [.lst (ms.map fun w => .lst w.ds)] M c' ∧ (∀ w ∈ ms, w.ok) ∧ ms.length = k ∧ Ot ms ∧ c' = c + 1 + 8 * (k : Int)) (rowD j idI) 0
    (r := [some (.ref 0), some (.ref 1), none]) (M := [pen (n2.map D.int) a2 l2, .lst []]) ⟨⟨none, rfl⟩, [], c + 1, ⟨n2, a2, l2, rfl, ha2, hb2⟩, (fun _ h => by cases h), rfl, List.Pairwise.nil, by simp⟩ (fun k dd r M hk ⟨⟨o2, er⟩, ms, c', hM, hok, hlen, hot, hcc⟩ => by
      have hk' : k < j := by
        have := (List.getElem?_eq_some_iff.mp hk).1
        rw [row_len] at this
        exact this
      subst er
      rw [Nat.zero_add] at *
      obtain ⟨w, M3, e3, hw, hbt, h3⟩ := lmove hM (by omega) (htM ms)
      obtain ⟨n3, a3, l3, rfl, ha3, hb3⟩ := h3
      obtain ⟨n4, a4, l4, rfl, ha4, hb4⟩ := hM
      refine ⟨[some (.ref 0), some (.ref 1), some dd], [pen (n3.map D.int) a3 l3, .lst ((ms ++ [w]).map fun w => .lst w.ds)], .inl ?_, ⟨some dd, rfl⟩, ms ++ [w], c' + 8, ⟨n3, a3, l3, rfl, ha3, hb3⟩, fun x hx => ?_, by simp [hlen], ?_, by omega⟩
      · have mm : memD [pen (n4.map D.int) a4 l4, .lst (ms.map fun w => .lst w.ds)] (.lst [.str "turn"]) (.ref 1) = some (htM ms) := mem_l rfl hok
        have ty : tyD [pen (n4.map D.int) a4 l4, .lst (ms.map fun w => .lst w.ds)] .append (.ref 1) = true := rfl
        have ap : methD [pen (n3.map D.int) a3 l3, .lst (ms.map fun w => .lst w.ds)] .append (.ref 1) [.lst w.ds] = .ok .non [pen (n3.map D.int) a3 l3, .lst ((ms ++ [w]).map fun w => .lst w.ds)] := by
          show opt (if (ms.map fun w => D.lst w.ds).length < sizeLine then some ((ms.map fun w => D.lst w.ds) ++ [.lst w.ds], D.non) else none) (fun p => .ok p.2 ([pen (n3.map D.int) a3 l3, .lst (ms.map fun w => .lst w.ds)].set 1 (.lst p.1))) = _
          rw [if_pos (by rw [List.length_map]; omega), List.map_append]
          rfl
        have z1 : 0 + 1 ≤ sizeLine := by decide
        rw [k_step]
        simp only [List.set_cons_succ, List.set_cons_zero]
        show evSs (Γn 29) (.cons (.ex (.meth .append (.var 1) (.cons (.call "_law_move" (.cons (.var 0) (.cons (.cmp .in_ (.lst false (.cons (.str "turn") .nil)) (.var 1)) .nil))) .nil))) .nil) _ _ = _
        generalize [pen (n4.map D.int) a4 l4, MO.lst (ms.map fun w => .lst w.ds)] = Ma at *
        generalize [pen (n3.map D.int) a3 l3, MO.lst (ms.map fun w => .lst w.ds)] = Mb at *
        generalize [pen (n3.map D.int) a3 l3, MO.lst ((ms ++ [w]).map fun w => .lst w.ds)] = Mc at *
        generalize w.ds = Wd at *
        generalize htM ms = B at *
        clear hz hok hlen hot hcc hw hbt hk hk' e1 p1 x1 h0 hj
        walk_at "ev"
      · rcases List.mem_append.mp hx with hx | hx
        · exact hok x hx
        · rw [List.mem_singleton.mp hx]
          exact hw
      · refine List.pairwise_append.mpr ⟨hot, List.pairwise_singleton .., fun a ha b hb hab => ?_⟩
        rw [List.mem_singleton.mp hb] at hab
        have : htM ms = true := List.any_eq_true.mpr ⟨a, ha, hab.1⟩
        have := hbt this
        rw [this] at hab
        cases hab.2)
  subst er
  rw [row_len, Nat.zero_add] at *
  obtain ⟨n5, a5, l5, rfl, ha5, hb5⟩ := eM
  refine ⟨ms, [pen (n5.map D.int) a5 l5], ?_, ⟨hok, fun z => by rw [z] at hlen; simp at hlen; omega, by omega, hot⟩, ⟨n5, a5, l5, rfl, ha5, by omega⟩⟩
  rw [show (Γn 30).cs.f "_law_moves" = callF (Γn 29) d__law_moves from cal (by kernel_rfl), callF_run (by rfl)]
  have r0 : rngOk 0 (j : Int) = true := rngOk_s (by omega) (by omega) (by omega) (by omega)
  have hi : evI (Γn 29) (.rng1 (.bin false .add (.int 1) (.call "_law_draw" (.cons (.var 0) (.cons (.int 4) .nil))))) [some (.ref 0), some (.ref 1), none] [pen (n1.map D.int) a1 l1, .lst []] = .ok (.vals (rowD j idI)) [pen (n2.map D.int) a2 l2, .lst []] := by
    have h3 : evE (Γn 29) (.bin false .add (.int 1) (.call "_law_draw" (.cons (.var 0) (.cons (.int 4) .nil)))) [some (.ref 0), some (.ref 1), none] [pen (n1.map D.int) a1 l1, .lst []] = .ok (.int (j : Int)) [pen (n2.map D.int) a2 l2, .lst []] := by
      rw [← hj]
      generalize [pen (n1.map D.int) a1 l1, MO.lst []] = Ma at *
      generalize [pen (n2.map D.int) a2 l2, MO.lst []] = Mb at *
      clear hj lp r0 hok hlen hot hcc p1 x1 h0 hj1
      walk_at "ev"
    rw [i_r1, h3, rb_ok, k_r1, if_pos r0, Int.toNat_natCast, rng_row]
  have key : evSs (Γn 29) d__law_moves.body (startD d__law_moves.N [.ref 0]) [pen (n1.map D.int) a1 l1] = .rt (.ref 1) ([pen (n5.map D.int) a5 l5] ++ [.lst (ms.map fun w => .lst w.ds)]) := by
    show evSs (Γn 29) (.cons (.set 1 (.lst true .nil)) (.cons (.for_ (.nm 2) (.rng1 (.bin false .add (.int 1) (.call "_law_draw" (.cons (.var 0) (.cons (.int 4) .nil))))) mvsB) (.cons (.ret (.var 1)) .nil))) [some (.ref 0), none, none] [pen (n1.map D.int) a1 l1] = _
    rw [set_of (d := .ref 1) (M' := [pen (n1.map D.int) a1 l1, .lst []]) (by kernel_rfl)]
    simp only [List.set_cons_succ, List.set_cons_zero]
    rw [MX.ss_cons, s_for', hi, rg_ok, k_for, lp, sg_nx]
    rfl
  rw [key]
  refine (fin_lst (M := [pen (n5.map D.int) a5 l5]) (low_map (f := fun w : Mw => D.lst w.ds) fun w => ds_low w 0) ?_ : finE false 1 _ = _)
  show (lowM 1 (pen (n5.map D.int) a5 l5) && true) = true
  rw [pen_low]
  rfl
/-! ### a text of moves -/
theorem strs_of : ∀ ws : List Str, strsD (ws.map D.str) = some ws
  | [] => rfl
  | n :: r => by
    show (strsD (r.map D.str)).map (n :: ·) = _
    rw [strs_of r]
    rfl
theorem sum_le (b : Nat) : ∀ ws : List Str, (∀ s ∈ ws, s.length ≤ b) → (ws.map (·.length)).sum ≤ b * ws.length
  | [], _ => Nat.zero_le _
  | a :: r, h => by
    have h1 := h a (by simp)
    have h2 := sum_le b r fun s hs => h s (by simp [hs])
    simp only [List.map_cons, List.sum_cons, List.length_cons, Nat.mul_add]
    omega
theorem join_ds {w : Mw} (h : w.ok) (M : Mem) : methD M .join (.str " ") [.lst w.ds] = .ok (.str w.text) M := by
  show opt (strsD w.ds) (fun zs => if (zs.map (·.length)).sum + zs.length * (Str.ofString " ").length ≤ 16777216 then .ok (.str (Txt.join " " zs)) M else .bad) = _
  rw [strs_of, opt_s]
  have h1 := sum_le 8 w.words fun s hs => (w.blank h s hs).2.1
  have h2 := w.few
  have h3 : (Str.ofString " ").length = 1 := by decide +kernel
  rw [h3, if_pos (by omega)]
theorem text_ok {ms : Ms} (h : ∀ w ∈ ms, w.ok) (hf : ms.length ≤ 4) (M : Mem) : (Γn 30).cs.f "_law_word_text" [.lst (ms.map fun w => .lst w.ds)] M = .ok (.str (txM ms)) M := by
  rw [show (Γn 30).cs.f "_law_word_text" = callF (Γn 29) d__law_word_text from cal (by kernel_rfl)]
  refine callF_eq (fd := d__law_word_text) rfl rfl ?_ rfl rfl
  have hz : sizeLine = 16777216 := sizeLine_eq
  have lc := lcGo_list (Γ := Γn 29) (M := M) (e := .meth .join (.str " ") (.cons (.var 1) .nil)) (r := [some (.lst (ms.map fun w => .lst w.ds)), none]) (i := 1) (fun w : Mw => D.lst w.ds) (fun w => .str w.text) ms [] (fun w hw => by
    have j1 := join_ds (h w hw) M
    have t1 : tyD M .join (.str " ") = true := rfl
    simp only [List.set_cons_succ, List.set_cons_zero]
    generalize w.ds = Wd at *
    generalize w.text = Wt at *
    generalize (ms.map fun w => D.lst w.ds) = L at *
    clear hz hf
    walk_at "ev")
  rw [List.nil_append] at lc
  have q1 : evE (Γn 29) (.lc false [1] (.nm 1) (.seq (.var 0)) .yes (.meth .join (.str " ") (.cons (.var 1) .nil))) [some (.lst (ms.map fun w => .lst w.ds)), none] M = .ok (.lst (ms.map fun w => .str w.text)) M := by
    rw [e_lc, show evI (Γn 29) (.seq (.var 0)) [some (.lst (ms.map fun w => .lst w.ds)), none] M = .ok (.vals (ms.map fun w => .lst w.ds)) M from rfl, rb_ok, k_lcv, if_pos (by rw [List.length_map]; omega)]
    rw [show wipeD [some (D.lst (ms.map fun w => .lst w.ds)), none] [1] = [some (.lst (ms.map fun w => .lst w.ds)), none] from rfl, lc, no_ok, rb_ok, mk_f]
  have q2 : methD M .join (.str " then ") [.lst (ms.map fun w => .str w.text)] = .ok (.str (txM ms)) M := by
    show opt (strsD (ms.map fun w => .str w.text)) (fun zs => if (zs.map (·.length)).sum + zs.length * (Str.ofString " then ").length ≤ 16777216 then .ok (.str (Txt.join " then " zs)) M else .bad) = _
    have e : (ms.map fun w => D.str w.text) = (ms.map Mw.text).map D.str := by rw [List.map_map]; rfl
    rw [e, strs_of, opt_s, txM_eq]
    have h1 := sum_le 36 (ms.map Mw.text) fun s hs => by
      obtain ⟨w, hw, rfl⟩ := List.mem_map.mp hs
      exact w.tlen (h w hw)
    have h3 : (Str.ofString " then ").length = 6 := by decide +kernel
    rw [List.length_map] at h1
    rw [h3, List.length_map, if_pos (by omega)]
  have t2 : tyD M .join (.str " then ") = true := rfl
  show evSs (Γn 29) (.cons (.ret (.meth .join (.str " then ") (.cons (.lc false [1] (.nm 1) (.seq (.var 0)) .yes (.meth .join (.str " ") (.cons (.var 1) .nil))) .nil))) .nil) [some (.lst (ms.map fun w => .lst w.ds)), none] M = _
  refine ret_of ?_
  rw [e_me, e_str, rb_ok, k_me, if_pos t2, es_cons, q1, rb_ok, k_es, es_nil, rb_ok, k_es2, rb_ok, k_me2, q2]
theorem cm_at {Γ : MP.Env} {r : Rho} {M M' : Mem} {W d : D} {x : Int} {i j : Nat} (hg : get r i = some W) (hn : get r j = some (.int x)) (hm : mclsD Γ.g M W "at" = some (Str.ofString "Word")) (ha : Γ.cs.f (mkey "Word" "at") [W, .int x] M = .ok d M') : evE Γ (.cm "at" (.var i) (.cons (.var j) .nil)) r M = .ok d M' := by
  rw [e_cm, e_var, hg, v_d, rb_ok, k_cm, hm, opt_s, k_cm1, es_cons, e_var, hn, v_d, rb_ok, k_es, es_nil, rb_ok, k_es2, rb_ok, k_cm2, ha]
theorem make_of {r : Rho} {M : Mem} {e : SE} {ms : Ms} (g : Gm ms) (he : evE (Γn 29) e r M = .ok (.str (txM ms)) M) (hl : M.length ≤ 3) (hM : ∀ k, M.all (lowM k) = true) : evE (Γn 29) (.make false "Word" (.cons e .nil)) r M = .ok (wDm ms) M := by
  rw [e_make, es_cons, he, rb_ok, k_es, es_nil, rb_ok, k_es2, rb_ok, k_mk]
  exact madeM g hl hM
theorem mcls_w (ms : Ms) (M : Mem) : mclsD (Γn 29).g M (wDm ms) "at" = some (Str.ofString "Word") := by kernel_rfl
theorem gm_one {w : Mw} (h : w.ok) : Gm [w] := ⟨fun x hx => by rw [List.mem_singleton.mp hx]; exact h, by simp, by simp, List.pairwise_singleton ..⟩
/-! ### texts that may be no words: what reading finds -/
def numL : List Str := [(Str.ofString "1"), (Str.ofString "2"), (Str.ofString "3"), (Str.ofString "4"), (Str.ofString "5"), (Str.ofString "6"), (Str.ofString "7"), (Str.ofString "8"), (Str.ofString "9"), (Str.ofString "-1"), (Str.ofString "-2"), (Str.ofString "-3"), (Str.ofString "-4"), (Str.ofString "-5"), (Str.ofString "-6"), (Str.ofString "-7"), (Str.ofString "-8"), (Str.ofString "-9")]
def plL : List Str := [(Str.ofString "0"), (Str.ofString "half"), (Str.ofString "1"), (Str.ofString "2"), (Str.ofString "3"), (Str.ofString "4"), (Str.ofString "5"), (Str.ofString "6"), (Str.ofString "7"), (Str.ofString "8"), (Str.ofString "9"), (Str.ofString "-1"), (Str.ofString "-2"), (Str.ofString "-3"), (Str.ofString "-4"), (Str.ofString "-5"), (Str.ofString "-6"), (Str.ofString "-7"), (Str.ofString "-8"), (Str.ofString "-9"), (Str.ofString "half+1"), (Str.ofString "half+2"), (Str.ofString "half+3"), (Str.ofString "half+4"), (Str.ofString "half+5"), (Str.ofString "half+6"), (Str.ofString "half+7"), (Str.ofString "half+8"), (Str.ofString "half+9"), (Str.ofString "half-1"), (Str.ofString "half-2"), (Str.ofString "half-3"), (Str.ofString "half-4"), (Str.ofString "half-5"), (Str.ofString "half-6"), (Str.ofString "half-7"), (Str.ofString "half-8"), (Str.ofString "half-9")]
def voc : List Str := plL ++ numL ++ [(Str.ofString "then"), (Str.ofString "turn"), (Str.ofString "exchange"), (Str.ofString "roll"), (Str.ofString "same"), (Str.ofString "along"), (Str.ofString "list"), (Str.ofString "to"), (Str.ofString "the"), (Str.ofString "end"), (Str.ofString ""), (Str.ofString "10"), (Str.ofString "-0"), (Str.ofString "00"), (Str.ofString "+1"), (Str.ofString "half+0"), (Str.ofString "half-10"), (Str.ofString "Turn"), (Str.ofString "-10")]
theorem voc_ok : ∀ s ∈ voc, Gw s := by decide +kernel
def plF (s : Str) : Option (Str × Str × Int) := pwt.find? fun p => decide (p.1 = s)
def amF (s : Str) : Option (Str × Option Int) := amt.find? fun p => decide (p.1 = s)
theorem pl_mem {s : Str} {p : Str × Str × Int} (h : plF s = some p) : p ∈ pwt ∧ p.1 = s := by
  unfold plF at h
  have q := List.find?_some (p := fun p : Str × Str × Int => decide (p.1 = s)) h
  exact ⟨List.mem_of_find?_eq_some h, of_decide_eq_true q⟩
theorem am_mem {s : Str} {p : Str × Option Int} (h : amF s = some p) : p ∈ amt ∧ p.1 = s := by
  unfold amF at h
  have q := List.find?_some (p := fun p : Str × Option Int => decide (p.1 = s)) h
  exact ⟨List.mem_of_find?_eq_some h, of_decide_eq_true q⟩
def ppD : Option (Str × Str × Int) → D
  | some p => plD p.2.1 p.2.2
  | none => .non
def amD : Option (Str × Option Int) → D
  | some p => nD p.2
  | none => .non
theorem ppD_low (o : Option (Str × Str × Int)) : lowD 0 (ppD o) = true := by cases o <;> rfl
theorem amD_low (o : Option (Str × Option Int)) : lowD 0 (amD o) = true := by
  cases o with
  | none => rfl
  | some p => exact nD_low p.2
section
variable (k : Nat) (M : Mem)
theorem pp_all : voc.map (fun s => evSs (Γn k) b_place_parts [some (.str s)] M) = voc.map fun s => .rt (ppD (plF s)) M := by kernel_rfl
theorem er_all (o0 o1 o2 o4 o5 o6 : Option D) : voc.map (fun w => evT (Γn k) (.val (.cmp .notin (.var 3) (.tup (.cons (.str "exchange") (.cons (.str "roll") .nil))))) [o0, o1, o2, some (.str w), o4, o5, o6] M) = voc.map fun w => .ok (!(decide (w = (Str.ofString "exchange")) || decide (w = (Str.ofString "roll")))) M := by kernel_rfl
theorem turn_all : voc.map (fun w => eqD M (.str w) (.str "turn")) = voc.map fun w => some (decide (w = (Str.ofString "turn"))) := by kernel_rfl
theorem half_all : voc.map (fun w => eqD M (.str w) (.str "half")) = voc.map fun w => some (decide (w = (Str.ofString "half"))) := by kernel_rfl
theorem then_all : voc.map (fun w => eqD M (.str w) (.str "then")) = voc.map fun w => some (decide (w = (Str.ofString "then"))) := by kernel_rfl
theorem exch_all : voc.map (fun w => eqD M (.str w) (.str "exchange")) = voc.map fun w => some (decide (w = (Str.ofString "exchange"))) := by kernel_rfl
end
theorem am_half : ∀ s ∈ voc, (decide (s = (Str.ofString "half")) = true → (amF s).isNone = false) ∧ (decide (s = (Str.ofString "half")) = false → isNon (amD (amF s)) = (amF s).isNone) := by decide +kernel
/-- number_of -/
theorem nb_all (k : Nat) (M : Mem) : voc.map (fun s => evSs (Γn k) b_number_of [some (.str s), none] M) = voc.map fun s => .rt (amD (amF s)) M := by kernel_rfl
theorem pp_voc {s : Str} (h : s ∈ voc) {k : Nat} {M : Mem} : (Γn (k + 1)).cs.f "place_parts" [.str s] M = .ok (ppD (plF s)) M := by
  rw [show (Γn (k + 1)).cs.f "place_parts" = callF (Γn k) d_place_parts from cal (by kernel_rfl)]
  exact callF_eq (fd := d_place_parts) rfl rfl (List.map_inj_left.mp (pp_all k M) s h) rfl (ppD_low _)
theorem nb_voc {s : Str} (h : s ∈ voc) {k : Nat} {M : Mem} : (Γn (k + 1)).cs.f "number_of" [.str s] M = .ok (amD (amF s)) M := by
  rw [show (Γn (k + 1)).cs.f "number_of" = callF (Γn k) d_number_of from cal (by kernel_rfl)]
  exact callF_eq (fd := d_number_of) rfl rfl (List.map_inj_left.mp (nb_all k M) s h) rfl (amD_low _)
/-! steps that raise -/
section
variable {Γ : MP.Env} {t : ST} {A rest : SSs} {e : SE} {es : SEs} {r r' : Rho} {M M' M2 : Mem} {d x y : D} {i j : Nat} {c f : Str} {ns : List Str} {ds xs : List D} {n v : Int}
theorem set_exc (h : evE Γ e r M = .exc c ns ds M') : evSs Γ (.cons (.set i e) rest) r M = .exc c ns ds r M' := by rw [MX.ss_cons, s_set', h, rg_exc, sg_exc]
theorem ife_rai (h : evT Γ t r M = .ok true M') (he : evEs Γ es r M' = .ok xs M2) (hx : Γ.exc c = some ns) (hl : xs.length = ns.length) : evSs Γ (.cons (.ife t (.cons (.rai c es) .nil) .nil) rest) r M = .exc c ns xs r M2 := by
  rw [ife_t h, MX.ss_cons, show evS Γ (.rai c es) r M' = (evEs Γ es r M').go r (fun xs M => optS (Γ.exc c) fun ns => if xs.length = ns.length then .exc c ns xs r M else .bad) from rfl, he, rg_ok, hx, optS_s, if_pos hl, sg_exc, sg_exc]
theorem callF_exc {fd : FnD} (hl : ds.length = fd.ps.length) (hb : ∃ r, evSs Γ fd.body (startD fd.N ds) M = .exc c ns [.int v] r M') (hm : M'.length = M.length) : callF Γ fd ds M = .exc c ns [.int v] M' := by
  obtain ⟨r, hb⟩ := hb
  rw [callF_run hl, hb]
  show (match frzDs (frzR M' M.length 64) [.int v], cutM M.length M' with
    | some d', some M' => Rs.exc c ns d' M'
    | _, _ => .bad) = _
  unfold cutM
  rw [if_pos hm]
  rfl
theorem call1 (h0 : get r i = some x) : evE Γ (.call f (.cons (.var i) .nil)) r M = Γ.cs.f f [x] M := by
  rw [e_call, es_cons, e_var, h0, v_d, rb_ok, k_es, es_nil, rb_ok, k_es2, rb_ok]
theorem call2 (h0 : get r i = some x) (h1 : get r j = some y) : evE Γ (.call f (.cons (.var i) (.cons (.var j) .nil))) r M = Γ.cs.f f [x, y] M := by
  rw [e_call, es_cons, e_var, h0, v_d, rb_ok, k_es, es_cons, e_var, h1, v_d, rb_ok, k_es, es_nil, rb_ok, k_es2, rb_ok, k_es2, rb_ok]
theorem call2p (h0 : get r i = some x) (h1 : get r j = some (.int n)) : evE Γ (.call f (.cons (.var i) (.cons (.bin false .add (.var j) (.int v)) .nil))) r M = Γ.cs.f f [x, .int (n + v)] M := by
  have e1 : evE Γ (.bin false .add (.var j) (.int v)) r M = .ok (.int (n + v)) M := by
    rw [e_bin, e_var, h1, v_d, rb_ok]
    rfl
  rw [e_call, es_cons, e_var, h0, v_d, rb_ok, k_es, es_cons, e1, rb_ok, k_es, es_nil, rb_ok, k_es2, rb_ok, k_es2, rb_ok]
theorem es_var (h0 : get r i = some x) : evEs Γ (.cons (.var i) .nil) r M = .ok [x] M := by
  rw [es_cons, e_var, h0, v_d, rb_ok, k_es, es_nil, rb_ok, k_es2]
theorem es_varp (h1 : get r j = some (.int n)) : evEs Γ (.cons (.bin false .add (.var j) (.int v)) .nil) r M = .ok [.int (n + v)] M := by
  have e1 : evE Γ (.bin false .add (.var j) (.int v)) r M = .ok (.int (n + v)) M := by
    rw [e_bin, e_var, h1, v_d, rb_ok]
    rfl
  rw [es_cons, e1, rb_ok, k_es, es_nil, rb_ok, k_es2]
end
abbrev Pd (P : List Str) : List D := P.map D.str
/-- what is read at an index -/
inductive RdM (P : List Str) (a : Nat) (t : Bool) : Nat ⊕ Mw → Prop
  | none : P[a]? = none → RdM P a t (.inl P.length)
  | turn : P[a]? = some (Str.ofString "turn") → t = false → RdM P a t (.inr .turn)
  | odd {w : Str} : P[a]? = some w → ¬ (w = (Str.ofString "turn") ∧ t = false) → w ≠ (Str.ofString "exchange") → w ≠ (Str.ofString "roll") → RdM P a t (.inl a)
  | no1 {w : Str} : P[a]? = some w → w = (Str.ofString "exchange") ∨ w = (Str.ofString "roll") → P[a + 1]? = none → RdM P a t (.inl P.length)
  | bad1 {w x : Str} : P[a]? = some w → w = (Str.ofString "exchange") ∨ w = (Str.ofString "roll") → P[a + 1]? = some x → plF x = none → RdM P a t (.inl (a + 1))
  | no2 {w x : Str} {p : Str × Str × Int} : P[a]? = some w → w = (Str.ofString "exchange") ∨ w = (Str.ofString "roll") → P[a + 1]? = some x → plF x = some p → P[a + 2]? = none → RdM P a t (.inl P.length)
  | bad2 {w x y : Str} {p : Str × Str × Int} : P[a]? = some w → w = (Str.ofString "exchange") ∨ w = (Str.ofString "roll") → P[a + 1]? = some x → plF x = some p → P[a + 2]? = some y → plF y = none → RdM P a t (.inl (a + 2))
  | exch {x y : Str} {p q : Str × Str × Int} : P[a]? = some (Str.ofString "exchange") → P[a + 1]? = some x → plF x = some p → P[a + 2]? = some y → plF y = some q → RdM P a t (.inr (.exch p q))
  | no3 {x y : Str} {p q : Str × Str × Int} : P[a]? = some (Str.ofString "roll") → P[a + 1]? = some x → plF x = some p → P[a + 2]? = some y → plF y = some q → P[a + 3]? = none → RdM P a t (.inl P.length)
  | bad3 {x y z : Str} {p q : Str × Str × Int} : P[a]? = some (Str.ofString "roll") → P[a + 1]? = some x → plF x = some p → P[a + 2]? = some y → plF y = some q → P[a + 3]? = some z → amF z = none → RdM P a t (.inl (a + 3))
  | roll {x y z : Str} {p q : Str × Str × Int} {r : Str × Option Int} : P[a]? = some (Str.ofString "roll") → P[a + 1]? = some x → plF x = some p → P[a + 2]? = some y → plF y = some q → P[a + 3]? = some z → amF z = some r → RdM P a t (.inr (.roll p q r))
theorem rdm_tot (P : List Str) (a : Nat) (t : Bool) : ∃ o, RdM P a t o := by
  cases h0 : P[a]? with
  | none => exact ⟨_, .none h0⟩
  | some w =>
    by_cases ht : w = (Str.ofString "turn") ∧ t = false
    · obtain ⟨rfl, h⟩ := ht
      exact ⟨_, .turn h0 h⟩
    · by_cases he : w = (Str.ofString "exchange") ∨ w = (Str.ofString "roll")
      · cases h1 : P[a + 1]? with
        | none => exact ⟨_, .no1 h0 he h1⟩
        | some x =>
          cases p1 : plF x with
          | none => exact ⟨_, .bad1 h0 he h1 p1⟩
          | some p =>
            cases h2 : P[a + 2]? with
            | none => exact ⟨_, .no2 h0 he h1 p1 h2⟩
            | some y =>
              cases p2 : plF y with
              | none => exact ⟨_, .bad2 h0 he h1 p1 h2 p2⟩
              | some q =>
                rcases he with rfl | rfl
                · exact ⟨_, .exch h0 h1 p1 h2 p2⟩
                · cases h3 : P[a + 3]? with
                  | none => exact ⟨_, .no3 h0 h1 p1 h2 p2 h3⟩
                  | some z =>
                    cases p3 : amF z with
                    | none => exact ⟨_, .bad3 h0 h1 p1 h2 p2 h3 p3⟩
                    | some r => exact ⟨_, .roll h0 h1 p1 h2 p2 h3 p3⟩
      · exact ⟨_, .odd h0 ht (fun e => he (.inl e)) (fun e => he (.inr e))⟩
/-! ### the program reads -/
def bwD (M : Mem) (i : Int) : Rs D := .exc "BadWord" ["index"] [.int i] M
def rdR (M : Mem) : Nat ⊕ Mw → Rs D
  | .inl i => bwD M (i : Int)
  | .inr w => .ok (.tup w.ds) M
section
variable {P : List Str} {M : Mem} {b : Nat} {i : Int} {k : Nat}
theorem in_voc (hv : ∀ s ∈ P, s ∈ voc) {s : Str} (h : P[b]? = some s) : s ∈ voc := hv s (List.mem_of_getElem? h)
theorem exc_bw : (Γn k).exc "BadWord" = some [Str.ofString "index"] := by kernel_rfl
theorem wat (hi : i = (b : Int)) {s : Str} (h : P[b]? = some s) : (Γn (k + 1)).cs.f "word_at" [.lst (Pd P), .int i] M = .ok (.str s) M := by
  subst hi
  rw [show (Γn (k + 1)).cs.f "word_at" = callF (Γn k) wordAtF from cal (by kernel_rfl)]
  have hl := (List.getElem?_eq_some_iff.mp h).1
  exact word_at_ok (atI_nat (by rw [List.getElem?_map, h]; rfl)) (by rw [List.length_map]; omega) rfl
theorem wat_bad (hi : i = (b : Int)) (h : P[b]? = none) : (Γn (k + 1)).cs.f "word_at" [.lst (Pd P), .int i] M = bwD M (P.length : Int) := by
  subst hi
  rw [show (Γn (k + 1)).cs.f "word_at" = callF (Γn k) wordAtF from cal (by kernel_rfl)]
  have hl := List.getElem?_eq_none_iff.mp h
  have h1 : (P.length : Int) ≤ (b : Int) := by omega
  refine callF_exc (fd := wordAtF) rfl ?_ rfl
  rw [show startD wordAtF.N [D.lst (Pd P), .int (b : Int)] = [some (.lst (Pd P)), some (.int (b : Int))] from rfl]
  have l1 : lenD M (.lst (Pd P)) = .ok (.int (P.length : Int)) M := by
    show Rs.ok (D.int ((P.map D.str).length : Nat)) M = _
    rw [List.length_map]
  generalize Pd P = ws at *
  clear hl h
  unfold wordAtF
  have e1 : evT (Γn k) (.val (.cmp .ge (.var 1) (.blt .len (.cons (.var 0) .nil)))) [some (.lst ws), some (.int (b : Int))] M = .ok true M := by walk_at "ev"
  have e2 : evEs (Γn k) (.cons (.blt .len (.cons (.var 0) .nil)) .nil) [some (.lst ws), some (.int (b : Int))] M = .ok [.int (P.length : Int)] M := by walk_at "ev"
  exact ⟨_, ife_rai e1 e2 exc_bw rfl⟩
theorem rpl (hv : ∀ s ∈ P, s ∈ voc) (hi : i = (b : Int)) {s : Str} {p : Str × Str × Int} (h : P[b]? = some s) (hp : plF s = some p) : (Γn (k + 2)).cs.f "read_place" [.lst (Pd P), .int i] M = .ok (.str s) M := by
  subst hi
  rw [show (Γn (k + 2)).cs.f "read_place" = callF (Γn (k + 1)) readPlaceF from cal (by kernel_rfl)]
  have hl := (List.getElem?_eq_some_iff.mp h).1
  exact read_place_ok (Γ1 := Γn k) (cal (by kernel_rfl)) (by rw [pp_voc (in_voc hv h), hp]; rfl) (atI_nat (by rw [List.getElem?_map, h]; rfl)) (by rw [List.length_map]; omega)
theorem rpl_no (hi : i = (b : Int)) (h : P[b]? = none) : (Γn (k + 2)).cs.f "read_place" [.lst (Pd P), .int i] M = bwD M (P.length : Int) := by
  rw [show (Γn (k + 2)).cs.f "read_place" = callF (Γn (k + 1)) readPlaceF from cal (by kernel_rfl)]
  refine callF_exc (fd := readPlaceF) rfl ?_ rfl
  rw [show startD readPlaceF.N [D.lst (Pd P), .int i] = [some (.lst (Pd P)), some (.int i), none] from rfl]
  exact ⟨_, set_exc ((call2 rfl rfl).trans (wat_bad hi h))⟩
theorem rpl_bad (hv : ∀ s ∈ P, s ∈ voc) (hi : i = (b : Int)) {s : Str} (h : P[b]? = some s) (hp : plF s = none) : (Γn (k + 2)).cs.f "read_place" [.lst (Pd P), .int i] M = bwD M i := by
  rw [show (Γn (k + 2)).cs.f "read_place" = callF (Γn (k + 1)) readPlaceF from cal (by kernel_rfl)]
  refine callF_exc (fd := readPlaceF) rfl ?_ rfl
  rw [show startD readPlaceF.N [D.lst (Pd P), .int i] = [some (.lst (Pd P)), some (.int i), none] from rfl]
  have pp := pp_voc (in_voc hv h) (k := k) (M := M)
  rw [hp] at pp
  unfold readPlaceF
  rw [set_of ((call2 rfl rfl).trans (wat hi h))]
  simp only [List.set_cons_succ, List.set_cons_zero]
  refine ⟨_, ife_rai (M' := M) (M2 := M) ?_ (es_var rfl) exc_bw rfl⟩
  rw [t_val, e_cmp, call1 (x := .str s) rfl, pp, rb_ok, k_cmp]
  rfl
theorem prog_move {a : Nat} {t : Bool} (hv : ∀ s ∈ P, s ∈ voc) {m : Nat} (hm : memD M (.tup [.str "turn"]) (.ref m) = some t) {o : Nat ⊕ Mw} (h : RdM P a t o) : (Γn 27).cs.f "read_move" [.lst (Pd P), .int (a : Int), .ref m] M = rdR M o := by
  rw [show (Γn 27).cs.f "read_move" = callF (Γn 26) readMoveF from cal (by kernel_rfl)]
  have st : startD readMoveF.N [D.lst (Pd P), .int (a : Int), .ref m] = [some (.lst (Pd P)), some (.int (a : Int)), some (.ref m), none, none, none, none] := rfl
  have i1 : (a : Int) + 1 = ((a + 1 : Nat) : Int) := by omega
  have i2 : (a : Int) + 2 = ((a + 2 : Nat) : Int) := by omega
  have i3 : (a : Int) + 3 = ((a + 3 : Nat) : Int) := by omega
  -- the tests
  have t1 : ∀ (w : Str) (o0 o1 o4 o5 o6 : Option D), w ∈ voc → evT (Γn 26) (.and (.val (.cmp .eq (.var 3) (.str "turn"))) (.val (.cmp .notin (.tup (.cons (.str "turn") .nil)) (.var 2)))) [o0, o1, some (.ref m), some (.str w), o4, o5, o6] M = .ok (decide (w = (Str.ofString "turn")) && !t) M := fun w o0 o1 o4 o5 o6 hw => by
    have e := List.map_inj_left.mp (turn_all M) w hw
    have z1 : 0 + 1 ≤ sizeLine := by decide
    cases t <;> by_cases hx : w = (Str.ofString "turn")
    · rw [decide_eq_true hx] at e ⊢
      clear st i1 i2 i3 hx h hv hw
      walk_at "ev"
    · rw [decide_eq_false hx] at e ⊢
      clear st i1 i2 i3 hx h hv hw
      walk_at "ev"
    · rw [decide_eq_true hx] at e ⊢
      clear st i1 i2 i3 hx h hv hw
      walk_at "ev"
    · rw [decide_eq_false hx] at e ⊢
      clear st i1 i2 i3 hx h hv hw
      walk_at "ev"
  have t2 : ∀ (w : Str) (o0 o1 o2 o4 o5 o6 : Option D), w ∈ voc → evT (Γn 26) (.val (.cmp .notin (.var 3) (.tup (.cons (.str "exchange") (.cons (.str "roll") .nil))))) [o0, o1, o2, some (.str w), o4, o5, o6] M = .ok (!(decide (w = (Str.ofString "exchange")) || decide (w = (Str.ofString "roll")))) M := fun w o0 o1 o2 o4 o5 o6 hw => List.map_inj_left.mp (er_all 26 M o0 o1 o2 o4 o5 o6) w hw
  have t3 : ∀ (z : Str) (o0 o1 o2 o3 o4 o5 : Option D), z ∈ voc → evT (Γn 26) (.and (.val (.cmp .ne (.var 6) (.cst "HALF"))) (.val (.cmp .is_ (.call "number_of" (.cons (.var 6) .nil)) .non))) [o0, o1, o2, o3, o4, o5, some (.str z)] M = .ok (amF z).isNone M := fun z o0 o1 o2 o3 o4 o5 hz => by
    have e := List.map_inj_left.mp (half_all M) z hz
    have nb := nb_voc hz (k := 25) (M := M)
    obtain ⟨g1, g2⟩ := am_half z hz
    have hc : (Γn 26).cst "HALF" = some (.str "half") := by kernel_rfl
    cases hx : decide (z = (Str.ofString "half")) with
    | true =>
      rw [g1 hx]
      rw [hx] at e
      generalize amD (amF z) = A at *
      clear st i1 i2 i3 h hv hz g1 g2 hx t1 t2
      walk_at "ev"
    | false =>
      have g2 := g2 hx
      rw [← g2]
      rw [hx] at e
      generalize amD (amF z) = A at *
      clear st i1 i2 i3 h hv hz g1 hx t1 t2 g2
      walk_at "ev"
  -- the first word, a kind of move
  have kind : ∀ {w : Str}, P[a]? = some w → w = (Str.ofString "exchange") ∨ w = (Str.ofString "roll") → ∀ rest : SSs, evSs (Γn 26) (.cons (.set 3 (.call "word_at" (.cons (.var 0) (.cons (.var 1) .nil)))) (.cons (.ife (.and (.val (.cmp .eq (.var 3) (.str "turn"))) (.val (.cmp .notin (.tup (.cons (.str "turn") .nil)) (.var 2)))) (.cons (.ret (.tup (.cons (.var 3) .nil))) .nil) .nil) (.cons (.ife (.val (.cmp .notin (.var 3) (.tup (.cons (.str "exchange") (.cons (.str "roll") .nil))))) (.cons (.rai "BadWord" (.cons (.var 1) .nil)) .nil) .nil) rest))) [some (.lst (Pd P)), some (.int (a : Int)), some (.ref m), none, none, none, none] M = evSs (Γn 26) rest [some (.lst (Pd P)), some (.int (a : Int)), some (.ref m), some (.str w), none, none, none] M := fun {w} h0 he rest => by
    have hw := in_voc hv h0
    have hT : decide (w = (Str.ofString "turn")) = false := by rcases he with rfl | rfl <;> decide
    have hE : (!(decide (w = (Str.ofString "exchange")) || decide (w = (Str.ofString "roll")))) = false := by rcases he with rfl | rfl <;> decide
    rw [set_of ((call2 rfl rfl).trans (wat rfl h0))]
    simp only [List.set_cons_succ, List.set_cons_zero]
    rw [ife_f (M' := M) (by rw [t1 w _ _ _ _ _ hw, hT]; rfl), ife_f (M' := M) (by rw [t2 w _ _ _ _ _ _ hw, hE])]
  have z3 : 0 + 1 + 1 + 1 ≤ sizeLine := by decide
  cases h with
  | none h0 =>
    refine callF_exc (fd := readMoveF) (M' := M) rfl ?_ rfl
    rw [st]
    exact ⟨_, set_exc ((call2 rfl rfl).trans (wat_bad rfl h0))⟩
  | turn h0 ht =>
    subst ht
    have hw := in_voc hv h0
    refine callF_eq (fd := readMoveF) rfl rfl ?_ rfl rfl
    rw [st]
    unfold readMoveF
    rw [set_of ((call2 rfl rfl).trans (wat rfl h0))]
    simp only [List.set_cons_succ, List.set_cons_zero]
    rw [ife_t (M' := M) (t1 _ _ _ _ _ _ hw), ret_of (d := .tup [.str (Str.ofString "turn")]) (M' := M) (by kernel_rfl), sg_rt]
    rfl
  | @odd w h0 ht hE hR =>
    have hw := in_voc hv h0
    refine callF_exc (fd := readMoveF) (M' := M) rfl ?_ rfl
    rw [st]
    unfold readMoveF
    rw [set_of ((call2 rfl rfl).trans (wat rfl h0))]
    simp only [List.set_cons_succ, List.set_cons_zero]
    rw [ife_f (M' := M) (by
      rw [t1 w _ _ _ _ _ hw]
      by_cases hx : w = (Str.ofString "turn")
      · have : t = true := by
          cases t with
          | false => exact absurd ⟨hx, rfl⟩ ht
          | true => rfl
        rw [this, Bool.not_true, Bool.and_false]
      · rw [decide_eq_false hx, Bool.false_and])]
    refine ⟨_, ife_rai (M' := M) (M2 := M) ?_ (es_var rfl) exc_bw rfl⟩
    rw [t2 w _ _ _ _ _ _ hw, decide_eq_false hE, decide_eq_false hR]
    rfl
  | no1 h0 he h1 =>
    refine callF_exc (fd := readMoveF) (M' := M) rfl ?_ rfl
    rw [st]
    unfold readMoveF
    rw [kind h0 he]
    exact ⟨_, set_exc ((call2p rfl rfl).trans (rpl_no i1 h1))⟩
  | bad1 h0 he h1 p1 =>
    refine callF_exc (fd := readMoveF) (M' := M) rfl ?_ rfl
    rw [st]
    unfold readMoveF
    rw [kind h0 he]
    exact ⟨_, set_exc (((call2p rfl rfl).trans (rpl_bad hv i1 h1 p1)).trans (by rw [i1]; rfl))⟩
  | no2 h0 he h1 p1 h2 =>
    refine callF_exc (fd := readMoveF) (M' := M) rfl ?_ rfl
    rw [st]
    unfold readMoveF
    rw [kind h0 he, set_of ((call2p rfl rfl).trans (rpl hv i1 h1 p1))]
    simp only [List.set_cons_succ, List.set_cons_zero]
    exact ⟨_, set_exc ((call2p rfl rfl).trans (rpl_no i2 h2))⟩
  | bad2 h0 he h1 p1 h2 p2 =>
    refine callF_exc (fd := readMoveF) (M' := M) rfl ?_ rfl
    rw [st]
    unfold readMoveF
    rw [kind h0 he, set_of ((call2p rfl rfl).trans (rpl hv i1 h1 p1))]
    simp only [List.set_cons_succ, List.set_cons_zero]
    exact ⟨_, set_exc (((call2p rfl rfl).trans (rpl_bad hv i2 h2 p2)).trans (by rw [i2]; rfl))⟩
  | @exch x y p q h0 h1 p1 h2 p2 =>
    obtain ⟨m1, rfl⟩ := pl_mem p1
    obtain ⟨m2, rfl⟩ := pl_mem p2
    refine callF_eq (fd := readMoveF) rfl rfl ?_ rfl rfl
    rw [st]
    unfold readMoveF
    rw [kind h0 (.inl rfl), set_of ((call2p rfl rfl).trans (rpl hv i1 h1 p1))]
    simp only [List.set_cons_succ, List.set_cons_zero]
    rw [set_of ((call2p rfl rfl).trans (rpl hv i2 h2 p2))]
    simp only [List.set_cons_succ, List.set_cons_zero]
    rw [ife_t (M' := M) (by kernel_rfl), ret_of (d := .tup [.str (Str.ofString "exchange"), .str p.1, .str q.1]) (M' := M) (by kernel_rfl), sg_rt]
    rfl
  | no3 h0 h1 p1 h2 p2 h3 =>
    refine callF_exc (fd := readMoveF) (M' := M) rfl ?_ rfl
    rw [st]
    unfold readMoveF
    rw [kind h0 (.inr rfl), set_of ((call2p rfl rfl).trans (rpl hv i1 h1 p1))]
    simp only [List.set_cons_succ, List.set_cons_zero]
    rw [set_of ((call2p rfl rfl).trans (rpl hv i2 h2 p2))]
    simp only [List.set_cons_succ, List.set_cons_zero]
    rw [ife_f (M' := M) (by kernel_rfl)]
    exact ⟨_, set_exc ((call2p rfl rfl).trans (wat_bad i3 h3))⟩
  | @bad3 x y z p q h0 h1 p1 h2 p2 h3 p3 =>
    refine callF_exc (fd := readMoveF) (M' := M) rfl ?_ rfl
    rw [st]
    unfold readMoveF
    rw [kind h0 (.inr rfl), set_of ((call2p rfl rfl).trans (rpl hv i1 h1 p1))]
    simp only [List.set_cons_succ, List.set_cons_zero]
    rw [set_of ((call2p rfl rfl).trans (rpl hv i2 h2 p2))]
    simp only [List.set_cons_succ, List.set_cons_zero]
    rw [ife_f (M' := M) (by kernel_rfl), set_of ((call2p rfl rfl).trans (wat i3 h3))]
    simp only [List.set_cons_succ, List.set_cons_zero]
    rw [← i3]
    exact ⟨_, ife_rai (M' := M) (M2 := M) (by rw [t3 z _ _ _ _ _ _ (in_voc hv h3), p3]; rfl) (es_varp rfl) exc_bw rfl⟩
  | @roll x y z p q r h0 h1 p1 h2 p2 h3 p3 =>
    have hz := in_voc hv h3
    obtain ⟨m1, rfl⟩ := pl_mem p1
    obtain ⟨m2, rfl⟩ := pl_mem p2
    obtain ⟨m3, rfl⟩ := am_mem p3
    refine callF_eq (fd := readMoveF) rfl rfl ?_ rfl rfl
    rw [st]
    unfold readMoveF
    rw [kind h0 (.inr rfl), set_of ((call2p rfl rfl).trans (rpl hv i1 h1 p1))]
    simp only [List.set_cons_succ, List.set_cons_zero]
    rw [set_of ((call2p rfl rfl).trans (rpl hv i2 h2 p2))]
    simp only [List.set_cons_succ, List.set_cons_zero]
    rw [ife_f (M' := M) (by kernel_rfl), set_of ((call2p rfl rfl).trans (wat i3 h3))]
    simp only [List.set_cons_succ, List.set_cons_zero]
    rw [ife_f (M' := M) (by rw [t3 r.1 _ _ _ _ _ _ hz, p3]; rfl), ret_of (d := .tup [.str (Str.ofString "roll"), .str p.1, .str q.1, .str r.1]) (M' := M) (by kernel_rfl)]
    rfl
end
/-! ### several moves -/
inductive RdW (P : List Str) : Nat → Nat → Bool → Nat ⊕ (Ms × Nat) → Prop
  | bad {k a : Nat} {t : Bool} {i : Nat} : RdM P a t (.inl i) → RdW P (k + 1) a t (.inl i)
  | stop {k a : Nat} {t : Bool} {w : Mw} : RdM P a t (.inr w) → k = 0 ∨ P[a + w.words.length]? ≠ some (Str.ofString "then") → RdW P (k + 1) a t (.inr ([w], a + w.words.length))
  | no {k a : Nat} {t : Bool} {w : Mw} {i : Nat} : RdM P a t (.inr w) → k ≠ 0 → P[a + w.words.length]? = some (Str.ofString "then") → RdW P k (a + w.words.length + 1) (t || w.ht) (.inl i) → RdW P (k + 1) a t (.inl i)
  | more {k a : Nat} {t : Bool} {w : Mw} {ws : Ms} {e : Nat} : RdM P a t (.inr w) → k ≠ 0 → P[a + w.words.length]? = some (Str.ofString "then") → RdW P k (a + w.words.length + 1) (t || w.ht) (.inr (ws, e)) → RdW P (k + 1) a t (.inr (w :: ws, e))
theorem rdw_tot (P : List Str) : ∀ (k a : Nat) (t : Bool), ∃ o, RdW P (k + 1) a t o
  | 0, a, t => by
    obtain ⟨o, h⟩ := rdm_tot P a t
    match o, h with
    | .inl i, h => exact ⟨_, .bad h⟩
    | .inr w, h => exact ⟨_, .stop h (.inl rfl)⟩
  | k + 1, a, t => by
    obtain ⟨o, h⟩ := rdm_tot P a t
    match o, h with
    | .inl i, h => exact ⟨_, .bad h⟩
    | .inr w, h =>
      by_cases hn : P[a + w.words.length]? = some (Str.ofString "then")
      · obtain ⟨o, h2⟩ := rdw_tot P k (a + w.words.length + 1) (t || w.ht)
        match o, h2 with
        | .inl i, h2 => exact ⟨_, .no h (by omega) hn h2⟩
        | .inr (ws, e), h2 => exact ⟨_, .more h (by omega) hn h2⟩
      · exact ⟨_, .stop h (.inr hn)⟩
theorem rdm_sound {P : List Str} {a : Nat} {t : Bool} {w : Mw} (h : RdM P a t (.inr w)) : w.ok ∧ (∀ i < w.words.length, P[a + i]? = w.words[i]?) ∧ (t = true → w.ht = false) := by
  cases h with
  | turn h0 ht =>
    refine ⟨True.intro, fun i hi => ?_, fun h => by rw [ht] at h; cases h⟩
    match i, hi with
    | 0, _ => exact h0
  | exch h0 h1 p1 h2 p2 =>
    obtain ⟨m1, e1⟩ := pl_mem p1
    obtain ⟨m2, e2⟩ := pl_mem p2
    refine ⟨⟨m1, m2⟩, fun i hi => ?_, fun _ => rfl⟩
    match i, hi with
    | 0, _ => exact h0
    | 1, _ => rw [h1, ← e1]; rfl
    | 2, _ => rw [h2, ← e2]; rfl
  | roll h0 h1 p1 h2 p2 h3 p3 =>
    obtain ⟨m1, e1⟩ := pl_mem p1
    obtain ⟨m2, e2⟩ := pl_mem p2
    obtain ⟨m3, e3⟩ := am_mem p3
    refine ⟨⟨m1, m2, m3⟩, fun i hi => ?_, fun _ => rfl⟩
    match i, hi with
    | 0, _ => exact h0
    | 1, _ => rw [h1, ← e1]; rfl
    | 2, _ => rw [h2, ← e2]; rfl
    | 3, _ => rw [h3, ← e3]; rfl
theorem wlen (w : Mw) : 0 < w.words.length := by cases w <;> simp [Mw.words]
theorem rdm_le {P : List Str} {a : Nat} {t : Bool} {w : Mw} (h : RdM P a t (.inr w)) : a + w.words.length ≤ P.length := by
  have h1 := wlen w
  have h2 := (rdm_sound h).2.1 (w.words.length - 1) (by omega)
  rw [List.getElem?_eq_getElem (l := w.words) (by omega)] at h2
  have := (List.getElem?_eq_some_iff.mp h2).1
  omega
theorem drop_of {P l : List Str} {a : Nat} (hl : a + l.length ≤ P.length) (h : ∀ i < l.length, P[a + i]? = l[i]?) : P.drop a = l ++ P.drop (a + l.length) := by
  refine List.ext_getElem? fun i => ?_
  rw [List.getElem?_drop]
  by_cases hi : i < l.length
  · rw [List.getElem?_append_left hi, h i hi]
  · rw [List.getElem?_append_right (by omega), List.getElem?_drop]
    congr 1
    omega
theorem rdw_sound {P : List Str} {k a : Nat} {t : Bool} {o : Nat ⊕ (Ms × Nat)} (h : RdW P k a t o) : ∀ {ms : Ms} {e : Nat}, o = .inr (ms, e) → (∀ w ∈ ms, w.ok) ∧ ms ≠ [] ∧ ms.length ≤ k ∧ Ot ms ∧ (t = true → ∀ w ∈ ms, w.ht = false) ∧ P.drop a = wsM ms ++ P.drop e ∧ e ≤ P.length := by
  induction h with
  | bad => intro ms e q; cases q
  | no => intro ms e q; cases q
  | @stop k a t w h hk =>
    intro ms e q
    cases q
    obtain ⟨h1, h2, h3⟩ := rdm_sound h
    have hl := rdm_le h
    refine ⟨fun x hx => by rw [List.mem_singleton.mp hx]; exact h1, by simp, by simp, List.pairwise_singleton .., fun ht x hx => by rw [List.mem_singleton.mp hx]; exact h3 ht, drop_of hl h2, hl⟩
  | @more k a t w ws e' h hk hn hr ih =>
    intro ms e q
    cases q
    obtain ⟨h1, h2, h3⟩ := rdm_sound h
    have hl := rdm_le h
    obtain ⟨k1, k2, k3, k4, k5, k6, k7⟩ := ih rfl
    refine ⟨fun x hx => ?_, by simp, by simp only [List.length_cons]; omega, List.pairwise_cons.mpr ⟨fun b hb z => ?_, k4⟩, fun ht x hx => ?_, ?_, k7⟩
    · rcases List.mem_cons.mp hx with rfl | hx
      · exact h1
      · exact k1 x hx
    · have := k5 (by rw [z.1, Bool.or_true]) b hb
      rw [this] at z
      cases z.2
    · rcases List.mem_cons.mp hx with rfl | hx
      · exact h3 ht
      · exact k5 (by rw [ht, Bool.true_or]) x hx
    · rw [drop_of hl h2]
      have hlt := (List.getElem?_eq_some_iff.mp hn).1
      rw [List.drop_eq_getElem_cons hlt, (List.getElem?_eq_some_iff.mp hn).2, k6]
      cases ws with
      | nil => exact absurd rfl k2
      | cons w2 r =>
        show w.words ++ (Str.ofString "then") :: (wsM (w2 :: r) ++ _) = (w.words ++ ((Str.ofString "then") :: wsM (w2 :: r))) ++ _
        rw [List.append_assoc]
        rfl
/-- a text of moves alone -/
theorem rdw_all {P : List Str} {ms : Ms} (h : RdW P 4 0 false (.inr (ms, P.length))) : P = wsM ms ∧ Gm ms := by
  obtain ⟨k1, k2, k3, k4, _, k6, _⟩ := rdw_sound h rfl
  rw [List.drop_zero, List.drop_length, List.append_nil] at k6
  exact ⟨k6, k1, k2, k3, k4⟩
/-! the program's loop -/
theorem mem_tr {M : Mem} {l : Ms} {d : D} (hs : seqOf M d = some (true, l.map fun w => .tup w.ds)) (h : ∀ w ∈ l, w.ok) : memD M (.tup [.str "turn"]) d = some (htM l) := by
  unfold memD
  rw [hs]
  dsimp only
  rw [if_neg (by intro z; cases z.1), toPs_t]
  have hs : SeqAt.shaped (.list (l.map fun w => .tuple (w.words.map PyData.str))) = true := sh_tt h
  show (if SeqAt.shaped (.tuple [.str "turn"]) = true ∧ SeqAt.shaped (.list (l.map fun w => .tuple (w.words.map PyData.str))) = true then _ else none) = _
  rw [if_pos ⟨by decide +kernel, hs⟩]
  congr 1
  exact any_ht eqv_t l
theorem tpl_ds (ms : Ms) : tpl (ms.map Mw.ds) = ms.map fun w => .tup w.ds := by
  unfold tpl
  rw [List.map_map]
  rfl
section
variable {P : List Str} {M : Mem}
theorem rmT_val {L : List D} {e : Nat} {d : D} (hv : ∀ s ∈ P, s ∈ voc) (he : e ≤ P.length) (b : Bool) (hb : b = (decide (L.length = 4) || (decide (e = P.length) || !decide (P[e]? = some (Str.ofString "then"))))) : evT (Γn 27) rmT [some (.lst (Pd P)), some (.int (e : Int)), some (.ref M.length), some d] (M ++ [.lst L]) = .ok b (M ++ [.lst L]) := by
  have hc : (Γn 27).cst "MOST_MOVES" = some (.int 4) := by kernel_rfl
  have l1 : lenD (M ++ [.lst L]) (.ref M.length) = .ok (.int (L.length : Int)) (M ++ [.lst L]) := by
    unfold lenD
    simp only [at_end]
  have l2 : lenD (M ++ [.lst L]) (.lst (Pd P)) = .ok (.int (P.length : Int)) (M ++ [.lst L]) := by
    show Rs.ok (D.int ((P.map D.str).length : Nat)) _ = _
    rw [List.length_map]
  have e1 : eqD (M ++ [.lst L]) (.int (L.length : Int)) (.int 4) = some (decide (L.length = 4)) := by
    rw [MX.eq_int]
    congr 1
    exact decide_eq_decide.mpr (by omega)
  have e2 : eqD (M ++ [.lst L]) (.int (e : Int)) (.int (P.length : Int)) = some (decide (e = P.length)) := by
    rw [MX.eq_int]
    congr 1
    exact decide_eq_decide.mpr (by omega)
  have fin : ∀ (b4 bl : Bool) (rest : Rs Bool), (b4 = true → rest = .ok true (M ++ [.lst L])) → True := fun _ _ _ _ => True.intro
  unfold rmT
  generalize hMx : M ++ [MO.lst L] = Mx at *
  generalize (L.length : Int) = LL at *
  subst hb
  cases h4 : decide (L.length = 4) with
  | true =>
    rw [h4] at e1
    show _ = Rs.ok true Mx
    generalize Pd P = ws at *
    clear fin hv he h4 hMx e2
    walk_at "ev"
  | false =>
    rw [h4] at e1
    cases h5 : decide (e = P.length) with
    | true =>
      rw [h5] at e2
      show _ = Rs.ok true Mx
      generalize Pd P = ws at *
      clear fin hv he h4 hMx h5
      walk_at "ev"
    | false =>
      rw [h5] at e2
      have hlt : e < P.length := by
        have := of_decide_eq_false h5
        omega
      have hg : P[e]? = some P[e] := List.getElem?_eq_getElem hlt
      have hw := in_voc hv hg
      have e3 := List.map_inj_left.mp (then_all Mx) P[e] hw
      have ix : atI (Pd P) (e : Int) = some (.str P[e]) := atI_nat (by rw [List.getElem?_map, hg]; rfl)
      rw [hg]
      have eq : decide (some P[e] = some (Str.ofString "then")) = decide (P[e] = (Str.ofString "then")) := decide_eq_decide.mpr ⟨fun h => Option.some.inj h, fun h => by rw [h]⟩
      rw [eq]
      generalize P[e] = s at *
      generalize Pd P = ws at *
      cases h6 : decide (s = (Str.ofString "then")) with
      | true =>
        rw [h6] at e3
        show _ = Rs.ok false Mx
        clear fin hv he h4 hMx h5 h6 hlt hg hw eq
        walk_at "ev"
      | false =>
        rw [h6] at e3
        show _ = Rs.ok true Mx
        clear fin hv he h4 hMx h5 h6 hlt hg hw eq
        walk_at "ev"
theorem whl_1 {n : Nat} {c : Rho → Mem → Rs Bool} {b : Rho → Mem → RS} {r : Rho} {M1 : Mem} (hc : c r M = .ok true M1) : whlGo c b (n + 1) r M = (match b r M1 with
    | .nx r M => whlGo c b n r M
    | .ct r M => whlGo c b n r M
    | .bk r M => .nx r M
    | y => y) := by
  show (c r M).go r _ = _
  rw [hc]
  rfl
theorem prog_loop (hv : ∀ s ∈ P, s ∈ voc) {k a : Nat} {t : Bool} {o : Nat ⊕ (Ms × Nat)} (h : RdW P k a t o) : ∀ {done : Ms} {o3 : Option D}, done.length + k = 4 → htM done = t → (∀ w ∈ done, w.ok) → ∀ n, k ≤ n →
    (∀ i, o = .inl i → ∃ r xs, whlGo (evT (Γn 27) (.tru (.bl true))) (evSs (Γn 27) rmB) n [some (.lst (Pd P)), some (.int (a : Int)), some (.ref M.length), o3] (M ++ [.lst (tpl (done.map Mw.ds))]) = .exc "BadWord" ["index"] [.int (i : Int)] r (M ++ [.lst xs])) ∧
    (∀ ms e, o = .inr (ms, e) → whlGo (evT (Γn 27) (.tru (.bl true))) (evSs (Γn 27) rmB) n [some (.lst (Pd P)), some (.int (a : Int)), some (.ref M.length), o3] (M ++ [.lst (tpl (done.map Mw.ds))]) = .rt (.tup [.tup (tpl ((done ++ ms).map Mw.ds)), .int (e : Int)]) (M ++ [.lst (tpl ((done ++ ms).map Mw.ds))])) := by
  have hm : ∀ {done : Ms}, (∀ w ∈ done, w.ok) → memD (M ++ [.lst (tpl (done.map Mw.ds))]) (.tup [.str "turn"]) (.ref M.length) = some (htM done) := fun {done} hd => mem_tr (by
    unfold seqOf
    simp only [at_end]
    rw [tpl_ds]) hd
  have bd : ∀ {a : Nat} {w : Mw} {done : Ms} {o3 : Option D} {t : Bool}, htM done = t → (∀ w ∈ done, w.ok) → done.length < 4 → RdM P a t (.inr w) → evSs (Γn 27) rmB [some (.lst (Pd P)), some (.int (a : Int)), some (.ref M.length), o3] (M ++ [.lst (tpl (done.map Mw.ds))]) = evSs (Γn 27) (.cons (.ife rmT (.cons (.ret (.tup (.cons (.blt .tuple (.cons (.var 2) .nil)) (.cons (.var 1) .nil)))) .nil) .nil) (.cons (.aug 1 .add (.int 1)) .nil)) [some (.lst (Pd P)), some (.int ((a + w.words.length : Nat) : Int)), some (.ref M.length), some (.tup w.ds)] (M ++ [.lst (tpl ((done ++ [w]).map Mw.ds))]) := fun {a w done o3 t} ht hd hl h => by
    have q := prog_move hv (ht ▸ hm hd) h
    have r := rm_body (Γ := Γn 27) (ws := Pd P) (M := M) (done := done.map Mw.ds) (at_ := (a : Int)) (mv := w.ds) (o3 := o3) q (by rw [List.length_map]; omega)
    rw [r, List.map_append, List.length_map]
    have : ((a + w.words.length : Nat) : Int) = (a : Int) + (w.words.length : Int) := by omega
    rw [this]
    rfl
  have tb : evT (Γn 27) (.tru (.bl true)) = fun _ M => Rs.ok true M := rfl
  have ll : ∀ (done : Ms) (w : Mw), (tpl ((done ++ [w]).map Mw.ds)).length = done.length + 1 := fun done w => by simp [tpl]
  have tu : ∀ L : List D, bltD (M ++ [.lst L]) .tuple [.ref M.length] = .ok (.tup L) (M ++ [.lst L]) := fun L => by
    unfold bltD seqOf
    simp only [at_end]
    rfl
  have z2 : 0 + 1 + 1 ≤ sizeLine := by decide
  have rt : ∀ (L : List D) (e : Int) (d : D), evE (Γn 27) (.tup (.cons (.blt .tuple (.cons (.var 2) .nil)) (.cons (.var 1) .nil))) [some (.lst (Pd P)), some (.int e), some (.ref M.length), some d] (M ++ [.lst L]) = .ok (.tup [.tup L, .int e]) (M ++ [.lst L]) := fun L e d => by
    have tu := tu L
    generalize M ++ [MO.lst L] = Mx at *
    generalize Pd P = ws at *
    clear ll tb bd hm h
    walk_at "ev"
  induction h with
  | @bad k a t i h =>
    intro done o3 hk ht hd n hn
    obtain ⟨n, rfl⟩ : ∃ j, n = j + 1 := ⟨n - 1, by omega⟩
    refine ⟨fun i' e => ?_, fun ms e q => (by cases q)⟩
    cases e
    have q := prog_move hv (ht ▸ hm hd) h
    refine ⟨[some (.lst (Pd P)), some (.int (a : Int)), some (.ref M.length), o3], tpl (done.map Mw.ds), ?_⟩
    rw [whl_1 (M1 := M ++ [.lst (tpl (done.map Mw.ds))]) (by rw [tb])]
    have e0 : evE (Γn 27) (.call "read_move" (.cons (.var 0) (.cons (.var 1) (.cons (.var 2) .nil)))) [some (.lst (Pd P)), some (.int (a : Int)), some (.ref M.length), o3] (M ++ [.lst (tpl (done.map Mw.ds))]) = .exc "BadWord" ["index"] [.int (i : Int)] (M ++ [.lst (tpl (done.map Mw.ds))]) := q
    unfold rmB
    rw [set_exc e0]
  | @stop k a t w h hk' =>
    intro done o3 hk ht hd n hn
    obtain ⟨n, rfl⟩ : ∃ j, n = j + 1 := ⟨n - 1, by omega⟩
    refine ⟨fun i' e => (by cases e), fun ms e q => ?_⟩
    cases q
    rw [whl_1 (M1 := M ++ [.lst (tpl (done.map Mw.ds))]) (by rw [tb]), bd ht hd (by omega) h]
    have tt := rmT_val (M := M) (L := tpl ((done ++ [w]).map Mw.ds)) (d := .tup w.ds) hv (rdm_le h) true (by
      rw [ll]
      rcases hk' with rfl | hk'
      · rw [decide_eq_true (by omega), Bool.true_or]
      · rw [decide_eq_false hk', Bool.not_false, Bool.or_true, Bool.or_true])
    rw [ife_t tt, ret_of (rt _ _ _), sg_rt]
  | @no k a t w i h hk' hN hr ih =>
    intro done o3 hk ht hd n hn
    obtain ⟨n, rfl⟩ : ∃ j, n = j + 1 := ⟨n - 1, by omega⟩
    refine ⟨fun i' e => ?_, fun ms e q => (by cases q)⟩
    cases e
    have lt := (List.getElem?_eq_some_iff.mp hN).1
    have tt := rmT_val (M := M) (L := tpl ((done ++ [w]).map Mw.ds)) (d := .tup w.ds) hv (rdm_le h) false (by
      rw [ll, decide_eq_false (by omega), decide_eq_false (by omega), decide_eq_true hN]
      rfl)
    obtain ⟨r, xs, e⟩ := (ih (done := done ++ [w]) (o3 := some (.tup w.ds)) (by simp; omega) (by rw [← ht]; unfold htM; rw [List.any_append]; simp) (fun x hx => by
      rcases List.mem_append.mp hx with hx | hx
      · exact hd x hx
      · rw [List.mem_singleton.mp hx]; exact (rdm_sound h).1) n (by omega)).1 _ rfl
    refine ⟨r, xs, ?_⟩
    rw [whl_1 (M1 := M ++ [.lst (tpl (done.map Mw.ds))]) (by rw [tb]), bd ht hd (by omega) h, ife_f tt]
    exact e
  | @more k a t w ws e' h hk' hN hr ih =>
    intro done o3 hk ht hd n hn
    obtain ⟨n, rfl⟩ : ∃ j, n = j + 1 := ⟨n - 1, by omega⟩
    refine ⟨fun i' e => (by cases e), fun ms e q => ?_⟩
    cases q
    have lt := (List.getElem?_eq_some_iff.mp hN).1
    have tt := rmT_val (M := M) (L := tpl ((done ++ [w]).map Mw.ds)) (d := .tup w.ds) hv (rdm_le h) false (by
      rw [ll, decide_eq_false (by omega), decide_eq_false (by omega), decide_eq_true hN]
      rfl)
    have e := (ih (done := done ++ [w]) (o3 := some (.tup w.ds)) (by simp; omega) (by rw [← ht]; unfold htM; rw [List.any_append]; simp) (fun x hx => by
      rcases List.mem_append.mp hx with hx | hx
      · exact hd x hx
      · rw [List.mem_singleton.mp hx]; exact (rdm_sound h).1) n (by omega)).2 _ _ rfl
    rw [List.append_assoc] at e
    rw [whl_1 (M1 := M ++ [.lst (tpl (done.map Mw.ds))]) (by rw [tb]), bd ht hd (by omega) h, ife_f tt]
    exact e
def rwR (M : Mem) : Nat ⊕ (Ms × Nat) → Rs D
  | .inl i => bwD M (i : Int)
  | .inr (ms, e) => .ok (.tup [.tup (ms.map fun w => .tup w.ds), .int (e : Int)]) M
theorem prog_moves (hv : ∀ s ∈ P, s ∈ voc) {o : Nat ⊕ (Ms × Nat)} (h : RdW P 4 0 false o) (hM : M.all (lowM M.length) = true) : (Γn 28).cs.f "read_moves" [.lst (Pd P), .int 0] M = rwR M o := by
  rw [show (Γn 28).cs.f "read_moves" = callF (Γn 27) readMovesF from cal (by kernel_rfl)]
  rw [callF_run (by rfl), show startD readMovesF.N [D.lst (Pd P), .int 0] = [some (.lst (Pd P)), some (.int 0), none, none] from rfl]
  obtain ⟨q1, q2⟩ := prog_loop (M := M) hv h (done := []) (o3 := none) rfl rfl (fun _ h => by cases h) whlMax (by decide)
  have s0 : ∀ x : RS, whlGo (evT (Γn 27) (.tru (.bl true))) (evSs (Γn 27) rmB) whlMax [some (.lst (Pd P)), some (.int ((0 : Nat) : Int)), some (.ref M.length), none] (M ++ [.lst []]) = x → (∀ r' M', x ≠ .nx r' M') → evSs (Γn 27) readMovesF.body [some (.lst (Pd P)), some (.int 0), none, none] M = x := fun x e hx => by
    unfold readMovesF
    rw [set_of (d := .ref M.length) (M' := M ++ [.lst []]) (by kernel_rfl)]
    simp only [List.set_cons_succ, List.set_cons_zero]
    rw [MX.ss_cons, s_whl']
    have e : whlGo (evT (Γn 27) (.tru (.bl true))) (evSs (Γn 27) rmB) whlMax [some (.lst (Pd P)), some (.int 0), some (.ref M.length), none] (M ++ [.lst []]) = x := e
    unfold rmB at e
    rw [e]
    cases x with
    | nx r' M' => exact absurd rfl (hx r' M')
    | _ => rfl
  match o, q1, q2 with
  | .inl i, q1, _ =>
    obtain ⟨r, xs, e⟩ := q1 i rfl
    rw [s0 _ e (fun _ _ h => by cases h)]
    show (match frzDs (frzR (M ++ [.lst xs]) M.length 64) [.int (i : Int)], cutM M.length (M ++ [.lst xs]) with
      | some d', some M' => Rs.exc "BadWord" ["index"] d' M'
      | _, _ => .bad) = _
    rw [cut_app hM]
    rfl
  | .inr (ms, e), _, q2 =>
    have e := q2 ms e rfl
    rw [s0 _ e (fun _ _ h => by cases h), List.nil_append, tpl_ds]
    refine fin_pure1 ?_ hM
    show (lowDs 0 (ms.map fun w => .tup w.ds) && (true && true)) = true
    rw [low_map (f := fun w : Mw => D.tup w.ds) fun w => ds_low w 0]
    rfl
/-- no word: from where on -/
def wrO (P : List Str) : Nat ⊕ (Ms × Nat) → Option Nat
  | .inl i => some i
  | .inr (_, e) => if e = P.length then none else some e
theorem wb_len (hv : ∀ s ∈ P, s ∈ voc) (hl : P.length ≤ 1000) : (Txt.join " " P).length ≤ 9000 := by
  have h1 := join_len P fun s hs => (voc_ok s (hv s hs)).2.1
  omega
theorem word_bad (hv : ∀ s ∈ P, s ∈ voc) (hne : P ≠ []) (hP : P.length ≤ 1000) {o : Nat ⊕ (Ms × Nat)} (h : RdW P 4 0 false o) {i : Nat} (hw : wrO P o = some i) (hM : ∀ k, M.all (lowM k) = true) : mkI false M.length ((Γn 29).cs.f (mkey "Word" "__init__") [.ref M.length, .str (Txt.join " " P)] (M ++ [.ins "Word" [] []])) = bwD M (i : Int) := by
  have hs : sizeLine = 16777216 := sizeLine_eq
  have hM2 : (M ++ [MO.ins "Word" [] []]).all (lowM (M ++ [MO.ins "Word" [] []]).length) = true := by
    rw [List.all_append, hM]
    rfl
  have sp := split_join hne fun s hs => (voc_ok s (hv s hs)).1
  have hlen := wb_len hv hP
  have pm := prog_moves hv h hM2
  have b1 : methD (M ++ [.ins "Word" [] []]) (.split false) (.str (Txt.join " " P)) [.str " "] = .ok (.lst (Pd P)) (M ++ [.ins "Word" [] []]) := by
    show (if ((" " : Str).length == 0) = false ∧ (Txt.join " " P).length + 2 ≤ sizeLine then mkL false ((Txt.split (Txt.join " " P) " ").map D.str) _ else .bad) = _
    rw [if_pos ⟨by decide, by omega⟩, sp]
    rfl
  have e1 : evE (Γn 28) (.meth (.split false) (.var 1) (.cons (.str " ") .nil)) [some (.ref M.length), some (.str (Txt.join " " P)), none, none, none, none] (M ++ [.ins "Word" [] []]) = .ok (.lst (Pd P)) (M ++ [.ins "Word" [] []]) := by
    have t1 : tyD (M ++ [.ins "Word" [] []]) (.split false) (.str (Txt.join " " P)) = true := rfl
    generalize M ++ [MO.ins "Word" [] []] = Mx at *
    generalize Txt.join " " P = T at *
    generalize Pd P = ws at *
    clear hM2 hM sp hlen pm hv hne hP h hs hw
    walk_at "ev"
  have e2 : evE (Γn 28) (.call "read_moves" (.cons (.var 2) (.cons (.int 0) .nil))) [some (.ref M.length), some (.str (Txt.join " " P)), some (.lst (Pd P)), none, none, none] (M ++ [.ins "Word" [] []]) = rwR (M ++ [.ins "Word" [] []]) o := pm
  have fin : ∀ r, finE false (M ++ [MO.ins "Word" [] []]).length (.exc "BadWord" ["index"] [.int (i : Int)] r (M ++ [.ins "Word" [] []])) = bwD (M ++ [.ins "Word" [] []]) (i : Int) := fun r => by
    show (match frzDs (frzR (M ++ [.ins "Word" [] []]) (M ++ [MO.ins "Word" [] []]).length 64) [.int (i : Int)], cutM (M ++ [MO.ins "Word" [] []]).length (M ++ [.ins "Word" [] []]) with
      | some d', some M' => Rs.exc "BadWord" ["index"] d' M'
      | _, _ => .bad) = _
    unfold cutM
    rw [if_pos rfl]
    rfl
  have key : ∃ r, evSs (Γn 28) initF.body [some (.ref M.length), some (.str (Txt.join " " P)), none, none, none, none] (M ++ [.ins "Word" [] []]) = .exc "BadWord" ["index"] [.int (i : Int)] r (M ++ [.ins "Word" [] []]) := by
    unfold initF
    rw [set_of e1]
    simp only [List.set_cons_succ, List.set_cons_zero]
    match o, hw, e2 with
    | .inl j, hw, e2 =>
      cases hw
      refine ⟨[some (.ref M.length), some (.str (Txt.join " " P)), some (.lst (Pd P)), none, none, none], ?_⟩
      rw [MX.ss_cons, s_unp', e2]
      rfl
    | .inr (ms, e), hw, e2 =>
      have hw : (if e = P.length then none else some e) = some i := hw
      split at hw
      · cases hw
      · rename_i hne'
        cases hw
        have hle := (rdw_sound h rfl).2.2.2.2.2.2
        have lt : (i : Int) < (P.length : Int) := by omega
        rw [st_of (r' := [some (.ref M.length), some (.str (Txt.join " " P)), some (.lst (Pd P)), some (.tup (ms.map fun w => .tup w.ds)), some (.int (i : Int)), none]) (M' := M ++ [.ins "Word" [] []]) (by
          rw [s_unp', e2]
          rfl)]
        have l2 : lenD (M ++ [.ins "Word" [] []]) (.lst (Pd P)) = .ok (.int (P.length : Int)) (M ++ [.ins "Word" [] []]) := by
          show Rs.ok (D.int ((P.map D.str).length : Nat)) _ = _
          rw [List.length_map]
        have t1 : evT (Γn 28) (.val (.cmp .lt (.var 4) (.blt .len (.cons (.var 2) .nil)))) [some (.ref M.length), some (.str (Txt.join " " P)), some (.lst (Pd P)), some (.tup (ms.map fun w => .tup w.ds)), some (.int (i : Int)), none] (M ++ [.ins "Word" [] []]) = .ok true (M ++ [.ins "Word" [] []]) := by
          generalize M ++ [MO.ins "Word" [] []] = Mx at *
          generalize Txt.join " " P = T at *
          generalize Pd P = ws at *
          generalize (ms.map fun w => D.tup w.ds) = Q at *
          generalize (P.length : Int) = PL at *
          clear hM2 hM sp hlen pm hv hne hP h hs hne' hle e1 e2 fin b1
          walk_at "ev"
        exact ⟨_, ife_rai t1 (es_var rfl) exc_bw rfl⟩
  obtain ⟨r, key⟩ := key
  rw [show (Γn 29).cs.f (mkey "Word" "__init__") = callF (Γn 28) initF from cal (by kernel_rfl), callF_run (by rfl), show startD initF.N [D.ref M.length, .str (Txt.join " " P)] = [some (.ref M.length), some (.str (Txt.join " " P)), none, none, none, none] from rfl, key]
  show mkI false M.length (finE false _ _) = _
  rw [fin]
  show (match frzDs (frzR (M ++ [.ins "Word" [] []]) M.length 64) [.int (i : Int)], cutM M.length (M ++ [.ins "Word" [] []]) with
    | some d', some M' => Rs.exc "BadWord" ["index"] d' M'
    | _, _ => .bad) = _
  rw [cut_app (hM _)]
  rfl
end
/-! ### the law reads a text -/
section
variable {P : List Str} {M : Mem}
theorem read_bad (hv : ∀ s ∈ P, s ∈ voc) (hne : P ≠ []) (hP : P.length ≤ 1000) {o : Nat ⊕ (Ms × Nat)} (h : RdW P 4 0 false o) {i : Nat} (hw : wrO P o = some i) (hM : ∀ k, M.all (lowM k) = true) : (Γn 30).cs.f "_law_read" [.str (Txt.join " " P)] M = .ok (.tup [.str "word", .int (i : Int), .bl true]) M := by
  rw [show (Γn 30).cs.f "_law_read" = callF (Γn 29) d__law_read from cal (by kernel_rfl)]
  refine callF_eq (fd := d__law_read) rfl rfl ?_ rfl rfl
  rw [show startD d__law_read.N [D.str (Txt.join " " P)] = [some (.str (Txt.join " " P)), none] from rfl]
  have wb := word_bad hv hne hP h hw hM
  generalize Txt.join " " P = T at *
  have e0 : evE (Γn 29) (.fld (.make false "Word" (.cons (.var 0) .nil)) "moves") [some (.str T), none] M = bwD M (i : Int) := by
    rw [e_fld, e_make, es_cons, e_var, show get [some (D.str T), none] 0 = some (.str T) from rfl, v_d, rb_ok, k_es, es_nil, rb_ok, k_es2, rb_ok, k_mk, wb]
    rfl
  show evSs (Γn 29) b__law_read [some (.str T), none] M = _
  unfold b__law_read
  rw [MX.ss_cons, s_try', MX.ss_cons, s_ret', e0]
  kernel_rfl
theorem read_good {ms : Ms} (g : Gm ms) (hl : M.length ≤ 3) (hM : ∀ k, M.all (lowM k) = true) : (Γn 30).cs.f "_law_read" [.str (txM ms)] M = .ok (.tup (ms.map fun w => .tup w.ds)) M := by
  rw [show (Γn 30).cs.f "_law_read" = callF (Γn 29) d__law_read from cal (by kernel_rfl)]
  refine callF_eq (fd := d__law_read) rfl rfl ?_ rfl (low_map (f := fun w : Mw => D.tup w.ds) fun w => ds_low w 0)
  rw [show startD d__law_read.N [D.str (txM ms)] = [some (.str (txM ms)), none] from rfl]
  have mk := make_of (r := [some (.str (txM ms)), none]) (e := .var 0) g rfl hl hM
  have f1 : fldD (Γn 29).g M (wDm ms) "moves" = .ok (.tup (ms.map fun w => .tup w.ds)) M := by kernel_rfl
  show evSs (Γn 29) b__law_read _ M = _
  unfold b__law_read
  rw [MX.ss_cons, s_try', ret_of (show evE (Γn 29) (.fld (.make false "Word" (.cons (.var 0) .nil)) "moves") [some (.str (txM ms)), none] M = _ from by rw [e_fld, mk, rb_ok, k_fld, f1]), k_try_rt, sg_rt]
end
/-! ### the law's walk -/
abbrev plX : D := .lst (plL.map D.str)
abbrev amX : D := .lst ((numL ++ [(Str.ofString "half")]).map D.str)
theorem call0 {Γ : MP.Env} {f : Str} {r : Rho} {M : Mem} : evE Γ (.call f .nil) r M = Γ.cs.f f [] M := by rw [e_call, es_nil, rb_ok]
theorem nums_ok {k : Nat} {M : Mem} : (Γn (k + 1)).cs.f "_law_numbers" [] M = .ok (.lst (numL.map D.str)) M := by
  rw [show (Γn (k + 1)).cs.f "_law_numbers" = callF (Γn k) d__law_numbers from cal (by kernel_rfl)]
  exact callF_eq (fd := d__law_numbers) rfl rfl (by kernel_rfl) rfl (by kernel_rfl)
theorem places_ok {k : Nat} {M : Mem} : (Γn (k + 2)).cs.f "_law_places" [] M = .ok plX M := by
  rw [show (Γn (k + 2)).cs.f "_law_places" = callF (Γn (k + 1)) d__law_places from cal (by kernel_rfl)]
  refine callF_eq (fd := d__law_places) rfl rfl ?_ rfl (by kernel_rfl)
  have e0 : evE (Γn (k + 1)) (.bin false .add (.lst false (.cons (.str "0") (.cons (.str "half") .nil))) (.call "_law_numbers" .nil)) [none, none] M = .ok (.lst (((Str.ofString "0") :: (Str.ofString "half") :: numL).map D.str)) M := by
    rw [e_bin, show evE (Γn (k + 1)) (.lst false (.cons (.str "0") (.cons (.str "half") .nil))) [none, none] M = .ok (.lst [.str "0", .str "half"]) M from by kernel_rfl, rb_ok, k_bin, call0, nums_ok, rb_ok]
    kernel_rfl
  show evSs (Γn (k + 1)) b__law_places [none, none] M = _
  unfold b__law_places
  rw [set_of e0]
  kernel_rfl
theorem pl_in (M : Mem) : voc.map (fun s => memD M (.str s) plX) = voc.map fun s => some (plF s).isSome := by kernel_rfl
theorem am_in (M : Mem) : voc.map (fun s => memD M (.str s) amX) = voc.map fun s => some (amF s).isSome := by kernel_rfl
def lmD (P : List Str) (a : Nat) : Nat ⊕ Mw → D
  | .inl i => .tup [.int (i : Int)]
  | .inr w => .int ((a + w.words.length : Nat) : Int)
def leB : SSs := (.cons (.ife (.val (.cmp .ge (.bin false .add (.bin false .add (.var 1) (.int 1)) (.var 4)) (.blt .len (.cons (.var 0) .nil))))
  (.cons (.ret (.tup (.cons (.blt .len (.cons (.var 0) .nil)) .nil)))
  .nil)
  .nil)
  (.cons (.ife (.val (.cmp .notin (.ix (.var 0) (.bin false .add (.bin false .add (.var 1) (.int 1)) (.var 4))) (.ix (.var 3) (.var 4))))
  (.cons (.ret (.tup (.cons (.bin false .add (.bin false .add (.var 1) (.int 1)) (.var 4)) .nil)))
  .nil)
  .nil)
  .nil))
section
variable {P : List Str} {M : Mem} {a : Nat}
theorem ix_at {i : Int} {b : Nat} (hi : i = (b : Int)) {s : Str} (h : P[b]? = some s) : atI (Pd P) i = some (.str s) := by
  subst hi
  exact atI_nat (by rw [List.getElem?_map, h]; rfl)
theorem len_at {M : Mem} : lenD M (.lst (Pd P)) = .ok (.int (P.length : Int)) M := by
  show Rs.ok (D.int ((P.map D.str).length : Nat)) _ = _
  rw [List.length_map]
theorem step_no {W : List D} {k : Nat} {o4 : Option D} {t : Bool} (h : P[a + 1 + k]? = none) : stepF (Γn 27) (.nm 4) leB (.int (k : Int)) [some (.lst (Pd P)), some (.int (a : Int)), some (.bl t), some (.ref M.length), o4] (M ++ [.lst W]) = .rt (.tup [.int (P.length : Int)]) (M ++ [.lst W]) := by
  have h := List.getElem?_eq_none_iff.mp h
  have c1 : (P.length : Int) ≤ (a : Int) + 1 + (k : Int) := by omega
  have l1 := len_at (P := P) (M := M ++ [.lst W])
  have z1 : 0 + 1 ≤ sizeLine := by decide
  rw [k_step]
  simp only [List.set_cons_succ, List.set_cons_zero]
  generalize M ++ [MO.lst W] = Mx at *
  generalize Pd P = ws at *
  clear h
  unfold leB
  walk_at "ev"
theorem step_in {W : List D} {k : Nat} {o4 : Option D} {t : Bool} {s : Str} {X : D} (h : P[a + 1 + k]? = some s) (hX : W[k]? = some X) (b : Bool) (hb : ∀ M : Mem, memD M (.str s) X = some b) : stepF (Γn 27) (.nm 4) leB (.int (k : Int)) [some (.lst (Pd P)), some (.int (a : Int)), some (.bl t), some (.ref M.length), o4] (M ++ [.lst W]) =
    (match b with
    | false => .rt (.tup [.int ((a + 1 + k : Nat) : Int)]) (M ++ [.lst W])
    | true => .nx [some (.lst (Pd P)), some (.int (a : Int)), some (.bl t), some (.ref M.length), some (.int (k : Int))] (M ++ [.lst W])) := by
  have hl := (List.getElem?_eq_some_iff.mp h).1
  have c1 : ¬ (P.length : Int) ≤ (a : Int) + 1 + (k : Int) := by omega
  have ei : ((a + 1 + k : Nat) : Int) = (a : Int) + 1 + (k : Int) := by omega
  have g1 : atI (Pd P) ((a : Int) + 1 + (k : Int)) = some (.str s) := ix_at ei.symm h
  have g2 : ixD (M ++ [.lst W]) (.ref M.length) (.int (k : Int)) = .ok X (M ++ [.lst W]) := by
    unfold ixD seqOf
    simp only [at_end]
    show opt (atI W (k : Int)) (fun d => Rs.ok d (M ++ [MO.lst W])) = _
    rw [atI_nat hX]
    rfl
  have l1 := len_at (P := P) (M := M ++ [.lst W])
  have hb := hb (M ++ [.lst W])
  have z1 : 0 + 1 ≤ sizeLine := by decide
  rw [k_step, ei]
  simp only [List.set_cons_succ, List.set_cons_zero]
  generalize M ++ [MO.lst W] = Mx at *
  generalize Pd P = ws at *
  unfold leB
  cases b with
  | true =>
    clear h hX hl ei
    walk_at "ev"
  | false =>
    clear h hX hl ei
    walk_at "ev"
end
theorem er_in (M : Mem) : voc.map (fun s => memD M (.str s) (.tup [.str "exchange", .str "roll"])) = voc.map fun s => some (decide (s = (Str.ofString "exchange")) || decide (s = (Str.ofString "roll"))) := by kernel_rfl
abbrev lR0 (P : List Str) (a : Nat) (t : Bool) : Rho := [some (.lst (Pd P)), some (.int (a : Int)), some (.bl t), none, none]
def wants (w : Str) : List D := if w = (Str.ofString "exchange") then [plX, plX] else [plX, plX, amX]
section
variable {P : List Str} {M : Mem} {a : Nat} {t : Bool}
theorem tA (h : P[a]? = none) : evT (Γn 27) (.val (.cmp .ge (.var 1) (.blt .len (.cons (.var 0) .nil)))) [some (.lst (Pd P)), some (.int (a : Int)), some (.bl t), none, none] M = .ok true M := by
  have h := List.getElem?_eq_none_iff.mp h
  have c1 : (P.length : Int) ≤ (a : Int) := by omega
  have l1 := len_at (P := P) (M := M)
  generalize Pd P = ws at *
  clear h
  walk_at "ev"
theorem tA' {w : Str} (h : P[a]? = some w) : evT (Γn 27) (.val (.cmp .ge (.var 1) (.blt .len (.cons (.var 0) .nil)))) [some (.lst (Pd P)), some (.int (a : Int)), some (.bl t), none, none] M = .ok false M := by
  have h := (List.getElem?_eq_some_iff.mp h).1
  have c1 : ¬ (P.length : Int) ≤ (a : Int) := by omega
  have l1 := len_at (P := P) (M := M)
  generalize Pd P = ws at *
  clear h
  walk_at "ev"
theorem ixv {Γ : MP.Env} {w : Str} (h : P[a]? = some w) (o2 o3 o4 : Option D) (M : Mem) : evE Γ (.ix (.var 0) (.var 1)) [some (.lst (Pd P)), some (.int (a : Int)), o2, o3, o4] M = .ok (.str w) M := by
  have g1 : atI (Pd P) (a : Int) = some (.str w) := ix_at rfl h
  generalize Pd P = ws at *
  clear h
  walk_at "ev"
theorem tB (hv : ∀ s ∈ P, s ∈ voc) {w : Str} (h : P[a]? = some w) : evT (Γn 27) (.and (.val (.cmp .eq (.ix (.var 0) (.var 1)) (.str "turn"))) (.not (.tru (.var 2)))) [some (.lst (Pd P)), some (.int (a : Int)), some (.bl t), none, none] M = .ok (decide (w = (Str.ofString "turn")) && !t) M := by
  have e := List.map_inj_left.mp (turn_all M) w (in_voc hv h)
  rw [t_and, t_val, e_cmp, ixv h, rb_ok, k_cmp]
  generalize Pd P = ws at *
  cases hx : decide (w = (Str.ofString "turn")) with
  | true =>
    rw [hx] at e
    show _ = Rs.ok (!t) M
    clear hv h hx
    walk_at "ev"
  | false =>
    rw [hx] at e
    show _ = Rs.ok false M
    clear hv h hx
    walk_at "ev"
theorem tC (hv : ∀ s ∈ P, s ∈ voc) {w : Str} (h : P[a]? = some w) : evT (Γn 27) (.val (.cmp .notin (.ix (.var 0) (.var 1)) (.tup (.cons (.str "exchange") (.cons (.str "roll") .nil))))) [some (.lst (Pd P)), some (.int (a : Int)), some (.bl t), none, none] M = .ok (!(decide (w = (Str.ofString "exchange")) || decide (w = (Str.ofString "roll")))) M := by
  have e := List.map_inj_left.mp (er_in M) w (in_voc hv h)
  have z2 : 0 + 1 + 1 ≤ sizeLine := by decide
  rw [t_val, e_cmp, ixv h, rb_ok, k_cmp]
  generalize (decide (w = (Str.ofString "exchange")) || decide (w = (Str.ofString "roll"))) = b at *
  clear hv h
  walk_at "ev"
theorem lkind (hv : ∀ s ∈ P, s ∈ voc) {w : Str} (h : P[a]? = some w) (he : w = (Str.ofString "exchange") ∨ w = (Str.ofString "roll")) : evSs (Γn 27) b__law_move_end [some (.lst (Pd P)), some (.int (a : Int)), some (.bl t), none, none] M = evSs (Γn 27) (.cons (.for_ (.nm 4) (.rng1 (.blt .len (.cons (.var 3) .nil))) leB) (.cons (.ret (.bin false .add (.bin false .add (.var 1) (.int 1)) (.blt .len (.cons (.var 3) .nil)))) .nil)) [some (.lst (Pd P)), some (.int (a : Int)), some (.bl t), some (.ref M.length), none] (M ++ [.lst (wants w)]) := by
  have hT : decide (w = (Str.ofString "turn")) = false := by rcases he with rfl | rfl <;> decide
  have hE : (!(decide (w = (Str.ofString "exchange")) || decide (w = (Str.ofString "roll")))) = false := by rcases he with rfl | rfl <;> decide
  have z3 : 0 + 1 + 1 + 1 ≤ sizeLine := by decide
  have s3 : evE (Γn 27) (.lst true (.cons (.call "_law_places" .nil) (.cons (.call "_law_places" .nil) (.cons (.bin false .add (.call "_law_numbers" .nil) (.lst false (.cons (.str "half") .nil))) .nil)))) [some (.lst (Pd P)), some (.int (a : Int)), some (.bl t), none, none] M = .ok (.ref M.length) (M ++ [.lst [plX, plX, amX]]) := by
    have e2 : evE (Γn 27) (.bin false .add (.call "_law_numbers" .nil) (.lst false (.cons (.str "half") .nil))) [some (.lst (Pd P)), some (.int (a : Int)), some (.bl t), none, none] M = .ok amX M := by
      rw [e_bin, call0, nums_ok, rb_ok, k_bin, show evE (Γn 27) (.lst false (.cons (.str "half") .nil)) [some (.lst (Pd P)), some (.int (a : Int)), some (.bl t), none, none] M = .ok (.lst [.str "half"]) M from by kernel_rfl, rb_ok]
      kernel_rfl
    rw [e_lst, es_cons, call0, places_ok, rb_ok, k_es, es_cons, call0, places_ok, rb_ok, k_es, es_cons, e2, rb_ok, k_es, es_nil, rb_ok, k_es2, rb_ok, k_es2, rb_ok, k_es2, rb_ok, k_lst]
    rfl
  unfold b__law_move_end
  rw [ife_f (tA' h), ife_f (M' := M) (by rw [tB hv h, hT]; rfl), ife_f (M' := M) (by rw [tC hv h, hE]), set_of s3]
  simp only [List.set_cons_succ, List.set_cons_zero]
  have tE : ∀ Mx : Mem, evT (Γn 27) (.val (.cmp .eq (.ix (.var 0) (.var 1)) (.str "exchange"))) [some (.lst (Pd P)), some (.int (a : Int)), some (.bl t), some (.ref M.length), none] Mx = .ok (decide (w = (Str.ofString "exchange"))) Mx := fun Mx => by
    have e := List.map_inj_left.mp (exch_all Mx) w (in_voc hv h)
    rw [t_val, e_cmp, ixv h, rb_ok, k_cmp]
    generalize decide (w = (Str.ofString "exchange")) = b at *
    clear hv h
    walk_at "ev"
  rcases he with rfl | rfl
  · rw [ife_t (M' := M ++ [.lst [plX, plX, amX]]) ((tE _).trans (by rw [decide_eq_true rfl]))]
    have po : evS (Γn 27) (.ex (.meth .pop (.var 3) .nil)) [some (.lst (Pd P)), some (.int (a : Int)), some (.bl t), some (.ref M.length), none] (M ++ [.lst [plX, plX, amX]]) = .nx [some (.lst (Pd P)), some (.int (a : Int)), some (.bl t), some (.ref M.length), none] (M ++ [.lst [plX, plX]]) := by
      have ty : tyD (M ++ [.lst [plX, plX, amX]]) .pop (.ref M.length) = true := by
        unfold tyD lstOf
        simp only [at_end]
        rfl
      have pp : methD (M ++ [.lst [plX, plX, amX]]) .pop (.ref M.length) [] = .ok amX (M ++ [.lst [plX, plX]]) := by
        unfold methD updL
        simp only [at_end]
        show Rs.ok amX ((M ++ [MO.lst [plX, plX, amX]]).set M.length (.lst [plX, plX])) = _
        rw [set_end]
      generalize M ++ [MO.lst [plX, plX, amX]] = Mx at *
      generalize M ++ [MO.lst [plX, plX]] = My at *
      generalize Pd P = ws at *
      generalize plX = A at *
      generalize amX = B at *
      clear tE s3 hv h hT hE
      walk_at "ev"
    rw [st_of po, MX.ss_nil, sg_nx]
    rfl
  · rw [ife_f (M' := M ++ [.lst [plX, plX, amX]]) ((tE _).trans (by rw [decide_eq_false (by decide)]))]
    rfl
theorem law_move (hv : ∀ s ∈ P, s ∈ voc) {o : Nat ⊕ Mw} (h : RdM P a t o) (hM : M.all (lowM M.length) = true) : (Γn 28).cs.f "_law_move_end" [.lst (Pd P), .int (a : Int), .bl t] M = .ok (lmD P a o) M := by
  rw [show (Γn 28).cs.f "_law_move_end" = callF (Γn 27) d__law_move_end from cal (by kernel_rfl)]
  have st : startD d__law_move_end.N [D.lst (Pd P), .int (a : Int), .bl t] = [some (.lst (Pd P)), some (.int (a : Int)), some (.bl t), none, none] := rfl
  have z1 : 0 + 1 ≤ sizeLine := by decide
  -- from the loop on
  have fin : ∀ {w : Str}, P[a]? = some w → w = (Str.ofString "exchange") ∨ w = (Str.ofString "roll") → ∀ d, lowD 0 d = true → evSs (Γn 27) (.cons (.for_ (.nm 4) (.rng1 (.blt .len (.cons (.var 3) .nil))) leB) (.cons (.ret (.bin false .add (.bin false .add (.var 1) (.int 1)) (.blt .len (.cons (.var 3) .nil)))) .nil)) [some (.lst (Pd P)), some (.int (a : Int)), some (.bl t), some (.ref M.length), none] (M ++ [.lst (wants w)]) = .rt d (M ++ [.lst (wants w)]) → callF (Γn 27) d__law_move_end [.lst (Pd P), .int (a : Int), .bl t] M = .ok d M := fun {w} h0 he d hd e => by
    rw [callF_run (by rfl), st]
    show finE false M.length (evSs (Γn 27) b__law_move_end _ _) = _
    rw [lkind hv h0 he, e]
    exact fin_pure1 hd hM
  have it : ∀ W : List D, evI (Γn 27) (.rng1 (.blt .len (.cons (.var 3) .nil))) [some (.lst (Pd P)), some (.int (a : Int)), some (.bl t), some (.ref M.length), none] (M ++ [.lst W]) = (if rngOk 0 (W.length : Int) = true then .ok (.vals (rngD W.length 0)) (M ++ [.lst W]) else .bad) := fun W => by
    have l1 : lenD (M ++ [.lst W]) (.ref M.length) = .ok (.int (W.length : Int)) (M ++ [.lst W]) := by
      unfold lenD
      simp only [at_end]
    have e1 : evE (Γn 27) (.blt .len (.cons (.var 3) .nil)) [some (.lst (Pd P)), some (.int (a : Int)), some (.bl t), some (.ref M.length), none] (M ++ [.lst W]) = .ok (.int (W.length : Int)) (M ++ [.lst W]) := by
      generalize M ++ [MO.lst W] = Mx at *
      generalize Pd P = ws at *
      clear fin st hv h
      walk_at "ev"
    rw [i_r1, e1, rb_ok, k_r1, Int.toNat_natCast]
  -- the first rounds
  have go : ∀ {w : Str}, w = (Str.ofString "exchange") ∨ w = (Str.ofString "roll") → evSs (Γn 27) (.cons (.for_ (.nm 4) (.rng1 (.blt .len (.cons (.var 3) .nil))) leB) (.cons (.ret (.bin false .add (.bin false .add (.var 1) (.int 1)) (.blt .len (.cons (.var 3) .nil)))) .nil)) [some (.lst (Pd P)), some (.int (a : Int)), some (.bl t), some (.ref M.length), none] (M ++ [.lst (wants w)]) =
      (forGo (stepF (Γn 27) (.nm 4) leB) (.int ((0 : Nat) : Int) :: .int ((1 : Nat) : Int) :: (if w = (Str.ofString "exchange") then [] else [.int ((2 : Nat) : Int)])) [some (.lst (Pd P)), some (.int (a : Int)), some (.bl t), some (.ref M.length), none] (M ++ [.lst (wants w)])).go (evSs (Γn 27) (.cons (.ret (.bin false .add (.bin false .add (.var 1) (.int 1)) (.blt .len (.cons (.var 3) .nil)))) .nil)) := fun {w} he => by
    rw [MX.ss_cons, s_for', it]
    rcases he with rfl | rfl
    · rw [if_pos (by kernel_rfl), rg_ok, k_for]
      rfl
    · rw [if_pos (by kernel_rfl), rg_ok, k_for]
      rfl
  have w0 : ∀ {w : Str}, w = (Str.ofString "exchange") ∨ w = (Str.ofString "roll") → (wants w)[0]? = some plX := fun {w} he => by rcases he with rfl | rfl <;> rfl
  have w1 : ∀ {w : Str}, w = (Str.ofString "exchange") ∨ w = (Str.ofString "roll") → (wants w)[1]? = some plX := fun {w} he => by rcases he with rfl | rfl <;> rfl
  have pm : ∀ {s : Str} {b : Nat}, P[b]? = some s → plF s = none → ∀ M : Mem, memD M (.str s) plX = some false := fun {s b} hs hp M => (List.map_inj_left.mp (pl_in M) s (in_voc hv hs)).trans (by rw [hp]; rfl)
  have pm1 : ∀ {s : Str} {b : Nat} {p : Str × Str × Int}, P[b]? = some s → plF s = some p → ∀ M : Mem, memD M (.str s) plX = some true := fun {s b p} hs hp M => (List.map_inj_left.mp (pl_in M) s (in_voc hv hs)).trans (by rw [hp]; rfl)
  have am : ∀ {s : Str} {b : Nat}, P[b]? = some s → amF s = none → ∀ M : Mem, memD M (.str s) amX = some false := fun {s b} hs hp M => (List.map_inj_left.mp (am_in M) s (in_voc hv hs)).trans (by rw [hp]; rfl)
  have am1 : ∀ {s : Str} {b : Nat} {p : Str × Option Int}, P[b]? = some s → amF s = some p → ∀ M : Mem, memD M (.str s) amX = some true := fun {s b p} hs hp M => (List.map_inj_left.mp (am_in M) s (in_voc hv hs)).trans (by rw [hp]; rfl)
  have rlen : ∀ W : List D, evE (Γn 27) (.bin false .add (.bin false .add (.var 1) (.int 1)) (.blt .len (.cons (.var 3) .nil))) = evE (Γn 27) (.bin false .add (.bin false .add (.var 1) (.int 1)) (.blt .len (.cons (.var 3) .nil))) := fun _ => rfl
  have lst3 : ∀ (W : List D) (o4 : Option D), evSs (Γn 27) (.cons (.ret (.bin false .add (.bin false .add (.var 1) (.int 1)) (.blt .len (.cons (.var 3) .nil)))) .nil) [some (.lst (Pd P)), some (.int (a : Int)), some (.bl t), some (.ref M.length), o4] (M ++ [.lst W]) = .rt (.int ((a : Int) + 1 + (W.length : Int))) (M ++ [.lst W]) := fun W o4 => by
    have l1 : lenD (M ++ [.lst W]) (.ref M.length) = .ok (.int (W.length : Int)) (M ++ [.lst W]) := by
      unfold lenD
      simp only [at_end]
    refine ret_of ?_
    generalize M ++ [MO.lst W] = Mx at *
    generalize Pd P = ws at *
    clear fin st hv h it go pm am pm1 am1 w0 w1 rlen
    walk_at "ev"
  cases h with
  | none h0 =>
    refine callF_eq (fd := d__law_move_end) rfl rfl ?_ rfl rfl
    rw [st]
    show evSs (Γn 27) b__law_move_end _ _ = _
    unfold b__law_move_end
    rw [ife_t (tA h0), ret_of (d := .tup [.int (P.length : Int)]) (M' := M) (by
      have l1 := len_at (P := P) (M := M)
      generalize Pd P = ws at *
      clear fin st hv h0 it go pm am pm1 am1 w0 w1 rlen lst3
      walk_at "ev"), sg_rt]
    rfl
  | @turn h0 ht =>
    refine callF_eq (fd := d__law_move_end) rfl rfl ?_ rfl rfl
    rw [st]
    show evSs (Γn 27) b__law_move_end _ _ = _
    unfold b__law_move_end
    rw [ife_f (tA' h0), ife_t (M' := M) (by rw [tB hv h0, ht]; rfl), ret_of (d := .int ((a : Int) + 1)) (M' := M) (by rfl), sg_rt]
    rfl
  | @odd w h0 ht hE hR =>
    refine callF_eq (fd := d__law_move_end) rfl rfl ?_ rfl rfl
    rw [st]
    show evSs (Γn 27) b__law_move_end _ _ = _
    unfold b__law_move_end
    rw [ife_f (tA' h0), ife_f (M' := M) (by
      rw [tB hv h0]
      by_cases hx : w = (Str.ofString "turn")
      · have : t = true := by
          cases t with
          | false => exact absurd ⟨hx, rfl⟩ ht
          | true => rfl
        rw [this, Bool.not_true, Bool.and_false]
      · rw [decide_eq_false hx, Bool.false_and]), ife_t (M' := M) (by rw [tC hv h0, decide_eq_false hE, decide_eq_false hR]; rfl), ret_of (d := .tup [.int (a : Int)]) (M' := M) (by
      generalize Pd P = ws at *
      clear fin st hv h0 it go pm am pm1 am1 w0 w1 rlen lst3
      walk_at "ev"), sg_rt]
    rfl
  | no1 h0 he h1 =>
    refine fin h0 he _ rfl ?_
    rw [go he, forGo_cons, step_no (k := 0) h1]
    rfl
  | bad1 h0 he h1 p1 =>
    refine fin h0 he _ rfl ?_
    rw [go he, forGo_cons, step_in (k := 0) h1 (w0 he) false (pm h1 p1)]
    rfl
  | no2 h0 he h1 p1 h2 =>
    refine fin h0 he _ rfl ?_
    rw [go he, forGo_cons, step_in (k := 0) h1 (w0 he) true (pm1 h1 p1)]
    show (forGo _ _ _ _).go _ = _
    rw [forGo_cons, step_no (k := 1) h2]
    rfl
  | bad2 h0 he h1 p1 h2 p2 =>
    refine fin h0 he _ rfl ?_
    rw [go he, forGo_cons, step_in (k := 0) h1 (w0 he) true (pm1 h1 p1)]
    show (forGo _ _ _ _).go _ = _
    rw [forGo_cons, step_in (k := 1) h2 (w1 he) false (pm h2 p2)]
    rfl
  | @exch x y p q h0 h1 p1 h2 p2 =>
    refine fin h0 (.inl rfl) _ rfl ?_
    rw [go (.inl rfl), forGo_cons, step_in (k := 0) h1 (w0 (.inl rfl)) true (pm1 h1 p1)]
    show (forGo _ _ _ _).go _ = _
    rw [forGo_cons, step_in (k := 1) h2 (w1 (.inl rfl)) true (pm1 h2 p2)]
    show evSs (Γn 27) _ _ _ = _
    rw [lst3]
    congr 1
  | no3 h0 h1 p1 h2 p2 h3 =>
    refine fin h0 (.inr rfl) _ rfl ?_
    rw [go (.inr rfl), forGo_cons, step_in (k := 0) h1 (w0 (.inr rfl)) true (pm1 h1 p1)]
    show (forGo _ _ _ _).go _ = _
    rw [forGo_cons, step_in (k := 1) h2 (w1 (.inr rfl)) true (pm1 h2 p2)]
    show (forGo _ (.int ((2 : Nat) : Int) :: []) _ _).go _ = _
    rw [forGo_cons, step_no (k := 2) h3]
    rfl
  | bad3 h0 h1 p1 h2 p2 h3 p3 =>
    refine fin h0 (.inr rfl) _ rfl ?_
    rw [go (.inr rfl), forGo_cons, step_in (k := 0) h1 (w0 (.inr rfl)) true (pm1 h1 p1)]
    show (forGo _ _ _ _).go _ = _
    rw [forGo_cons, step_in (k := 1) h2 (w1 (.inr rfl)) true (pm1 h2 p2)]
    show (forGo _ (.int ((2 : Nat) : Int) :: []) _ _).go _ = _
    rw [forGo_cons, step_in (k := 2) h3 (X := amX) rfl false (am h3 p3)]
    rfl
  | roll h0 h1 p1 h2 p2 h3 p3 =>
    refine fin h0 (.inr rfl) _ rfl ?_
    rw [go (.inr rfl), forGo_cons, step_in (k := 0) h1 (w0 (.inr rfl)) true (pm1 h1 p1)]
    show (forGo _ _ _ _).go _ = _
    rw [forGo_cons, step_in (k := 1) h2 (w1 (.inr rfl)) true (pm1 h2 p2)]
    show (forGo _ (.int ((2 : Nat) : Int) :: []) _ _).go _ = _
    rw [forGo_cons, step_in (k := 2) h3 (X := amX) rfl true (am1 h3 p3)]
    show evSs (Γn 27) _ _ _ = _
    rw [lst3]
    congr 1
/-! the law's loop -/
def lvB : SSs := (.cons (.set 4 (.call "_law_move_end" (.cons (.var 0) (.cons (.var 1) (.cons (.var 2) .nil)))))
  (.cons (.ife (.tru (.isi (.var 4) "tuple"))
  (.cons (.ret (.var 4))
  .nil)
  .nil)
  (.cons (.set 2 (.or (.var 2) (.cmp .eq (.ix (.var 0) (.var 1)) (.str "turn"))))
  (.cons (.ife (.or (.val (.cmp .eq (.var 3) (.int 3))) (.or (.val (.cmp .ge (.var 4) (.blt .len (.cons (.var 0) .nil)))) (.val (.cmp .ne (.ix (.var 0) (.var 4)) (.str "then")))))
  (.cons (.ret (.var 4))
  .nil)
  .nil)
  (.cons (.set 1 (.bin false .add (.var 4) (.int 1)))
  .nil)))))
def rem4 : Nat → List D
  | 0 => []
  | k + 1 => .int (3 - (k : Int)) :: rem4 k
def lwD : Nat ⊕ (Ms × Nat) → D
  | .inl i => .tup [.int (i : Int)]
  | .inr (_, e) => .int (e : Int)
theorem first_word {w : Mw} (h : RdM P a t (.inr w)) : ∃ s, P[a]? = some s ∧ (t || decide (s = (Str.ofString "turn"))) = (t || w.ht) := by
  cases h with
  | turn h0 ht => exact ⟨_, h0, by subst ht; rfl⟩
  | exch h0 => exact ⟨_, h0, by rw [show decide ((Str.ofString "exchange") = (Str.ofString "turn")) = false from by decide]; rfl⟩
  | roll h0 => exact ⟨_, h0, by rw [show decide ((Str.ofString "roll") = (Str.ofString "turn")) = false from by decide]; rfl⟩
theorem l_go (hv : ∀ s ∈ P, s ∈ voc) {w : Mw} {k : Nat} (h : RdM P a t (.inr w)) (hM : M.all (lowM M.length) = true) {o3 o4 : Option D} : stepF (Γn 28) (.nm 3) lvB (.int (3 - (k : Int))) [some (.lst (Pd P)), some (.int (a : Int)), some (.bl t), o3, o4] M =
    (if k = 0 ∨ P[a + w.words.length]? ≠ some (Str.ofString "then") then .rt (.int ((a + w.words.length : Nat) : Int)) M else .nx [some (.lst (Pd P)), some (.int ((a + w.words.length + 1 : Nat) : Int)), some (.bl (t || w.ht)), some (.int (3 - (k : Int))), some (.int ((a + w.words.length : Nat) : Int))] M) := by
  obtain ⟨s, h0, hs⟩ := first_word h
  have hle := rdm_le h
  generalize he : a + w.words.length = e at *
  have lm : (Γn 28).cs.f "_law_move_end" [.lst (Pd P), .int (a : Int), .bl t] M = .ok (.int (e : Int)) M := (law_move hv h hM).trans (by
    show Rs.ok (D.int ((a + w.words.length : Nat) : Int)) M = _
    rw [he])
  have e1 := List.map_inj_left.mp (turn_all M) s (in_voc hv h0)
  have l1 := len_at (P := P) (M := M)
  rw [k_step]
  simp only [List.set_cons_succ, List.set_cons_zero]
  unfold lvB
  rw [set_of (d := .int (e : Int)) (M' := M) (by
    generalize Pd P = ws at *
    clear hv h h0 hs hle he hM e1 l1
    walk_at "ev")]
  simp only [List.set_cons_succ, List.set_cons_zero]
  rw [ife_f (M' := M) (by kernel_rfl)]
  rw [set_of (d := .bl (t || w.ht)) (M' := M) (by
    have ix : evE (Γn 28) (.ix (.var 0) (.var 1)) [some (.lst (Pd P)), some (.int (a : Int)), some (.bl t), some (.int (3 - (k : Int))), some (.int (e : Int))] M = .ok (.str s) M := ixv h0 _ _ _ M
    rw [← hs]
    cases t with
    | true => rfl
    | false =>
      rw [e_or, show evE (Γn 28) (.var 2) [some (.lst (Pd P)), some (.int (a : Int)), some (.bl false), some (.int (3 - (k : Int))), some (.int (e : Int))] M = .ok (.bl false) M from rfl, rb_ok, k_orf, e_cmp, ix, rb_ok, k_cmp, e_str, rb_ok, c_eq, e1]
      rfl)]
  simp only [List.set_cons_succ, List.set_cons_zero]
  have e3 : eqD M (.int (3 - (k : Int))) (.int 3) = some (decide (k = 0)) := by
    rw [MX.eq_int]
    congr 1
    exact decide_eq_decide.mpr (by omega)
  have tt : evT (Γn 28) (.or (.val (.cmp .eq (.var 3) (.int 3))) (.or (.val (.cmp .ge (.var 4) (.blt .len (.cons (.var 0) .nil)))) (.val (.cmp .ne (.ix (.var 0) (.var 4)) (.str "then"))))) [some (.lst (Pd P)), some (.int (a : Int)), some (.bl (t || w.ht)), some (.int (3 - (k : Int))), some (.int (e : Int))] M = .ok (decide (k = 0 ∨ P[e]? ≠ some (Str.ofString "then"))) M := by
    generalize (t || w.ht) = T' at *
    generalize (3 - (k : Int)) = K at *
    by_cases hk : k = 0
    · rw [decide_eq_true hk] at e3
      rw [decide_eq_true (.inl hk)]
      generalize Pd P = ws at *
      clear hv h h0 hs hle he hM e1 l1 lm
      walk_at "ev"
    · rw [decide_eq_false hk] at e3
      by_cases hl : e < P.length
      · have hg : P[e]? = some P[e] := List.getElem?_eq_getElem hl
        have e4 := List.map_inj_left.mp (then_all M) P[e] (in_voc hv hg)
        have ix : atI (Pd P) (e : Int) = some (.str P[e]) := ix_at rfl hg
        have c1 : ¬ (P.length : Int) ≤ (e : Int) := by omega
        have eq : decide (k = 0 ∨ P[e]? ≠ some (Str.ofString "then")) = !decide (P[e] = (Str.ofString "then")) := by
          rw [hg]
          by_cases hx : P[e] = (Str.ofString "then")
          · rw [decide_eq_true hx, decide_eq_false (by rintro (z | z); exact hk z; exact z (by rw [hx]))]
            rfl
          · rw [decide_eq_false hx, decide_eq_true (.inr fun z => hx (Option.some.inj z))]
            rfl
        rw [eq]
        generalize P[e] = u at *
        generalize Pd P = ws at *
        generalize decide (u = (Str.ofString "then")) = b at *
        clear hv h h0 hs hle he hM e1 lm hg hl eq hk
        walk_at "ev"
      · have c1 : (P.length : Int) ≤ (e : Int) := by omega
        rw [decide_eq_true (.inr (by rw [List.getElem?_eq_none (by omega)]; simp))]
        generalize Pd P = ws at *
        clear hv h h0 hs hle he hM e1 lm hl hk
        walk_at "ev"
  by_cases hx : k = 0 ∨ P[e]? ≠ some (Str.ofString "then")
  · rw [if_pos hx]
    rw [decide_eq_true hx] at tt
    rw [ife_t tt, ret_of (d := .int (e : Int)) (M' := M) (by rfl), sg_rt]
  · rw [if_neg hx]
    rw [decide_eq_false hx] at tt
    rw [ife_f tt]
    rfl
theorem law_loop (hv : ∀ s ∈ P, s ∈ voc) (hM : M.all (lowM M.length) = true) {k a : Nat} {t : Bool} {o : Nat ⊕ (Ms × Nat)} (h : RdW P k a t o) : ∀ {o3 o4 : Option D}, forGo (stepF (Γn 28) (.nm 3) lvB) (rem4 k) [some (.lst (Pd P)), some (.int (a : Int)), some (.bl t), o3, o4] M = .rt (lwD o) M := by
  induction h with
  | @bad k a t i h =>
    intro o3 o4
    show forGo _ (.int (3 - (k : Int)) :: rem4 k) _ _ = _
    rw [forGo_cons, k_step]
    simp only [List.set_cons_succ, List.set_cons_zero]
    unfold lvB
    rw [set_of (d := .tup [.int (i : Int)]) (M' := M) (by
      have lm : (Γn 28).cs.f "_law_move_end" [.lst (Pd P), .int (a : Int), .bl t] M = .ok (.tup [.int (i : Int)]) M := law_move hv h hM
      generalize Pd P = ws at *
      clear hv h hM
      walk_at "ev")]
    rfl
  | @stop k a t w h hk =>
    intro o3 o4
    show forGo _ (.int (3 - (k : Int)) :: rem4 k) _ _ = _
    rw [forGo_cons, l_go hv h hM, if_pos hk]
    rfl
  | @no k a t w i h hk hn hr ih =>
    intro o3 o4
    show forGo _ (.int (3 - (k : Int)) :: rem4 k) _ _ = _
    rw [forGo_cons, l_go hv h hM, if_neg (by rintro (z | z); exact hk z; exact z hn)]
    exact ih
  | @more k a t w ws e h hk hn hr ih =>
    intro o3 o4
    show forGo _ (.int (3 - (k : Int)) :: rem4 k) _ _ = _
    rw [forGo_cons, l_go hv h hM, if_neg (by rintro (z | z); exact hk z; exact z hn)]
    exact ih
def wrD : Option Nat → D
  | none => .non
  | some i => .int (i : Int)
theorem law_wrong (hv : ∀ s ∈ P, s ∈ voc) (hM : M.all (lowM M.length) = true) {o : Nat ⊕ (Ms × Nat)} (h : RdW P 4 0 false o) : (Γn 30).cs.f "_law_word_wrong" [.lst (Pd P)] M = .ok (wrD (wrO P o)) M := by
  have lp := law_loop hv hM h (o3 := none) (o4 := none)
  have me : (Γn 29).cs.f "_law_moves_end" [.lst (Pd P), .int 0] M = .ok (lwD o) M := by
    rw [show (Γn 29).cs.f "_law_moves_end" = callF (Γn 28) d__law_moves_end from cal (by kernel_rfl)]
    refine callF_eq (fd := d__law_moves_end) rfl rfl ?_ rfl (by
      match o with
      | .inl i => rfl
      | .inr (_, e) => rfl)
    rw [show startD d__law_moves_end.N [D.lst (Pd P), .int 0] = [some (.lst (Pd P)), some (.int 0), none, none, none] from rfl]
    show evSs (Γn 28) (.cons (.set 2 (.bl false)) (.cons (.for_ (.nm 3) (.rng1 (.int 4)) lvB) (.cons (.ret (.var 1)) .nil))) _ _ = _
    rw [set_of (d := .bl false) (M' := M) rfl]
    simp only [List.set_cons_succ, List.set_cons_zero]
    rw [MX.ss_cons, s_for', show evI (Γn 28) (.rng1 (.int 4)) [some (.lst (Pd P)), some (.int 0), some (.bl false), none, none] M = .ok (.vals (rem4 4)) M from by kernel_rfl, rg_ok, k_for]
    have lp : forGo (stepF (Γn 28) (.nm 3) lvB) (rem4 4) [some (.lst (Pd P)), some (.int 0), some (.bl false), none, none] M = .rt (lwD o) M := lp
    rw [lp, sg_rt]
  rw [show (Γn 30).cs.f "_law_word_wrong" = callF (Γn 29) d__law_word_wrong from cal (by kernel_rfl)]
  refine callF_eq (fd := d__law_word_wrong) rfl rfl ?_ rfl (by cases wrO P o <;> rfl)
  rw [show startD d__law_word_wrong.N [D.lst (Pd P)] = [some (.lst (Pd P)), none] from rfl]
  show evSs (Γn 29) b__law_word_wrong _ _ = _
  unfold b__law_word_wrong
  have l1 := len_at (P := P) (M := M)
  rw [set_of (d := lwD o) (M' := M) (by
    generalize Pd P = ws at *
    clear hv h lp l1
    walk_at "ev")]
  simp only [List.set_cons_succ, List.set_cons_zero]
  match o with
  | .inl i => rfl
  | .inr (ms, e) =>
    rw [ife_f (M' := M) (by kernel_rfl)]
    refine ret_of ?_
    have e2 : eqD M (.int (e : Int)) (.int (P.length : Int)) = some (decide (e = P.length)) := by
      rw [MX.eq_int]
      congr 1
      exact decide_eq_decide.mpr (by omega)
    show evE (Γn 29) (.ife (.val (.cmp .eq (.var 1) (.blt .len (.cons (.var 0) .nil)))) .non (.var 1)) [some (.lst (Pd P)), some (.int (e : Int))] M = .ok (wrD (if e = P.length then none else some e)) M
    by_cases hx : e = P.length
    · rw [if_pos hx]
      rw [decide_eq_true hx] at e2
      show _ = Rs.ok D.non M
      generalize Pd P = ws at *
      clear hv h lp me hx
      walk_at "ev"
    · rw [if_neg hx]
      rw [decide_eq_false hx] at e2
      show _ = Rs.ok (D.int (e : Int)) M
      generalize Pd P = ws at *
      clear hv h lp me hx
      walk_at "ev"
end
/-! ### parts are spoiled -/
abbrev tte : Str := Str.ofString "to the end"
def menu1 : List Str := plL ++ [(Str.ofString "then"), (Str.ofString "turn"), (Str.ofString "exchange"), (Str.ofString "roll"), (Str.ofString "same"), (Str.ofString "along"), (Str.ofString "list"), (Str.ofString "to"), (Str.ofString "the"), (Str.ofString "end"), (Str.ofString ""), (Str.ofString "10")]
def menuL : List Str := menu1 ++ [(Str.ofString "-0"), (Str.ofString "00"), (Str.ofString "+1"), (Str.ofString "half+0"), (Str.ofString "half-10"), (Str.ofString "Turn"), (Str.ofString "to the end"), (Str.ofString "1"), (Str.ofString "half"), (Str.ofString "then"), (Str.ofString "turn"), (Str.ofString "5"), (Str.ofString "-10")]
def voc2 : List Str := tte :: voc
theorem menu_voc : ∀ s ∈ menuL, s ∈ voc2 := by decide +kernel
theorem voc2_ok : ∀ s ∈ voc2, s.length ≤ 10 := by decide +kernel
def pcs (s : Str) : List Str := if s = tte then [Str.ofString "to", Str.ofString "the", Str.ofString "end"] else [s]
theorem pcs_ne (s : Str) : pcs s ≠ [] := by unfold pcs; split <;> simp
theorem pcs_join (s : Str) : Str.join " " (pcs s) = s := by
  unfold pcs
  split
  · rename_i h
    rw [h]
    decide +kernel
  · rfl
theorem pcs_voc {s : Str} (h : s ∈ voc2) : ∀ x ∈ pcs s, x ∈ voc := by
  unfold pcs
  split
  · have : ∀ x ∈ [Str.ofString "to", Str.ofString "the", Str.ofString "end"], x ∈ voc := by decide +kernel
    exact this
  · rename_i hn
    intro x hx
    rw [List.mem_singleton.mp hx]
    rcases List.mem_cons.mp h with h | h
    · exact absurd h hn
    · exact h
theorem pcs_len (s : Str) : (pcs s).length ≤ 3 := by unfold pcs; split <;> simp
theorem flat_ne2 : ∀ {F : List Str}, F ≠ [] → F.flatMap pcs ≠ []
  | [], h => absurd rfl h
  | s :: r, _ => by
    rw [List.flatMap_cons]
    intro h
    exact pcs_ne s (List.append_eq_nil_iff.mp h).1
theorem join_pcs : ∀ F : List Str, Str.join " " F = Str.join " " (F.flatMap pcs)
  | [] => rfl
  | [s] => by rw [List.flatMap_cons, List.flatMap_nil, List.append_nil, pcs_join]; rfl
  | s :: s2 :: r => by
    have ih := join_pcs (s2 :: r)
    rw [List.flatMap_cons, sjoin_app " " (pcs_ne s) (flat_ne2 (by simp)), pcs_join, ← ih]
    rfl
theorem flat_len2 : ∀ F : List Str, (F.flatMap pcs).length ≤ 3 * F.length
  | [] => by simp
  | s :: r => by
    have h1 := pcs_len s
    have h2 := flat_len2 r
    rw [List.flatMap_cons, List.length_append, List.length_cons]
    omega
/-- a text of any parts, parted again -/
theorem split_any {F : List Str} (hF : ∀ s ∈ F, s ∈ voc2) : ∃ P : List Str, Txt.split (Txt.join " " F) " " = P ∧ (∀ s ∈ P, s ∈ voc) ∧ P ≠ [] ∧ P.length ≤ 3 * F.length + 1 := by
  by_cases h : F = []
  · subst h
    refine ⟨[Str.ofString ""], by decide +kernel, by decide +kernel, by simp, by simp⟩
  · have hv : ∀ x ∈ F.flatMap pcs, x ∈ voc := fun x hx => by
      obtain ⟨s, hs, hx⟩ := List.mem_flatMap.mp hx
      exact pcs_voc (hF s hs) x hx
    refine ⟨F.flatMap pcs, ?_, hv, flat_ne2 h, by have := flat_len2 F; omega⟩
    rw [show Txt.join " " F = Txt.join " " (F.flatMap pcs) from by rw [TL.join_eq, TL.join_eq]; exact join_pcs F]
    exact split_join (flat_ne2 h) fun s hs => (voc_ok s (hv s hs)).1
theorem c_pick29 : (Γn 29).cs.f "_law_pick" = callF (Γn 28) pickF := cal (by kernel_rfl)
theorem ix_mid {xs : List D} {j : Nat} {y : D} {p : MO} (h : xs[j]? = some y) : ixD [p, .lst xs] (.ref 1) (.int (j : Int)) = .ok y [p, .lst xs] := by
  show opt (atI xs (j : Int)) (fun d => Rs.ok d [p, MO.lst xs]) = _
  rw [atI_nat h]
  rfl
theorem map_erase (f : Str → D) : ∀ (P : List Str) (j : Nat), (P.eraseIdx j).map f = (P.map f).eraseIdx j
  | [], _ => rfl
  | _ :: _, 0 => rfl
  | x :: r, j + 1 => congrArg (f x :: ·) (map_erase f r j)
theorem menu_len : menuL.length = 63 := by decide +kernel
theorem menu_low : lowDs 0 (menuL.map D.str) = true := by decide +kernel
theorem pop_mid {xs : List D} {j : Nat} {y : D} {p : MO} (h : xs[j]? = some y) (hl : xs.length ≤ 1000) : methD [p, .lst xs] .popAt (.ref 1) [.int (j : Int)] = .ok y [p, .lst (xs.eraseIdx j)] := by
  have hj := (List.getElem?_eq_some_iff.mp h).1
  unfold methD updL
  simp only [List.getElem?_cons_succ, List.getElem?_cons_zero]
  rw [if_pos ⟨by omega, by omega⟩]
  have e2 : seqIndex? (j : Int) xs.length = some j := by
    unfold seqIndex?
    split <;> simp <;> omega
  rw [e2]
  simp only [Option.bind_some, h, Option.map_some, opt, List.set_cons_succ, List.set_cons_zero]
abbrev spS : SS := sAt b__law_spoiled 3
def spR (ws m : List D) (d1 d2 : Int) : Rho := [some (.ref 0), some (.lst ws), some (.lst m), some (.ref 1), some (.int d1), some (.int d2)]
section
variable {ws m : List D} {d1 : Int} {M M' : Mem} {r' : Rho}
abbrev bk0 : SSs := (.cons (.ex (.meth .popAt (.var 3) (.cons (.var 4) .nil))) .nil)
abbrev bk1 : SSs := (.cons (.ex (.meth .insert (.var 3) (.cons (.var 4) (.cons (.call "_law_pick" (.cons (.var 0) (.cons (.var 2) .nil))) .nil)))) .nil)
abbrev bk2 : SSs := (.cons (.ex (.meth .insert (.var 3) (.cons (.var 4) (.cons (.ix (.var 3) (.var 4)) .nil)))) .nil)
abbrev bk3 : SSs := (.cons (.ex (.meth .append (.var 3) (.cons (.call "_law_pick" (.cons (.var 0) (.cons (.var 2) .nil))) .nil))) .nil)
abbrev bk4 : SSs := (.cons (.sub (.var 3) (.var 4) (.call "_law_pick" (.cons (.var 0) (.cons (.var 2) .nil)))) .nil)
theorem way_0 (h : evSs (Γn 29) bk0 (spR ws m d1 0) M = .nx r' M') : evS (Γn 29) spS (spR ws m d1 0) M = .nx r' M' := h
theorem way_1 (h : evSs (Γn 29) bk1 (spR ws m d1 1) M = .nx r' M') : evS (Γn 29) spS (spR ws m d1 1) M = .nx r' M' := by
  show (evSs (Γn 29) bk1 (spR ws m d1 1) M).go (evSs (Γn 29) .nil) = _
  rw [h]
  rfl
theorem way_2 (h : evSs (Γn 29) bk2 (spR ws m d1 2) M = .nx r' M') : evS (Γn 29) spS (spR ws m d1 2) M = .nx r' M' := by
  show ((evSs (Γn 29) bk2 (spR ws m d1 2) M).go (evSs (Γn 29) .nil)).go (evSs (Γn 29) .nil) = _
  rw [h]
  rfl
theorem way_3 (h : evSs (Γn 29) bk3 (spR ws m d1 3) M = .nx r' M') : evS (Γn 29) spS (spR ws m d1 3) M = .nx r' M' := by
  show (((evSs (Γn 29) bk3 (spR ws m d1 3) M).go (evSs (Γn 29) .nil)).go (evSs (Γn 29) .nil)).go (evSs (Γn 29) .nil) = _
  rw [h]
  rfl
theorem way_4 (h : evSs (Γn 29) bk4 (spR ws m d1 4) M = .nx r' M') : evS (Γn 29) spS (spR ws m d1 4) M = .nx r' M' := by
  show (((evSs (Γn 29) bk4 (spR ws m d1 4) M).go (evSs (Γn 29) .nil)).go (evSs (Γn 29) .nil)).go (evSs (Γn 29) .nil) = _
  rw [h]
  rfl
end
theorem pick_menu {J : Mem} {M : Mem} {c : Int} (h : One J M c) (hc : c < 2 ^ 28) : ∃ (s : Str) (M' : Mem), (Γn 29).cs.f "_law_pick" [.ref 0, .lst (menuL.map D.str)] M = .ok (.str s) M' ∧ s ∈ voc2 ∧ One J M' (c + 1) := by
  obtain ⟨d, M', e, hd, p, x⟩ := pick_call c_pick29 c_draw28 h.at0 (by omega) (ds := menuL.map D.str) (by rw [List.length_map, menu_len]; omega) (by rw [List.length_map, menu_len]; omega) menu_low
  obtain ⟨s, hs, rfl⟩ := List.mem_map.mp hd
  exact ⟨s, M', e, menu_voc s hs, h.next x p⟩
section
variable {P : List Str} {j : Nat}
theorem ins_mid (hP : P.length ≤ 1000) (hj : j < 1000) (p : MO) (s : Str) : methD [p, .lst (Pd P)] .insert (.ref 1) [.int (j : Int), .str s] = .ok .non [p, .lst (Pd (P.take j ++ [s] ++ P.drop j))] := by
  have hz : sizeLine = 16777216 := sizeLine_eq
  unfold methD updL
  simp only [List.getElem?_cons_succ, List.getElem?_cons_zero]
  rw [if_pos ⟨by rw [List.length_map]; omega, by omega, by omega⟩, Int.toNat_natCast]
  simp only [opt, List.set_cons_succ, List.set_cons_zero, List.map_append, List.map_cons, List.map_nil, List.map_take, List.map_drop]
theorem app_mid (hP : P.length ≤ 1000) (p : MO) (s : Str) : methD [p, .lst (Pd P)] .append (.ref 1) [.str s] = .ok .non [p, .lst (Pd (P ++ [s]))] := by
  have hz : sizeLine = 16777216 := sizeLine_eq
  unfold methD updL
  simp only [List.getElem?_cons_succ, List.getElem?_cons_zero]
  rw [if_pos (by rw [List.length_map]; omega)]
  simp only [opt, List.set_cons_succ, List.set_cons_zero, List.map_append, List.map_cons, List.map_nil]
theorem sub_mid (hj : j < P.length) (p : MO) (s : Str) : subD [p, .lst (Pd P)] (.ref 1) (.int (j : Int)) (.str s) = some [p, .lst (Pd (P.set j s))] := by
  unfold subD
  simp only [List.getElem?_cons_succ, List.getElem?_cons_zero]
  rw [show ixN (Pd P).length (j : Int) = some j from by rw [List.length_map]; unfold ixN; simp; omega]
  simp only [Option.map_some, List.set_cons_succ, List.set_cons_zero, List.map_set]
theorem ty_mid (f : Mn) (p : MO) (hf : f ∈ [Mn.popAt, Mn.insert, Mn.append]) : tyD [p, .lst (Pd P)] f (.ref 1) = true := by
  simp only [List.mem_cons, List.not_mem_nil, or_false] at hf
  rcases hf with rfl | rfl | rfl <;> rfl
theorem mid_in (hv : ∀ s ∈ P, s ∈ voc2) {s : Str} (hs : s ∈ voc2) : ∀ x ∈ P.take j ++ [s] ++ P.drop j, x ∈ voc2 := fun x hx => by
  rcases List.mem_append.mp hx with hx | hx
  · rcases List.mem_append.mp hx with hx | hx
    · exact hv x (List.mem_of_mem_take hx)
    · rw [List.mem_singleton.mp hx]
      exact hs
  · exact hv x (List.mem_of_mem_drop hx)
theorem mid_len (s : Str) : (P.take j ++ [s] ++ P.drop j).length ≤ P.length + 1 := by
  rw [List.length_append, List.length_append, List.length_take, List.length_drop, List.length_singleton]
  omega
end
section
variable {ws m : List D} {Ma Mb Mc : Mem} {j : Int} {x : D}
theorem blk_0 (t : tyD Ma .popAt (.ref 1) = true) (a : methD Ma .popAt (.ref 1) [.int j] = .ok x Mb) : evSs (Γn 29) bk0 (spR ws m j 0) Ma = .nx (spR ws m j 0) Mb := by
  unfold spR bk0
  walk_at "ev"
theorem blk_1 (t : tyD Ma .insert (.ref 1) = true) (e : (Γn 29).cs.f "_law_pick" [.ref 0, .lst m] Ma = .ok x Mb) (a : methD Mb .insert (.ref 1) [.int j, x] = .ok .non Mc) : evSs (Γn 29) bk1 (spR ws m j 1) Ma = .nx (spR ws m j 1) Mc := by
  unfold spR bk1
  walk_at "ev"
theorem blk_2 (t : tyD Ma .insert (.ref 1) = true) (e : ixD Ma (.ref 1) (.int j) = .ok x Ma) (a : methD Ma .insert (.ref 1) [.int j, x] = .ok .non Mc) : evSs (Γn 29) bk2 (spR ws m j 2) Ma = .nx (spR ws m j 2) Mc := by
  unfold spR bk2
  walk_at "ev"
theorem blk_3 (t : tyD Ma .append (.ref 1) = true) (e : (Γn 29).cs.f "_law_pick" [.ref 0, .lst m] Ma = .ok x Mb) (a : methD Mb .append (.ref 1) [x] = .ok .non Mc) : evSs (Γn 29) bk3 (spR ws m j 3) Ma = .nx (spR ws m j 3) Mc := by
  unfold spR bk3
  walk_at "ev"
theorem blk_4 (e : (Γn 29).cs.f "_law_pick" [.ref 0, .lst m] Ma = .ok x Mb) (a : subD Mb (.ref 1) (.int j) x = some Mc) : evSs (Γn 29) bk4 (spR ws m j 4) Ma = .nx (spR ws m j 4) Mc := by
  unfold spR bk4
  walk_at "ev"
end
theorem spoil_way {P : List Str} {M : Mem} {c d2 : Int} {j : Nat} (hv : ∀ s ∈ P, s ∈ voc2) (hP : P.length ≤ 300) (h : One [.lst (Pd P)] M c) (hc : c < 2 ^ 28) (hj : j < P.length) (h0 : 0 ≤ d2) (h5 : d2 < 5) :
    ∃ (F : List Str) (M' : Mem), evS (Γn 29) spS (spR (Pd P) (menuL.map D.str) (j : Int) d2) M = .nx (spR (Pd P) (menuL.map D.str) (j : Int) d2) M' ∧ One [.lst (Pd F)] M' (c + 1) ∧ (∀ s ∈ F, s ∈ voc2) ∧ F.length ≤ P.length + 1 := by
  have hg : P[j]? = some P[j] := List.getElem?_eq_getElem hj
  have hgd : (Pd P)[j]? = some (.str P[j]) := by rw [List.getElem?_map, hg]; rfl
  obtain ⟨s, M2, e, hs, h2⟩ := pick_menu h hc
  obtain ⟨n1, a1, l1, rfl, x1, y1⟩ := h
  obtain ⟨n2, a2, l2, rfl, x2, y2⟩ := h2
  generalize menuL.map D.str = m at *
  have hd : d2 = 0 ∨ d2 = 1 ∨ d2 = 2 ∨ d2 = 3 ∨ d2 = 4 := by omega
  rcases hd with rfl | rfl | rfl | rfl | rfl
  · exact ⟨P.eraseIdx j, [pen (n1.map D.int) a1 l1, .lst (Pd (P.eraseIdx j))], way_0 (blk_0 (ty_mid _ _ (by simp)) ((pop_mid hgd (by rw [List.length_map]; omega)).trans (by rw [← map_erase]))), ⟨n1, a1, l1, rfl, x1, by omega⟩, fun s hs => hv s (List.mem_of_mem_eraseIdx hs), by rw [List.length_eraseIdx]; split <;> omega⟩
  · exact ⟨P.take j ++ [s] ++ P.drop j, [pen (n2.map D.int) a2 l2, .lst (Pd (P.take j ++ [s] ++ P.drop j))], way_1 (blk_1 (ty_mid _ _ (by simp)) e (ins_mid (by omega) (by omega) _ s)), ⟨n2, a2, l2, rfl, x2, y2⟩, mid_in hv hs, mid_len s⟩
  · exact ⟨P.take j ++ [P[j]] ++ P.drop j, [pen (n1.map D.int) a1 l1, .lst (Pd (P.take j ++ [P[j]] ++ P.drop j))], way_2 (blk_2 (ty_mid _ _ (by simp)) (ix_mid hgd) (ins_mid (by omega) (by omega) _ _)), ⟨n1, a1, l1, rfl, x1, by omega⟩, mid_in hv (hv _ (List.getElem_mem hj)), mid_len _⟩
  · refine ⟨P ++ [s], [pen (n2.map D.int) a2 l2, .lst (Pd (P ++ [s]))], way_3 (blk_3 (ty_mid _ _ (by simp)) e (app_mid (by omega) _ s)), ⟨n2, a2, l2, rfl, x2, y2⟩, fun x hx => ?_, by simp⟩
    rcases List.mem_append.mp hx with hx | hx
    · exact hv x hx
    · rw [List.mem_singleton.mp hx]
      exact hs
  · refine ⟨P.set j s, [pen (n2.map D.int) a2 l2, .lst (Pd (P.set j s))], way_4 (blk_4 e (sub_mid hj _ s)), ⟨n2, a2, l2, rfl, x2, y2⟩, fun x hx => ?_, by simp⟩
    rcases List.mem_or_eq_of_mem_set hx with hx | hx
    · exact hv x hx
    · rw [hx]
      exact hs
theorem spoil {P : List Str} {M : Mem} {c : Int} (h : One [] M c) (hc : c < 2 ^ 27) (hv : ∀ s ∈ P, s ∈ voc) (hne : P ≠ []) (hP : P.length ≤ 300) : ∃ (P' : List Str) (M' : Mem), (Γn 30).cs.f "_law_spoiled" [.ref 0, .lst (Pd P)] M = .ok (.lst (Pd P')) M' ∧ (∀ s ∈ P', s ∈ voc) ∧ P' ≠ [] ∧ P'.length ≤ 3 * P.length + 4 ∧ One [] M' (c + 3) := by
  have hz : sizeLine = 16777216 := sizeLine_eq
  have hpos : 0 < P.length := List.length_pos_iff.mpr hne
  obtain ⟨n0, a0, l0, rfl, x0, y0⟩ := h
  have h0 : One [.lst (Pd P)] [pen (n0.map D.int) a0 l0, .lst (Pd P)] c := ⟨n0, a0, l0, rfl, x0, y0⟩
  obtain ⟨d1, M1, e1, b0, b1, p1, q1⟩ := draw_call c_draw29 h0.at0 (by omega) (many := (P.length : Int)) (by omega) (by omega)
  have h1 := h0.next q1 p1
  obtain ⟨d2, M2, e2, c0, c1, p2, q2⟩ := draw_call c_draw29 h1.at0 (by omega) (many := 5) (by decide) (by decide)
  have h2 := h1.next q2 p2
  obtain ⟨j, rfl⟩ : ∃ j : Nat, d1 = (j : Int) := ⟨d1.toNat, by omega⟩
  obtain ⟨F, M3, ew, h3, hF, hFl⟩ := spoil_way (j := j) (fun s hs => List.mem_cons_of_mem _ (hv s hs)) hP h2 (by omega) (by omega) c0 c1
  obtain ⟨n3, a3, l3, rfl, x3, y3⟩ := h3
  obtain ⟨P', sp, hv', hne', hl'⟩ := split_any hF
  refine ⟨P', [pen (n3.map D.int) a3 l3], ?_, hv', hne', by omega, ⟨n3, a3, l3, rfl, x3, by omega⟩⟩
  rw [show (Γn 30).cs.f "_law_spoiled" = callF (Γn 29) d__law_spoiled from cal (by kernel_rfl)]
  rw [callF_run (by rfl), show startD d__law_spoiled.N [D.ref 0, .lst (Pd P)] = [some (.ref 0), some (.lst (Pd P)), none, none, none, none] from rfl]
  have s0 : evE (Γn 29) (.bin false .add (.call "_law_places" .nil) (.lst false (.cons (.str "then") (.cons (.str "turn") (.cons (.str "exchange") (.cons (.str "roll") (.cons (.str "same") (.cons (.str "along") (.cons (.str "list") (.cons (.str "to") (.cons (.str "the") (.cons (.str "end") (.cons (.str "") (.cons (.str "10") .nil)))))))))))))) [some (.ref 0), some (.lst (Pd P)), none, none, none, none] [pen (n0.map D.int) a0 l0] = .ok (.lst (menu1.map D.str)) [pen (n0.map D.int) a0 l0] := by
    rw [e_bin, call0, places_ok, rb_ok, k_bin]
    kernel_rfl
  have s1 : evE (Γn 29) (.bin false .add (.var 2) (.lst false (.cons (.str "-0") (.cons (.str "00") (.cons (.str "+1") (.cons (.str "half+0") (.cons (.str "half-10") (.cons (.str "Turn") (.cons (.str "to the end") (.cons (.str "1") (.cons (.str "half") (.cons (.str "then") (.cons (.str "turn") (.cons (.str "5") (.cons (.str "-10") .nil))))))))))))))) [some (.ref 0), some (.lst (Pd P)), some (.lst (menu1.map D.str)), none, none, none] [pen (n0.map D.int) a0 l0] = .ok (.lst (menuL.map D.str)) [pen (n0.map D.int) a0 l0] := by
    rw [e_bin, show evE (Γn 29) (.var 2) [some (.ref 0), some (.lst (Pd P)), some (.lst (menu1.map D.str)), none, none, none] [pen (n0.map D.int) a0 l0] = .ok (.lst (menu1.map D.str)) [pen (n0.map D.int) a0 l0] from rfl, rb_ok, k_bin]
    kernel_rfl
  have s2 : evS (Γn 29) (.par [3, 4, 5] (.cons (.blt (.list true) (.cons (.var 1) .nil)) (.cons (.call "_law_draw" (.cons (.var 0) (.cons (.blt .len (.cons (.var 1) .nil)) .nil))) (.cons (.call "_law_draw" (.cons (.var 0) (.cons (.int 5) .nil))) .nil)))) [some (.ref 0), some (.lst (Pd P)), some (.lst (menuL.map D.str)), none, none, none] [pen (n0.map D.int) a0 l0] = .nx (spR (Pd P) (menuL.map D.str) (j : Int) d2) M2 := by
    have l1 : ∀ M : Mem, lenD M (.lst (Pd P)) = .ok (.int (P.length : Int)) M := fun M => len_at
    have kq : ∀ (ws m : List D) (PL dj : Int) (Mq Ma Mb : Mem), (∀ M : Mem, lenD M (.lst ws) = .ok (.int PL) M) → (Γn 29).cs.f "_law_draw" [.ref 0, .int PL] (Mq ++ [.lst ws]) = .ok (.int dj) Ma → (Γn 29).cs.f "_law_draw" [.ref 0, .int 5] Ma = .ok (.int d2) Mb → evS (Γn 29) (.par [3, 4, 5] (.cons (.blt (.list true) (.cons (.var 1) .nil)) (.cons (.call "_law_draw" (.cons (.var 0) (.cons (.blt .len (.cons (.var 1) .nil)) .nil))) (.cons (.call "_law_draw" (.cons (.var 0) (.cons (.int 5) .nil))) .nil)))) [some (.ref 0), some (.lst ws), some (.lst m), none, none, none] Mq = .nx [some (.ref 0), some (.lst ws), some (.lst m), some (.ref Mq.length), some (.int dj), some (.int d2)] Mb := by
      clear s0 s1 sp hl' hv' hne' ew hF hFl x3 y3 e1 e2 b0 b1 c0 c1 p1 q1 p2 q2 h0 h1 h2 x0 y0 l1 hv hne hP hpos hz hc
      intro ws m PL dj Mq Ma Mb l1 e1 e2
      walk_at "ev"
    exact kq (Pd P) (menuL.map D.str) _ _ _ _ _ l1 e1 e2
  have s4 : evE (Γn 29) (.meth (.split false) (.meth .join (.str " ") (.cons (.var 3) .nil)) (.cons (.str " ") .nil)) (spR (Pd P) (menuL.map D.str) (j : Int) d2) [pen (n3.map D.int) a3 l3, .lst (Pd F)] = .ok (.lst (Pd P')) [pen (n3.map D.int) a3 l3, .lst (Pd F)] := by
    have hb : ∀ s ∈ F, s.length ≤ 10 := fun s hs => voc2_ok s (hF s hs)
    have hs1 := sum_le 10 F hb
    have hs3 : (Str.ofString " ").length = 1 := by decide +kernel
    have jn : methD [pen (n3.map D.int) a3 l3, .lst (Pd F)] .join (.str " ") [.ref 1] = .ok (.str (Txt.join " " F)) [pen (n3.map D.int) a3 l3, .lst (Pd F)] := by
      show opt (strsD (Pd F)) (fun zs => if (zs.map (·.length)).sum + zs.length * (Str.ofString " ").length ≤ 16777216 then Rs.ok (D.str (Txt.join " " zs)) [pen (n3.map D.int) a3 l3, .lst (Pd F)] else .bad) = _
      rw [strs_of, opt_s, hs3, if_pos (by omega)]
    have jl : (Txt.join " " F).length ≤ 11 * F.length := by
      rw [TL.join_eq]
      clear hs1 jn sp hl' hFl ew
      induction F with
      | nil => exact Nat.zero_le _
      | cons a r ih =>
        have ih := ih (fun s hs => hF s (by simp [hs])) (fun s hs => hb s (by simp [hs]))
        have ha := hb a (by simp)
        cases r with
        | nil =>
          show a.length ≤ 11 * 1
          omega
        | cons b r =>
          show (a ++ " " ++ Str.join " " (b :: r)).length ≤ _
          rw [Str.length_append, Str.length_append, hs3]
          simp only [List.length_cons] at ih ⊢
          omega
    have st : methD [pen (n3.map D.int) a3 l3, .lst (Pd F)] (.split false) (.str (Txt.join " " F)) [.str " "] = .ok (.lst (Pd P')) [pen (n3.map D.int) a3 l3, .lst (Pd F)] := by
      show (if ((" " : Str).length == 0) = false ∧ (Txt.join " " F).length + 2 ≤ sizeLine then mkL false ((Txt.split (Txt.join " " F) " ").map D.str) _ else .bad) = _
      rw [if_pos ⟨by decide, by omega⟩, sp]
      rfl
    have kq : ∀ (r : Rho) (Mq : Mem) (T : Str) (X : D), evE (Γn 29) (.var 3) r Mq = .ok (.ref 1) Mq → methD Mq .join (.str " ") [.ref 1] = .ok (.str T) Mq → methD Mq (.split false) (.str T) [.str " "] = .ok X Mq → evE (Γn 29) (.meth (.split false) (.meth .join (.str " ") (.cons (.var 3) .nil)) (.cons (.str " ") .nil)) r Mq = .ok X Mq := by
      intro r Mq T X v3 j s
      have t1 : tyD Mq .join (.str " ") = true := rfl
      have t2 : tyD Mq (.split false) (.str T) = true := rfl
      rw [e_me, e_me, e_str, rb_ok, k_me, if_pos t1, es_cons, v3, rb_ok, k_es, es_nil, rb_ok, k_es2, rb_ok, k_me2, j, rb_ok, k_me, if_pos t2, es_cons, e_str, rb_ok, k_es, es_nil, rb_ok, k_es2, rb_ok, k_me2, s]
    exact kq _ _ _ _ rfl jn st
  have body : evSs (Γn 29) b__law_spoiled [some (.ref 0), some (.lst (Pd P)), none, none, none, none] [pen (n0.map D.int) a0 l0] = .rt (.lst (Pd P')) [pen (n3.map D.int) a3 l3, .lst (Pd F)] := by
    show evSs (Γn 29) (.cons (.set 2 (.bin false .add (.call "_law_places" .nil) (.lst false (.cons (.str "then") (.cons (.str "turn") (.cons (.str "exchange") (.cons (.str "roll") (.cons (.str "same") (.cons (.str "along") (.cons (.str "list") (.cons (.str "to") (.cons (.str "the") (.cons (.str "end") (.cons (.str "") (.cons (.str "10") .nil))))))))))))))) (.cons (.set 2 (.bin false .add (.var 2) (.lst false (.cons (.str "-0") (.cons (.str "00") (.cons (.str "+1") (.cons (.str "half+0") (.cons (.str "half-10") (.cons (.str "Turn") (.cons (.str "to the end") (.cons (.str "1") (.cons (.str "half") (.cons (.str "then") (.cons (.str "turn") (.cons (.str "5") (.cons (.str "-10") .nil)))))))))))))))) (.cons (.par [3, 4, 5] (.cons (.blt (.list true) (.cons (.var 1) .nil)) (.cons (.call "_law_draw" (.cons (.var 0) (.cons (.blt .len (.cons (.var 1) .nil)) .nil))) (.cons (.call "_law_draw" (.cons (.var 0) (.cons (.int 5) .nil))) .nil)))) (.cons spS (.cons (.ret (.meth (.split false) (.meth .join (.str " ") (.cons (.var 3) .nil)) (.cons (.str " ") .nil))) .nil))))) _ _ = _
    rw [set_of s0]
    simp only [List.set_cons_succ, List.set_cons_zero]
    rw [set_of s1]
    simp only [List.set_cons_succ, List.set_cons_zero]
    rw [st_of s2, st_of ew, ret_of s4]
  show finE false 1 (evSs (Γn 29) b__law_spoiled _ _) = _
  rw [body]
  refine (fin_pure1 (M := [pen (n3.map D.int) a3 l3]) (d := .lst (Pd P')) (low_of (ds := Pd P') fun d hd => ?_) ?_ : finE false 1 _ = _)
  · obtain ⟨s, _, rfl⟩ := List.mem_map.mp hd
    rfl
  · show (lowM 1 (pen (n3.map D.int) a3 l3) && true) = true
    rw [pen_low]
    rfl
/-! ### a lap -/
theorem pw_in : ∀ p ∈ pwt, p.1 ∈ voc := by decide +kernel
theorem am_in2 : ∀ p ∈ amt, p.1 ∈ voc := by decide +kernel
theorem kw_in : ∀ s ∈ ([Str.ofString "turn", Str.ofString "exchange", Str.ofString "roll"] : List Str), s ∈ voc := by decide +kernel
theorem w_in : ∀ {w : Mw}, w.ok → ∀ s ∈ w.words, s ∈ voc
  | .turn, _, s, hs => by
    rw [List.mem_singleton.mp (show s ∈ [Str.ofString "turn"] from hs)]
    exact kw_in _ (by simp)
  | .exch p q, ⟨h1, h2⟩, s, hs => by
    simp only [Mw.words, List.mem_cons, List.not_mem_nil, or_false] at hs
    rcases hs with rfl | rfl | rfl
    · exact kw_in _ (by simp)
    · exact pw_in p h1
    · exact pw_in q h2
  | .roll p q a, ⟨h1, h2, h3⟩, s, hs => by
    simp only [Mw.words, List.mem_cons, List.not_mem_nil, or_false] at hs
    rcases hs with rfl | rfl | rfl | rfl
    · exact kw_in _ (by simp)
    · exact pw_in p h1
    · exact pw_in q h2
    · exact am_in2 a h3
theorem ws_in {ms : Ms} (h : ∀ w ∈ ms, w.ok) : ∀ s ∈ wsM ms, s ∈ voc := flat_all (by decide +kernel) fun m hm => by
  obtain ⟨w, hw, rfl⟩ := List.mem_map.mp hm
  exact w_in (h w hw)
theorem join_P {P : List Str} {M : Mem} (hv : ∀ s ∈ P, s ∈ voc) (hP : P.length ≤ 1000) : methD M .join (.str " ") [.lst (Pd P)] = .ok (.str (Txt.join " " P)) M := by
  show opt (strsD (P.map D.str)) (fun zs => if (zs.map (·.length)).sum + zs.length * (Str.ofString " ").length ≤ 16777216 then .ok (.str (Txt.join " " zs)) M else .bad) = _
  rw [strs_of, opt_s]
  have h1 := sum_le 8 P fun s hs => (voc_ok s (hv s hs)).2.1
  have h3 : (Str.ofString " ").length = 1 := by decide +kernel
  rw [h3, if_pos (by omega)]
theorem split_ws {ms : Ms} (g : Gm ms) {M : Mem} : methD M (.split false) (.str (txM ms)) [.str " "] = .ok (.lst (Pd (wsM ms))) M := by
  have hs : sizeLine = 16777216 := sizeLine_eq
  have hl := txM_len g
  have sp : Txt.split (txM ms) " " = wsM ms := split_join (wsM_ne g.ne) fun s hs => (blankM g.ok s hs).1
  show (if ((" " : Str).length == 0) = false ∧ (txM ms).length + 2 ≤ sizeLine then mkL false ((Txt.split (txM ms) " ").map D.str) _ else .bad) = _
  rw [if_pos ⟨by decide, by omega⟩, sp]
  rfl
def lapB : SSs := bodyF (sAt b_law 1)
abbrev R8 (ns : List Int) (k : Int) (o3 o4 o5 o6 o7 : Option D) : Rho := [some (.scr ns), some (.ref 0), some (.int k), o3, o4, o5, o6, o7, none, none, none, none, none]
section
variable {ns : List Int} {k d : Int} {L W X A B T5 : D} {T T2 : Str} {Ma Mb : Mem} {o4 o5 o6 o7 : Option D}
theorem l_s0 (e : (Γn 30).cs.f "_law_moves" [.ref 0] Ma = .ok L Mb) : evE (Γn 30) (.call "_law_moves" (.cons (.var 1) .nil)) (R8 ns k none none none none none) Ma = .ok L Mb := by walk_at "ev"
theorem l_s1 (t : (Γn 30).cs.f "_law_word_text" [L] Ma = .ok (.str T) Ma) (y : tyD Ma (.split false) (.str T) = true) (s : methD Ma (.split false) (.str T) [.str " "] = .ok W Ma) (e : (Γn 30).cs.f "_law_spoiled" [.ref 0, W] Ma = .ok X Mb) :
    evE (Γn 30) (.call "_law_spoiled" (.cons (.var 1) (.cons (.meth (.split false) (.call "_law_word_text" (.cons (.var 3) .nil)) (.cons (.str " ") .nil)) .nil))) (R8 ns k (some L) none none none none) Ma = .ok X Mb := by walk_at "ev"
theorem l_t2 (e : (Γn 30).cs.f "_law_draw" [.ref 0, .int 3] Ma = .ok (.int d) Mb) : evT (Γn 30) (.val (.cmp .eq (.call "_law_draw" (.cons (.var 1) (.cons (.int 3) .nil))) (.int 0))) (R8 ns k (some L) (some W) none none none) Ma = .ok (decide (d = 0)) Mb := by walk_at "ev"
theorem l_s2 (e : (Γn 30).cs.f "_law_spoiled" [.ref 0, W] Ma = .ok X Mb) : evE (Γn 30) (.call "_law_spoiled" (.cons (.var 1) (.cons (.var 4) .nil))) (R8 ns k (some L) (some W) none none none) Ma = .ok X Mb := by walk_at "ev"
theorem l_s3 (e : (Γn 30).cs.f "_law_word_wrong" [W] Ma = .ok X Mb) : evE (Γn 30) (.call "_law_word_wrong" (.cons (.var 4) .nil)) (R8 ns k (some L) (some W) none none none) Ma = .ok X Mb := by walk_at "ev"
theorem l_s4 (y : tyD Ma .join (.str " ") = true) (j : methD Ma .join (.str " ") [W] = .ok (.str T) Ma) (e : (Γn 30).cs.f "_law_read" [.str T] Ma = .ok X Mb) : evE (Γn 30) (.call "_law_read" (.cons (.meth .join (.str " ") (.cons (.var 4) .nil)) .nil)) (R8 ns k (some L) (some W) (some A) none none) Ma = .ok X Mb := by walk_at "ev"
theorem l_t5 (n : isNon A = false) (q : eqD Ma B (.tup [.str "word", A, .bl true]) = some true) : evT (Γn 30) (.and (.val (.cmp .isnot (.var 5) .non)) (.val (.cmp .ne (.var 6) (.tup (.cons (.str "word") (.cons (.var 5) (.cons (.bl true) .nil))))))) (R8 ns k (some L) (some W) (some A) (some B) none) Ma = .ok false Ma := by
  have z3 : 0 + 1 + 1 + 1 ≤ sizeLine := by decide
  walk_at "ev"
theorem l_t5n : evT (Γn 30) (.and (.val (.cmp .isnot (.var 5) .non)) (.val (.cmp .ne (.var 6) (.tup (.cons (.str "word") (.cons (.var 5) (.cons (.bl true) .nil))))))) (R8 ns k (some L) (some W) (some .non) (some B) none) Ma = .ok false Ma := rfl
theorem l_t6 : evT (Γn 30) (.val (.cmp .is_ (.var 5) .non)) (R8 ns k (some L) (some W) (some A) (some B) none) Ma = .ok (isNon A) Ma := by walk_at "ev"
theorem l_s7 (q : evE (Γn 30) (.lc false [12] (.nm 12) (.seq (.var 6)) .yes (.meth .join (.str " ") (.cons (.blt (.list false) (.cons (.var 12) .nil)) .nil))) (R8 ns k (some L) (some W) (some A) (some B) none) Ma = .ok X Ma) (y : tyD Ma .join (.str " then ") = true) (j : methD Ma .join (.str " then ") [X] = .ok (.str T) Ma) : evE (Γn 30) (.meth .join (.str " then ") (.cons (.lc false [12] (.nm 12) (.seq (.var 6)) .yes (.meth .join (.str " ") (.cons (.blt (.list false) (.cons (.var 12) .nil)) .nil))) .nil)) (R8 ns k (some L) (some W) (some A) (some B) none) Ma = .ok (.str T) Ma := by
  rw [e_me, e_str, rb_ok, k_me, if_pos y, es_cons, q, rb_ok, k_es, es_nil, rb_ok, k_es2, rb_ok, k_me2, j]
theorem l_t8 (y : tyD Ma .join (.str " ") = true) (j : methD Ma .join (.str " ") [W] = .ok (.str T) Ma) (q : eqD Ma (.str T) (.str T) = some true) : evT (Γn 30) (.val (.cmp .ne (.var 7) (.meth .join (.str " ") (.cons (.var 4) .nil)))) (R8 ns k (some L) (some W) (some A) (some B) (some (.str T))) Ma = .ok false Ma := by walk_at "ev"
theorem l_t10 {Y : List D} (t : (Γn 30).cs.f "_law_word_text" [L] Ma = .ok (.str T) Ma) (e : (Γn 30).cs.f "_law_read" [.str T] Ma = .ok (.tup Y) Ma) (q : evE (Γn 30) (.lc false [12] (.nm 12) (.seq (.var 3)) .yes (.blt .tuple (.cons (.var 12) .nil))) (R8 ns k (some L) (some W) (some A) (some B) o7) Ma = .ok (.lst Y) Ma) (h : eqD Ma (.tup Y) (.tup Y) = some true) :
    evT (Γn 30) (.val (.cmp .ne (.call "_law_read" (.cons (.call "_law_word_text" (.cons (.var 3) .nil)) .nil)) (.blt .tuple (.cons (.lc false [12] (.nm 12) (.seq (.var 3)) .yes (.blt .tuple (.cons (.var 12) .nil))) .nil)))) (R8 ns k (some L) (some W) (some A) (some B) o7) Ma = .ok false Ma := by
  have b1 : bltD Ma .tuple [.lst Y] = .ok (.tup Y) Ma := rfl
  have r1 : evE (Γn 30) (.call "_law_read" (.cons (.call "_law_word_text" (.cons (.var 3) .nil)) .nil)) (R8 ns k (some L) (some W) (some A) (some B) o7) Ma = .ok (.tup Y) Ma := by
    clear q h
    walk_at "ev"
  rw [t_val, e_cmp, r1, rb_ok, k_cmp, e_blt, es_cons, q, rb_ok, k_es, es_nil, rb_ok, k_es2, rb_ok, k_blt, b1, rb_ok, c_ne, h]
  rfl
end
theorem tup_eq {ms : Ms} (g : Gm ms) {M : Mem} : eqD M (.tup (ms.map fun w => .tup w.ds)) (.tup (ms.map fun w => .tup w.ds)) = some true := eq_same (p := .tuple (ms.map fun w => .tuple (w.words.map PyData.str))) (by
    show (toPs M (ms.map fun w => .tup w.ds)).map PyData.tuple = _
    rw [toPs_t]
    rfl) (sh_tt g.ok)
abbrev r80 (ns : List Int) : Rho := [some (.scr ns), some (.ref 0), none, none, none, none, none, none, none, none, none, none, none]
theorem lap8 {M : Mem} {c : Int} (h : One [] M c) (hc : c < 2 ^ 26) {ns : List Int} {k : Int} : ∃ M', stepF (Γn 30) (.nm 2) (.gc [2, 3, 4, 5, 6, 7, 12] lapB) (.int k) (r80 ns) M = .nx (r80 ns) M' ∧ One [] M' (c + 60) := by
  have hz : sizeLine = 16777216 := sizeLine_eq
  have hl0 := h.len
  obtain ⟨ms, M1, e1, g, h1⟩ := lmoves h (by omega)
  have few := fewM ms
  have gf := g.few
  obtain ⟨P1, M2, e2, hv2, hn2, hP2, h2⟩ := spoil h1 (by omega) (P := wsM ms) (ws_in g.ok) (wsM_ne g.ne) (by omega)
  obtain ⟨d, M3, e3, d0, d1, p3, x3⟩ := draw_call c_draw30 h2.at0 (by omega) (many := 3) (by decide) (by decide)
  have h3 := h2.next x3 p3
  -- the second spoiling
  obtain ⟨P, M4, e4, hv, hne, hP, h4⟩ : ∃ (P : List Str) (M4 : Mem), evS (Γn 30) (sAt lapB 2) (R8 ns k (some (.lst (ms.map fun w => .lst w.ds))) (some (.lst (Pd P1))) none none none) M2 = .nx (R8 ns k (some (.lst (ms.map fun w => .lst w.ds))) (some (.lst (Pd P))) none none none) M4 ∧ (∀ s ∈ P, s ∈ voc) ∧ P ≠ [] ∧ P.length ≤ 300 ∧ One [] M4 (c + 60) := by
    have t2 := l_t2 (ns := ns) (k := k) (L := .lst (ms.map fun w => .lst w.ds)) (W := .lst (Pd P1)) e3
    show ∃ (P : List Str) (M4 : Mem), evS (Γn 30) (.ife (.val (.cmp .eq (.call "_law_draw" (.cons (.var 1) (.cons (.int 3) .nil))) (.int 0))) (.cons (.set 4 (.call "_law_spoiled" (.cons (.var 1) (.cons (.var 4) .nil)))) .nil) .nil) _ M2 = _ ∧ _
    by_cases hd : d = 0
    · obtain ⟨P, M4, e4, hv, hne, hP, h4⟩ := spoil h3 (by omega) hv2 hn2 (by omega)
      refine ⟨P, M4, ?_, hv, hne, by omega, h4.mono (by omega)⟩
      rw [s_if', t2, rg_ok, decide_eq_true hd, k_ift, set_of (l_s2 e4)]
      rfl
    · refine ⟨P1, M3, ?_, hv2, hn2, by omega, h3.mono (by omega)⟩
      rw [s_if', t2, rg_ok, decide_eq_false hd, k_iff]
      rfl
  have hl4 := h4.len
  have lw4 : ∀ k, M4.all (lowM k) = true := fun k => by
    obtain ⟨m1, a, l, rfl, _⟩ := h4
    show (lowM k (pen (m1.map D.int) a l) && true) = true
    rw [pen_low]
    rfl
  obtain ⟨o, ho⟩ := rdw_tot P 3 0 false
  have e5 := law_wrong hv (lw4 _) ho
  have tx := text_ok g.ok g.few
  have j4 := join_P (M := M4) hv (by omega)
  have rd := read_good (M := M4) g (by rw [hl4]; simp) lw4
  -- what comes behind
  have last : ∀ (A B : D) (o7 : Option D), evT (Γn 30) (.val (.cmp .ne (.call "_law_read" (.cons (.call "_law_word_text" (.cons (.var 3) .nil)) .nil)) (.blt .tuple (.cons (.lc false [12] (.nm 12) (.seq (.var 3)) .yes (.blt .tuple (.cons (.var 12) .nil))) .nil)))) (R8 ns k (some (.lst (ms.map fun w => .lst w.ds))) (some (.lst (Pd P))) (some A) (some B) o7) M4 = .ok false M4 := fun A B o7 => by
    refine l_t10 (tx M4) rd ?_ (tup_eq g)
    have lc := lcGo_list (Γ := Γn 30) (M := M4) (e := .blt .tuple (.cons (.var 12) .nil)) (r := R8 ns k (some (.lst (ms.map fun w => .lst w.ds))) (some (.lst (Pd P))) (some A) (some B) o7) (i := 12) (fun w : Mw => D.lst w.ds) (fun w => .tup w.ds) ms [] (fun w hw => rfl)
    rw [List.nil_append] at lc
    rw [e_lc, show evI (Γn 30) (.seq (.var 3)) (R8 ns k (some (.lst (ms.map fun w => .lst w.ds))) (some (.lst (Pd P))) (some A) (some B) o7) M4 = .ok (.vals (ms.map fun w => .lst w.ds)) M4 from rfl, rb_ok, k_lcv, if_pos (by rw [List.length_map]; omega)]
    rw [show wipeD (R8 ns k (some (.lst (ms.map fun w => .lst w.ds))) (some (.lst (Pd P))) (some A) (some B) o7) [12] = R8 ns k (some (.lst (ms.map fun w => .lst w.ds))) (some (.lst (Pd P))) (some A) (some B) o7 from rfl, lc, no_ok, rb_ok, mk_f]
  obtain ⟨A, B, o7, eA, eB, body⟩ : ∃ (A B : D) (o7 : Option D), (Γn 30).cs.f "_law_word_wrong" [.lst (Pd P)] M4 = .ok A M4 ∧ (Γn 30).cs.f "_law_read" [.str (Txt.join " " P)] M4 = .ok B M4 ∧
      evSs (Γn 30) (.cons (sAt lapB 5) (.cons (sAt lapB 6) (.cons (sAt lapB 7) .nil))) (R8 ns k (some (.lst (ms.map fun w => .lst w.ds))) (some (.lst (Pd P))) (some A) (some B) none) M4 = .nx (R8 ns k (some (.lst (ms.map fun w => .lst w.ds))) (some (.lst (Pd P))) (some A) (some B) o7) M4 := by
    cases hw : wrO P o with
    | some i =>
      rw [hw] at e5
      have e6 := read_bad hv hne (by omega) ho hw lw4
      refine ⟨.int (i : Int), _, none, e5, e6, ?_⟩
      rw [show evSs (Γn 30) (.cons (sAt lapB 5) _) _ _ = _ from ife_f (l_t5 (A := .int (i : Int)) (B := .tup [.str "word", .int (i : Int), .bl true]) (Ma := M4) rfl (eq_same (p := .tuple [.str "word", .int (i : Int), .bool true]) rfl (by kernel_rfl)))]
      rw [show evSs (Γn 30) (.cons (sAt lapB 6) _) _ _ = _ from ife_f l_t6]
      rw [show evSs (Γn 30) (.cons (sAt lapB 7) .nil) _ _ = _ from ife_f (last _ _ none), MX.ss_nil]
    | none =>
      rw [hw] at e5
      obtain ⟨ms2, rfl⟩ : ∃ ms2, o = .inr (ms2, P.length) := by
        match o, hw with
        | .inr (ms2, e), hw =>
          have hw : (if e = P.length then none else some e) = none := hw
          split at hw
          · rename_i he
            exact ⟨ms2, by rw [he]⟩
          · cases hw
      obtain ⟨eP, g2⟩ := rdw_all ho
      have g2f := g2.few
      have e6 : (Γn 30).cs.f "_law_read" [.str (Txt.join " " P)] M4 = .ok (.tup (ms2.map fun w => .tup w.ds)) M4 := by
        rw [show Txt.join " " P = txM ms2 from by rw [eP]]
        exact read_good g2 (by rw [hl4]; simp) lw4
      refine ⟨.non, _, some (.str (Txt.join " " P)), e5, e6, ?_⟩
      rw [show evSs (Γn 30) (.cons (sAt lapB 5) _) _ _ = _ from ife_f l_t5n]
      have t1 : tyD M4 .join (.str " ") = true := rfl
      have t2 : tyD M4 .join (.str " then ") = true := rfl
      have lc := lcGo_list (Γ := Γn 30) (M := M4) (e := .meth .join (.str " ") (.cons (.blt (.list false) (.cons (.var 12) .nil)) .nil)) (r := R8 ns k (some (.lst (ms.map fun w => .lst w.ds))) (some (.lst (Pd P))) (some .non) (some (.tup (ms2.map fun w => .tup w.ds))) none) (i := 12) (fun w : Mw => D.tup w.ds) (fun w => .str w.text) ms2 [] (fun w hw => by
        have j1 := join_ds (g2.ok w hw) M4
        have b1 : bltD M4 (.list false) [.tup w.ds] = .ok (.lst w.ds) M4 := rfl
        simp only [List.set_cons_succ, List.set_cons_zero]
        generalize w.ds = Wd at *
        generalize w.text = Wt at *
        generalize (ms.map fun w => D.lst w.ds) = L at *
        generalize (ms2.map fun w => D.tup w.ds) = L2 at *
        clear last rd j4 tx e5 e6 eP ho hv hne hP h4 e4 lw4
        walk_at "ev")
      rw [List.nil_append] at lc
      have q : evE (Γn 30) (.lc false [12] (.nm 12) (.seq (.var 6)) .yes (.meth .join (.str " ") (.cons (.blt (.list false) (.cons (.var 12) .nil)) .nil))) (R8 ns k (some (.lst (ms.map fun w => .lst w.ds))) (some (.lst (Pd P))) (some .non) (some (.tup (ms2.map fun w => .tup w.ds))) none) M4 = .ok (.lst (ms2.map fun w => .str w.text)) M4 := by
        rw [e_lc, show evI (Γn 30) (.seq (.var 6)) (R8 ns k (some (.lst (ms.map fun w => .lst w.ds))) (some (.lst (Pd P))) (some .non) (some (.tup (ms2.map fun w => .tup w.ds))) none) M4 = .ok (.vals (ms2.map fun w => .tup w.ds)) M4 from rfl, rb_ok, k_lcv, if_pos (by rw [List.length_map]; omega)]
        rw [show wipeD (R8 ns k (some (.lst (ms.map fun w => .lst w.ds))) (some (.lst (Pd P))) (some .non) (some (.tup (ms2.map fun w => .tup w.ds))) none) [12] = R8 ns k (some (.lst (ms.map fun w => .lst w.ds))) (some (.lst (Pd P))) (some .non) (some (.tup (ms2.map fun w => .tup w.ds))) none from rfl, lc, no_ok, rb_ok, mk_f]
      have j2 : methD M4 .join (.str " then ") [.lst (ms2.map fun w => .str w.text)] = .ok (.str (Txt.join " " P)) M4 := by
        show opt (strsD (ms2.map fun w => .str w.text)) (fun zs => if (zs.map (·.length)).sum + zs.length * (Str.ofString " then ").length ≤ 16777216 then .ok (.str (Txt.join " then " zs)) M4 else .bad) = _
        have e : (ms2.map fun w => D.str w.text) = (ms2.map Mw.text).map D.str := by rw [List.map_map]; rfl
        rw [e, strs_of, opt_s, txM_eq]
        have h1 := sum_le 36 (ms2.map Mw.text) fun s hs => by
          obtain ⟨w, hw, rfl⟩ := List.mem_map.mp hs
          exact w.tlen (g2.ok w hw)
        have h3 : (Str.ofString " then ").length = 6 := by decide +kernel
        rw [List.length_map] at h1
        rw [h3, List.length_map, if_pos (by omega), show Txt.join " " P = txM ms2 from by rw [eP]]
      have sq : eqD M4 (.str (Txt.join " " P)) (.str (Txt.join " " P)) = some true := by
        rw [show Txt.join " " P = txM ms2 from by rw [eP], eqD_str (txM_ok g2.ok) (txM_ok g2.ok)]
        simp
      have inner : evSs (Γn 30) (.cons (.set 7 (.meth .join (.str " then ") (.cons (.lc false [12] (.nm 12) (.seq (.var 6)) .yes (.meth .join (.str " ") (.cons (.blt (.list false) (.cons (.var 12) .nil)) .nil))) .nil))) (.cons (.ife (.val (.cmp .ne (.var 7) (.meth .join (.str " ") (.cons (.var 4) .nil)))) (.cons (.ret (.bl false)) .nil) .nil) .nil)) (R8 ns k (some (.lst (ms.map fun w => .lst w.ds))) (some (.lst (Pd P))) (some .non) (some (.tup (ms2.map fun w => .tup w.ds))) none) M4 = .nx (R8 ns k (some (.lst (ms.map fun w => .lst w.ds))) (some (.lst (Pd P))) (some .non) (some (.tup (ms2.map fun w => .tup w.ds))) (some (.str (Txt.join " " P)))) M4 := by
        rw [set_of (l_s7 q t2 j2)]
        simp only [List.set_cons_succ, List.set_cons_zero]
        rw [ife_f (l_t8 t1 j4 sq), MX.ss_nil]
      have s6 : evS (Γn 30) (sAt lapB 6) (R8 ns k (some (.lst (ms.map fun w => .lst w.ds))) (some (.lst (Pd P))) (some .non) (some (.tup (ms2.map fun w => .tup w.ds))) none) M4 = .nx (R8 ns k (some (.lst (ms.map fun w => .lst w.ds))) (some (.lst (Pd P))) (some .non) (some (.tup (ms2.map fun w => .tup w.ds))) (some (.str (Txt.join " " P)))) M4 := by
        show evS (Γn 30) (.ife (.val (.cmp .is_ (.var 5) .non)) _ .nil) _ _ = _
        rw [s_if', l_t6, rg_ok]
        exact inner
      rw [st_of s6]
      rw [show evSs (Γn 30) (.cons (sAt lapB 7) .nil) _ _ = _ from ife_f (last _ _ _), MX.ss_nil]
  have h4' := h4
  obtain ⟨n4, a4, l4, rfl, x4, y4⟩ := h4'
  refine ⟨[pen (n4.map D.int) a4 l4], ?_, h4⟩
  rw [k_step, MX.ss_gc, hl0]
  show gcR [2, 3, 4, 5, 6, 7, 12] 1 (evSs (Γn 30) (.cons (sAt lapB 0) (.cons (sAt lapB 1) (.cons (sAt lapB 2) (.cons (sAt lapB 3) (.cons (sAt lapB 4) (.cons (sAt lapB 5) (.cons (sAt lapB 6) (.cons (sAt lapB 7) .nil)))))))) (R8 ns k none none none none none) M) = _
  rw [show evSs (Γn 30) (.cons (sAt lapB 0) _) _ _ = _ from set_of (l_s0 e1)]
  simp only [List.set_cons_succ, List.set_cons_zero]
  rw [show evSs (Γn 30) (.cons (sAt lapB 1) _) _ _ = _ from set_of (l_s1 (tx M1) rfl (split_ws g) e2)]
  simp only [List.set_cons_succ, List.set_cons_zero]
  rw [st_of e4]
  rw [show evSs (Γn 30) (.cons (sAt lapB 3) _) _ _ = _ from set_of (l_s3 eA)]
  simp only [List.set_cons_succ, List.set_cons_zero]
  rw [show evSs (Γn 30) (.cons (sAt lapB 4) _) _ _ = _ from set_of (l_s4 rfl j4 eB)]
  simp only [List.set_cons_succ, List.set_cons_zero]
  rw [body]
  rfl
/-! ### the ten texts -/
def txL : List Str := [Str.ofString "", Str.ofString " ", Str.ofString "turn ", Str.ofString " turn", Str.ofString "then", Str.ofString "turn then", Str.ofString "exchange", Str.ofString "roll 0 1", Str.ofString "turn then turn", Str.ofString "roll 0 1 0"]
theorem ps_turn {P : List Str} {a : Nat} {t : Bool} (h : P[a]? = some (Str.ofString "turn")) (ht : t = false) : RdM P a t (.inr .turn) := .turn h ht
theorem texts_wr : ∀ T ∈ txL, ∃ (P : List Str) (o : Nat ⊕ (Ms × Nat)) (i : Nat), Txt.join " " P = T ∧ Txt.split T " " = P ∧ (∀ s ∈ P, s ∈ voc) ∧ P ≠ [] ∧ P.length ≤ 4 ∧ RdW P 4 0 false o ∧ wrO P o = some i := by
  intro T hT
  simp only [txL, List.mem_cons, List.not_mem_nil, or_false] at hT
  rcases hT with rfl | rfl | rfl | rfl | rfl | rfl | rfl | rfl | rfl | rfl
  · exact ⟨[Str.ofString ""], .inl 0, 0, by decide +kernel, by decide +kernel, by decide +kernel, by simp, by simp, .bad (.odd (w := Str.ofString "") rfl (fun h => absurd h.1 (by decide)) (by decide) (by decide)), rfl⟩
  · exact ⟨[Str.ofString "", Str.ofString ""], .inl 0, 0, by decide +kernel, by decide +kernel, by decide +kernel, by simp, by simp, .bad (.odd (w := Str.ofString "") rfl (fun h => absurd h.1 (by decide)) (by decide) (by decide)), rfl⟩
  · exact ⟨[Str.ofString "turn", Str.ofString ""], .inr ([.turn], 1), 1, by decide +kernel, by decide +kernel, by decide +kernel, by simp, by simp, .stop (.turn rfl rfl) (.inr (by decide +kernel)), rfl⟩
  · exact ⟨[Str.ofString "", Str.ofString "turn"], .inl 0, 0, by decide +kernel, by decide +kernel, by decide +kernel, by simp, by simp, .bad (.odd (w := Str.ofString "") rfl (fun h => absurd h.1 (by decide)) (by decide) (by decide)), rfl⟩
  · exact ⟨[Str.ofString "then"], .inl 0, 0, by decide +kernel, by decide +kernel, by decide +kernel, by simp, by simp, .bad (.odd (w := Str.ofString "then") rfl (fun h => absurd h.1 (by decide)) (by decide) (by decide)), rfl⟩
  · exact ⟨[Str.ofString "turn", Str.ofString "then"], .inl 2, 2, by decide +kernel, by decide +kernel, by decide +kernel, by simp, by simp, .no (.turn rfl rfl) (by decide) rfl (.bad (.none rfl)), rfl⟩
  · exact ⟨[Str.ofString "exchange"], .inl 1, 1, by decide +kernel, by decide +kernel, by decide +kernel, by simp, by simp, .bad (.no1 (w := Str.ofString "exchange") rfl (.inl rfl) rfl), rfl⟩
  · exact ⟨[Str.ofString "roll", Str.ofString "0", Str.ofString "1"], .inl 3, 3, by decide +kernel, by decide +kernel, by decide +kernel, by simp, by simp, .bad (.no3 (x := Str.ofString "0") (y := Str.ofString "1") (p := (Str.ofString "0", Str.ofString "front", 0)) (q := (Str.ofString "1", Str.ofString "front", 1)) rfl rfl (by decide +kernel) rfl (by decide +kernel) rfl), rfl⟩
  · exact ⟨[Str.ofString "turn", Str.ofString "then", Str.ofString "turn"], .inl 2, 2, by decide +kernel, by decide +kernel, by decide +kernel, by simp, by simp, .no (.turn rfl rfl) (by decide) rfl (.bad (.odd (w := Str.ofString "turn") rfl (fun h => absurd h.2 (by decide)) (by decide) (by decide))), rfl⟩
  · exact ⟨[Str.ofString "roll", Str.ofString "0", Str.ofString "1", Str.ofString "0"], .inl 3, 3, by decide +kernel, by decide +kernel, by decide +kernel, by simp, by simp, .bad (.bad3 (x := Str.ofString "0") (y := Str.ofString "1") (z := Str.ofString "0") (p := (Str.ofString "0", Str.ofString "front", 0)) (q := (Str.ofString "1", Str.ofString "front", 1)) rfl rfl (by decide +kernel) rfl (by decide +kernel) rfl (by decide +kernel)), rfl⟩
def textB : SSs := bodyF (sAt b_law 3)
abbrev r89 (ns : List Int) (o9 : Option D) : Rho := [some (.scr ns), some (.ref 0), none, none, none, none, none, none, some (.lst (txL.map D.str)), o9, none, none, none]
theorem text_t {ns : List Int} {M : Mem} {T : Str} {W X : D} (rd : (Γn 30).cs.f "_law_read" [.str T] M = .ok (.tup [.str "word", X, .bl true]) M) (y : tyD M (.split false) (.str T) = true) (s : methD M (.split false) (.str T) [.str " "] = .ok W M) (w : (Γn 30).cs.f "_law_word_wrong" [W] M = .ok X M) (q : eqD M (.tup [.str "word", X, .bl true]) (.tup [.str "word", X, .bl true]) = some true) :
    evT (Γn 30) (.val (.cmp .ne (.call "_law_read" (.cons (.var 9) .nil)) (.tup (.cons (.str "word") (.cons (.call "_law_word_wrong" (.cons (.meth (.split false) (.var 9) (.cons (.str " ") .nil)) .nil)) (.cons (.bl true) .nil)))))) (r89 ns (some (.str T))) M = .ok false M := by
  have z3 : 0 + 1 + 1 + 1 ≤ sizeLine := by decide
  generalize txL.map D.str = tl at *
  walk_at "ev"
theorem text_step {ns : List Int} {M : Mem} {o9 : Option D} (lw : ∀ k, M.all (lowM k) = true) {T : Str} (hT : T ∈ txL) : stepF (Γn 30) (.nm 9) textB (.str T) (r89 ns o9) M = .nx (r89 ns (some (.str T))) M := by
  obtain ⟨P, o, i, jn, sp, hv, hne, hP, ho, hw⟩ := texts_wr T hT
  have hs : sizeLine = 16777216 := sizeLine_eq
  have e5 := law_wrong hv (lw _) ho
  rw [hw] at e5
  have e6 := read_bad hv hne (by omega) ho hw lw
  have hl := wb_len hv (by omega)
  rw [jn] at e6 hl
  have sm : methD M (.split false) (.str T) [.str " "] = .ok (.lst (Pd P)) M := by
    show (if ((" " : Str).length == 0) = false ∧ T.length + 2 ≤ sizeLine then mkL false ((Txt.split T " ").map D.str) _ else .bad) = _
    rw [if_pos ⟨by decide, by omega⟩, sp]
    rfl
  rw [k_step]
  show evSs (Γn 30) (.cons (sAt textB 0) .nil) (r89 ns (some (.str T))) M = _
  rw [show evSs (Γn 30) (.cons (sAt textB 0) .nil) _ _ = _ from ife_f (text_t e6 rfl sm e5 (eq_same (p := .tuple [.str "word", .int (i : Int), .bool true]) rfl (by kernel_rfl))), MX.ss_nil]
/-! ### the sizes -/
def w0 : Mw := .roll (Str.ofString "0", Str.ofString "front", 0) (Str.ofString "-1", Str.ofString "end", 1) (Str.ofString "1", some 1)
theorem w0_ok : w0.ok := ⟨by decide +kernel, by decide +kernel, by decide +kernel⟩
theorem w0_text : txM [w0] = Str.ofString "roll 0 -1 1" := by decide +kernel
def oddL : List D := [.int 0, .int (-1), .int 1001, .non, .bl true, .str "3", .int (10 ^ 30)]
theorem odd_size (P : MO) : oddL.map (fun d => (Γn 30).cs.f "_law_size" [wDm [w0], d] [P]) = oddL.map fun d => .ok (.tup [.str "size", d, .bl true]) [P] := by kernel_rfl
theorem odd_eq (M : Mem) : oddL.map (fun d => eqD M (.tup [.str "size", d, .bl true]) (.tup [.str "size", d, .bl true])) = oddL.map fun _ => some true := by kernel_rfl
theorem size_good {n : Nat} (h1 : 1 ≤ n) (hn : n ≤ 1000) {M : Mem} (hl : Ln M) (lw : ∀ k, M.all (lowM k) = true) : (Γn 30).cs.f "_law_size" [wDm [w0], .int (n : Int)] M = .ok (.int (n : Int)) M := by
  rw [show (Γn 30).cs.f "_law_size" = callF (Γn 29) d__law_size from cal (by kernel_rfl)]
  refine callF_eq (fd := d__law_size) rfl rfl ?_ rfl rfl
  rw [show startD d__law_size.N [wDm [w0], D.int (n : Int)] = [some (wDm [w0]), some (.int (n : Int)), none] from rfl]
  have ea := atM (M := M) (ms := [w0]) (fun w hw => by rw [List.mem_singleton.mp hw]; exact w0_ok) h1 hn hl (lw _)
  have e1 := cm_at (Γ := Γn 29) (r := [some (wDm [w0]), some (.int (n : Int)), none]) (i := 0) (j := 1) rfl rfl (mcls_w [w0] M) ea
  show evSs (Γn 29) b__law_size _ M = _
  unfold b__law_size
  rw [MX.ss_cons, s_try', ret_of (show evE (Γn 29) (.blt .len (.cons (.cm "at" (.var 0) (.cons (.var 1) .nil)) .nil)) _ M = .ok (.int (n : Int)) M from by
    rw [e_blt, es_cons, e1, rb_ok, k_es, es_nil, rb_ok, k_es2, rb_ok, k_blt, f_len, l_lst, row_len]), k_try_rt, sg_rt]
theorem last8 {ns : List Int} {W d : D} {M : Mem} {o9 : Option D} (s1 : (Γn 30).cs.f "_law_size" [W, d] M = .ok (.tup [.str "size", d, .bl true]) M) (q : eqD M (.tup [.str "size", d, .bl true]) (.tup [.str "size", d, .bl true]) = some true) (s2 : (Γn 30).cs.f "_law_size" [W, .int 1000] M = .ok (.int 1000) M) (s3 : (Γn 30).cs.f "_law_size" [W, .int 1] M = .ok (.int 1) M) :
    evSs (Γn 30) (.cons (sAt b_law 5) .nil) [some (.scr ns), some (.ref 0), none, none, none, none, none, none, some (.lst (txL.map D.str)), o9, some W, some d, none] M = .rt (.bl true) M := by
  have z3 : 0 + 1 + 1 + 1 ≤ sizeLine := by decide
  generalize txL.map D.str = tl at *
  show evSs (Γn 30) (.cons (.ret (.and (.cmp .eq (.call "_law_size" (.cons (.var 10) (.cons (.var 11) .nil))) (.tup (.cons (.str "size") (.cons (.var 11) (.cons (.bl true) .nil))))) (.and (.cmp .eq (.call "_law_size" (.cons (.var 10) (.cons (.int 1000) .nil))) (.int 1000)) (.cmp .eq (.call "_law_size" (.cons (.var 10) (.cons (.int 1) .nil))) (.int 1))))) .nil) _ _ = _
  walk_at "ev"
theorem law_runs : MP.runs glob tabA depth d_law := by
  intro ns _
  have h0 : evS (Γn 30) (sAt b_law 0) [some (.scr ns), none, none, none, none, none, none, none, none, none, none, none, none] [] = .nx (r80 ns) [pen ((cutG ns none (some 63)).map D.int) 0 0] := by kernel_rfl
  have hi : ∀ M, evI (Γn 30) (.rng1 (.int 10)) (r80 ns) M = .ok (.vals (rngD 10 0)) M := fun M => by kernel_rfl
  have o0 : One [] [pen ((cutG ns none (some 63)).map D.int) 0 0] 0 := ⟨_, _, _, rfl, by decide, by decide⟩
  obtain ⟨r', M', e, er, c, hc, hM⟩ := forGo_ind (step := stepF (Γn 30) (.nm 2) (.gc [2, 3, 4, 5, 6, 7, 12] lapB)) (fun k r M => r = r80 ns ∧ ∃ c : Int, c = 60 * (k : Int) ∧ One [] M c) (rowD 10 idI) 0
    (r := r80 ns) (M := [pen ((cutG ns none (some 63)).map D.int) 0 0]) ⟨rfl, 0, rfl, o0⟩ (fun k d r M hk ⟨er, c, hc, h⟩ => by
      subst er
      have hk3 : k < 10 := by
        have := (List.getElem?_eq_some_iff.mp hk).1
        rw [row_len] at this
        exact this
      rw [row_get hk3] at hk
      cases hk
      obtain ⟨M', e, h'⟩ := lap8 (ns := ns) (k := (k : Int)) h (by omega)
      exact ⟨_, M', .inl e, rfl, c + 60, by omega, h'⟩)
  subst er
  have hc2 : c < 2 ^ 26 := by
    rw [hc, row_len]
    decide
  have lwM : ∀ k, M'.all (lowM k) = true := fun k => by
    obtain ⟨m1, a, l, rfl, _⟩ := hM
    show (lowM k (pen (m1.map D.int) a l) && true) = true
    rw [pen_low]
    rfl
  -- the texts
  obtain ⟨o9, e9⟩ : ∃ o9, forGo (stepF (Γn 30) (.nm 9) textB) (txL.map D.str) (r89 ns none) M' = .nx (r89 ns o9) M' := by
    obtain ⟨r', M2, e, ⟨o9, er⟩, eM⟩ := forGo_ind (step := stepF (Γn 30) (.nm 9) textB) (fun k r M => (∃ o9, r = r89 ns o9) ∧ M = M') (txL.map D.str) 0 (r := r89 ns none) (M := M') ⟨⟨none, rfl⟩, rfl⟩ (fun k d r M hk ⟨⟨o9, er⟩, eM⟩ => by
      subst er eM
      have hd : d ∈ txL.map D.str := List.mem_of_getElem? hk
      obtain ⟨T, hT, rfl⟩ := List.mem_map.mp hd
      exact ⟨_, _, .inl (text_step lwM hT), ⟨_, rfl⟩, rfl⟩)
    subst er eM
    exact ⟨o9, e⟩
  -- the last pick
  have hlen := hM.len
  obtain ⟨d, M3, e3, hd, p3, x3⟩ := pick_call (show (Γn 30).cs.f "_law_pick" = callF (Γn 29) pickF from cal (by kernel_rfl)) c_draw29 hM.at0 (by omega) (ds := oddL) (by decide) (by decide) (by decide)
  have h3 := hM.next x3 p3
  have hlen3 := h3.len
  have lw3 : ∀ k, M3.all (lowM k) = true := fun k => by
    obtain ⟨m1, a, l, rfl, _⟩ := h3
    show (lowM k (pen (m1.map D.int) a l) && true) = true
    rw [pen_low]
    rfl
  have mk : evE (Γn 30) (.make false "Word" (.cons (.str "roll 0 -1 1") .nil)) (r89 ns o9) M' = .ok (wDm [w0]) M' := evE_up (k := 29) (by decide) (make_of (r := r89 ns o9) (e := .str "roll 0 -1 1") (ms := [w0]) (M := M') (gm_one w0_ok) (by rw [w0_text]; rfl) (by rw [hlen]; simp) lwM) (by intro z; cases z)
  have s4 : evS (Γn 30) (sAt b_law 4) (r89 ns o9) M' = .nx [some (.scr ns), some (.ref 0), none, none, none, none, none, none, some (.lst (txL.map D.str)), o9, some (wDm [w0]), some d, none] M3 := by
    have ol : ∀ M : Mem, evE (Γn 30) (.lst false (.cons (.int 0) (.cons (.neg (.int 1)) (.cons (.int 1001) (.cons .non (.cons (.bl true) (.cons (.str "3") (.cons (.bin false .pow (.int 10) (.int 30)) .nil)))))))) (r89 ns o9) M = .ok (.lst oddL) M := fun M => by kernel_rfl
    show evS (Γn 30) (.par [10, 11] (.cons (.make false "Word" (.cons (.str "roll 0 -1 1") .nil)) (.cons (.call "_law_pick" (.cons (.var 1) (.cons (.lst false (.cons (.int 0) (.cons (.neg (.int 1)) (.cons (.int 1001) (.cons .non (.cons (.bl true) (.cons (.str "3") (.cons (.bin false .pow (.int 10) (.int 30)) .nil)))))))) .nil))) .nil))) _ _ = _
    rw [s_par', es_cons, mk, rb_ok, k_es, es_cons, e_call, es_cons, e_var, show get (r89 ns o9) 1 = some (.ref 0) from rfl, v_d, rb_ok, k_es, es_cons, ol, rb_ok, k_es, es_nil, rb_ok, k_es2, rb_ok, k_es2, rb_ok, e3, rb_ok, k_es, es_nil, rb_ok, k_es2, rb_ok, k_es2, rg_ok]
    rfl
  obtain ⟨n3, a3, l3, rfl, _, _⟩ := h3
  have z1 := List.map_inj_left.mp (odd_size (pen (n3.map D.int) a3 l3)) d hd
  have z2 := List.map_inj_left.mp (odd_eq [pen (n3.map D.int) a3 l3]) d hd
  have z3 := size_good (n := 1000) (by decide) (by decide) (M := [pen (n3.map D.int) a3 l3]) ⟨by simp, by simp⟩ lw3
  have z4 := size_good (n := 1) (by decide) (by decide) (M := [pen (n3.map D.int) a3 l3]) ⟨by simp, by simp⟩ lw3
  have fin := last8 (ns := ns) (o9 := o9) z1 z2 z3 z4
  refine ⟨[], ?_⟩
  show callF (Γn 30) d_law [.scr ns] [] = _
  have eb : evSs (Γn 30) d_law.body (startD d_law.N [.scr ns]) [] = .rt (.bl true) [pen (n3.map D.int) a3 l3] := by
    show evSs (Γn 30) (.cons (sAt b_law 0) (.cons (.for_ (.nm 2) (.rng1 (.int 10)) (.gc [2, 3, 4, 5, 6, 7, 12] lapB)) (.cons (sAt b_law 2) (.cons (.for_ (.nm 9) (.seq (.var 8)) textB) (.cons (sAt b_law 4) (.cons (sAt b_law 5) .nil)))))) [some (.scr ns), none, none, none, none, none, none, none, none, none, none, none, none] [] = _
    rw [MX.ss_cons, h0, sg_nx, MX.ss_cons, s_for', hi, rg_ok, k_for, rng_row, e, sg_nx]
    rw [st_of (show evS (Γn 30) (sAt b_law 2) (r80 ns) M' = .nx (r89 ns none) M' from by kernel_rfl)]
    rw [MX.ss_cons, s_for', show evI (Γn 30) (.seq (.var 8)) (r89 ns none) M' = .ok (.vals (txL.map D.str)) M' from rfl, rg_ok, k_for, e9, sg_nx, st_of s4, fin]
  rw [callF_run (by rfl), eb]
  rfl

end EV
namespace EV
open PySem PySem.Spec PyProof.Rows L2
open He (ga)
def loose0 : List Str := ["EveryError", "BadWord", "BadSize", "BadRow", "Word", "is_integer", "need_row", "joined", "number_of", "place_parts", "value_at", "word_at", "read_place", "read_move", "read_moves", "exchange_at", "roll_at", "move_at", "parts_of", "_law_pen", "_law_draw", "_law_pick", "_law_place_word", "_law_amount", "_law_move", "_law_moves", "_law_word_text", "_law_numbers", "_law_places", "_law_move_end"]
def loose1 : List Str := ["_law_moves_end", "_law_word_wrong", "_law_spoiled", "_law_read", "_law_size", "MOST_SIZE", "NONZERO", "MOST_MOVES", "HALF"]
abbrev looseN : List Str := loose0 ++ loose1
abbrev RwO : PySem.W.OpenRow := PySem.W.OpenLaw.row PySem.Challenge.rw_everyorder_k08_texts_that_are_no_words
def exX (K : PySem.W.Frag) : Bool := MP.topB PySem.Challenge.pw_everyorder_k08_texts_that_are_no_words glob K
abbrev hkX : PySem.W.Hook := hookE 5 (lst.dfn ++ mst.dfn) exX (ers.map (·.x)) (ers.map fun e => fnEV e.qual e.params e.body e.scope)
def obsO (s : PySem.W.SharedT) : AlE := obsE 5 (lst.dfn ++ mst.dfn) exX (ers.map (·.x)) (HandSHeadRun.getT s)
theorem obsO_eq (s : PySem.W.SharedT) : obsO s = hkX.obs s.abs := obsE_eq (HandSHeadRun.getT_eq s)
theorem topRuns (w : World) : HandSHeadRun.RunEq RwO (PySem.W.view RwO.prog [44]) hkX obsO 20000 looseN w := by
  intro os
  kernel_rfl
end EV
open PySem PySem.W PySem.Calls PyProof.Rows in
set_option maxHeartbeats 0 in
theorem PySem.Challenge.cw_everyorder_k08_texts_that_are_no_words_holds : PySem.Challenge.rw_everyorder_k08_texts_that_are_no_words.Holds := by
  w_on; o_law
  refine HandSHeadRun.head_any (r := OpenLaw.row PySem.Challenge.rw_everyorder_k08_texts_that_are_no_words) (q := view (OpenLaw.row PySem.Challenge.rw_everyorder_k08_texts_that_are_no_words).prog [44]) (H := EV.hkX) (ob := EV.obsO) (M := 20000) (loose := EV.looseN) (d := HandSHeadRun.topDef (OpenLaw.row PySem.Challenge.rw_everyorder_k08_texts_that_are_no_words).prog 44) (kwd := []) EV.obsO_eq
    (by kernel_rfl) (fun s => by kernel_rfl) EV.topRuns (by kernel_rfl) (by kernel_rfl) (by kernel_rfl) (by rfl) (by first | assumption | decide +kernel) (by decide +kernel) ⟨rfl, rfl, rfl, rfl, rfl, by decide +kernel⟩ ?hw ?hc
  case hw => w_witness2
  case hc =>
    refine LamX.walk_ofTsE (l := PySem.Challenge.rw_everyorder_k08_texts_that_are_no_words) (n := 63) (k := 2 * EV.depth + 5) (x := "script") (CX := fun w => L2.CX (PySem.Challenge.rw_everyorder_k08_texts_that_are_no_words).prog w) rfl (by decide) (by kernel_rfl) ⟨rfl, by decide, by decide⟩ ?F MP.noRaise
    intro w mg fa h Y G hmg0
    obtain ⟨K, KX, c⟩ := Y
    have hmg : mg ("law" : PySem.Str) = some (.ref fa) := by
      have e : (HandSHeadRun.topDef (OpenLaw.row PySem.Challenge.rw_everyorder_k08_texts_that_are_no_words).prog 44).name = ("law" : PySem.Str) := by kernel_rfl
      rw [← e]
      exact hmg0
    exact ⟨K, KX, MP.law_of (G := EV.glob) (L := EV.lst) (R := EV.mst) (es := EV.ers) (n := EV.depth) (lfd := EV.d_law) (lst := EV.s_law) (fun _ => rfl) c rfl EV.ers_ok KX G EV.lst_ok EV.mst_ok (by decide +kernel) (by simp [EV.lst]) rfl EV.law_runs hmg⟩
