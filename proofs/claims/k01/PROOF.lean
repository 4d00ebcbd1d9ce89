import PyProof.Rows.All
import HandS.ForMost
import HandS.ForExc
import HandS.Defaults
import HandS.EndTab
import HandS.HeadHook4
import HandS.HeadWalk
import HandS.Head2
import HandS.Wide
import HandS.WideBits
import HandS.Flow
import HandS.Style
import HandS.IsInst
import HandS.Conv
import HandS.More
import HandS.TupAny
import HandS.Walk
import HandS.SortInts
import HandS.FStr
import HandS.DictComp
import HandS.CallSlots
import HandS.Evl
import KE.GoesMore
import HandS.WordsList
import PySem.Challenge.RW_everyorder_k01_rearrangements_done_and_t
set_option Elab.async false
set_option linter.all false
set_option maxRecDepth 100000
set_option maxHeartbeats 4000000
/-! Our own base: contracts by name, walks of lists or tuples, what stays of the heap, the reading's steps. -/
namespace EV
open PySem PySem.Spec PyProof.Rows L2
open He (ga)

/-! ### a contract by the def's name -/
/-- the module's x is a def that keeps the promise sp with k calls of room -/
structure Gd (P : Program) (w : World) (K : PySem.W.Frag) (mg : Str → Option Value) (base : Heap) (k : Nat) (x : Str) (sp : Sp) : Prop where
  glo : mg x = some (.ref (ga K x))
  kept : PySem.W.keepIn K (.ref (ga K x)) = true
  runs : FnR P w K mg base (L2.CX P w) k (ga K x) sp
theorem Gd.imp {P : Program} {w : World} {K : PySem.W.Frag} {mg : Str → Option Value} {base : Heap} {k : Nat} {x : Str} {sp sp' : Sp} (G : Gd P w K mg base k x sp)
    (h : ∀ vs H Q E, sp' vs H Q E → sp vs H Q E) : Gd P w K mg base k x sp' := ⟨G.glo, G.kept, G.runs.imp h⟩
/-- where a def stands (all of it written, no defaults) -/
abbrev Stands (K : PySem.W.Frag) (x : Str) (st : Stmt) : Prop := ∃ fd, FunD K x x (defArgs st) (defBody st) (defScope st) [] [] (ga K x) fd
/-- how its parameters are bound: shown by rfl, a parameter at a time -/
abbrev BindsAll (x : Str) (st : Stmt) (ps : List Str) : Prop := ∀ (kV doc pm : Value) (an : Option Addr) (cdv ct : Value) (us : List Value), us.length = ps.length →
  bindArgs (PySem.W.fnOf x x (defArgs st) (defBody st) (defScope st) .none kV doc pm an cdv ct) ⟨us, []⟩ = pure (ps.zip us)

section
variable {P : Program} {w : World} {K : PySem.W.Frag} {mg : Str → Option Value} {base : Heap}
/-- a def keeps its promise: its body's derivation and the reading of it -/
theorem ok_of {x : Str} {st : Stmt} {fd : FuncData} {f : Addr} {N ps : List Str} {k : Nat} {sp : Sp} (F : FunD K x x (defArgs st) (defBody st) (defScope st) [] [] f fd) (S : FnScope N ps (defScope st))
    (len : ∀ vs H Q E, sp vs H Q E → vs.length = ps.length)
    (body : ∀ (X : Cx) (H : Hp) (vs : List V) (Q : VK) (E : XK), (∃ cdv A outer s, X = cxOf (L2.CX P w) P w K mg base N x (defScope st) f cdv A outer s H E) → Room k X.A → Takes X (fun cls d _ H => E cls d H) → PassesOwn (model X.prog X.w) X.A X.env X.xe → sp vs H Q E →
      ∃ t, PSs X (defBody st) t ∧ t { nx := fun _ H' => Q .non H', rt := Q } (start N vs) H) : FnOk P w K mg base (L2.CX P w) (k + 1) f fd ps sp := by
  refine F.ok S len fun cdv A outer s H vs Q E hr hs => ?_
  exact body _ H vs Q E ⟨cdv, A, outer, s, rfl⟩ hr (takes_of rfl rfl rfl rfl) (passes_of rfl) hs
theorem gd_of {x : Str} {st : Stmt} {ps : List Str} {k : Nat} {sp : Sp} (g : mg x = some (.ref (ga K x))) (F : Stands K x st) (b : BindsAll x st ps)
    (ok : ∀ fd, FunD K x x (defArgs st) (defBody st) (defScope st) [] [] (ga K x) fd → FnOk P w K mg base (L2.CX P w) k (ga K x) fd ps sp) : Gd P w K mg base k x sp := by
  obtain ⟨fd, D⟩ := F
  refine ⟨g, D.kp, ?_⟩
  refine FnR.imp ((ok fd D).raw (FunD.bindsN D b) .nil) fun vs H Q E h => ?_
  rw [List.append_nil]
  exact h
end

/-! ### rules of our own -/
section
variable {X : Cx} {k : Nat} {x : Str} {sp : Sp} {E : L2.St → XK} {p pos : Pos} {e : Expr} {es : List Expr} {t : TA}
def tCr (sp : Sp) (E : L2.St → XK) (t : TA) : TE := fun σ H Q => t σ H fun vs H1 => sp vs H1 Q (E σ)
theorem run_gd {pins : List (Addr × Obj)} {σ : L2.St} {H : Hp} {s : Shared} {Q : VK} {us : List Value} {vs : List V} (G : Gd X.prog X.w X.K X.mg X.base k x sp) (hr : Room k X.A)
    (hx : PassesAt (L2.CX X.prog X.w) X σ (E σ)) (I : Inv X pins σ H s) (r : Vals vs us) (h : sp vs H Q (E σ)) : wpAny (model X.prog X.w) X.A (call (.ref (ga X.K x)) us) (EP X pins σ Q) X.xe s := by
  refine wpAny_call (codeAny_mono (G.runs X.A X.stack s H us vs Q (E σ) hr I.env0 r h) fun r s' hq => ?_)
  match r, hq with
  | .error u, hq => exact hx pins H s u s' I hq
  | .ok (.ret u), hq => exact I.after hq
  | .ok .next, hq => exact False.elim hq
  | .ok .brk, hq => exact False.elim hq
  | .ok .cont, hq => exact False.elim hq
/-- f(e, ..) by a contract -/
theorem pe_cr (G : Gd X.prog X.w X.K X.mg X.base k x sp) (hr : Room k X.A) (hx : ∀ σ, PassesAt (L2.CX X.prog X.w) X σ (E σ)) (ha : PA X (e :: es) t) (hg : Gl X x := by rfl)
    (hdb : (x == ("__debug__" : Str)) = false := by decide) (he : starEach (e :: es) X.env = (false, eval e X.env) :: starEach es X.env := by rfl)
    (hpl : (backTo pos (starEach es X.env)).any (·.1) = false := by rfl) : PE X (.Call (.Name x p) (e :: es) [] pos) (tCr sp E t) := by
  constructor
  intro pins s σ H Q I h
  apply wpAny_Call_Name_kw
  refine ld_glob I hg G.glo ?_ hdb
  refine PySem.W.callWith_K (h₀ := X.base) I.ok.mod.kin G.kept ?_ he hpl
  refine thn (ha.run pos pins s σ H _ I h) fun us s1 q => ?_
  obtain ⟨vs, H1, I1, r, q⟩ := q
  exact ⟨I1.kIn, run_gd G hr (hx σ) I1 r q⟩
theorem pe_cr0 (G : Gd X.prog X.w X.K X.mg X.base k x sp) (hr : Room k X.A) (hx : ∀ σ, PassesAt (L2.CX X.prog X.w) X σ (E σ)) (hg : Gl X x := by rfl)
    (hdb : (x == ("__debug__" : Str)) = false := by decide) : PE X (.Call (.Name x p) [] [] pos) (tCr sp E tNil) := by
  constructor
  intro pins s σ H Q I h
  apply wpAny_Call_Name_kw
  refine ld_glob I hg G.glo ?_ hdb
  exact PySem.W.callWith_K0 I.kIn G.kept (run_gd (us := []) G hr (hx σ) I .nil h)
/-- a whole number that the module's name holds -/
theorem pe_gint {i : Int} (hg : Gl X x) (h : ∃ t, X.mg x = some (.int i t)) (hd : (x == ("__debug__" : Str)) = false := by decide) : PE X (.Name x pos) (tC (.int i)) := by
  obtain ⟨t, h⟩ := h
  exact pe_glob hg h ⟨t, rfl⟩ hd
end

theorem mul_l {i j : Int} (h : -(2 ^ 64) < i) (h2 : i < 2 ^ 64) : CMul i j := .inl ⟨h, h2⟩
theorem mul_r {i j : Int} (h : -(2 ^ 64) < j) (h2 : j < 2 ^ 64) : CMul i j := .inr ⟨h, h2⟩

theorem seq_ix {d : Int} {n : Nat} (h0 : 0 ≤ d) (h1 : d < (n : Int)) : seqIndex? d n = some d.toNat := by
  have h2 : ¬ d < 0 := by omega
  unfold seqIndex?
  simp [h2, h0, h1]

theorem ite_t {c : Bool} {A B : Prop} (e : c = true) (h : A) : if c = true then A else B := by
  rw [if_pos e]
  exact h
theorem ite_f {c : Bool} {A B : Prop} (e : c = false) (h : B) : if c = true then A else B := by
  rw [e]
  exact iteF h
/-- the natural n as Python's int -/
def vI (n : Nat) : V := .int (n : Int)
theorem vI_map (f : List Nat) : f.map vI = (f.map Int.ofNat).map V.int := by rw [List.map_map]; rfl
theorem rgV_nat (n : Nat) : rgV 0 (n : Int) = (List.range n).map vI := by
  unfold rgV
  rw [show ((n : Int) - 0).toNat = n by omega]
  apply List.map_congr_left
  intro x _
  show V.int (0 + (x : Int)) = V.int (x : Int)
  rw [Int.zero_add]
theorem of_map_perm {ys : List V} {f : List Nat} (h : ys.Perm (f.map vI)) : ∃ g : List Nat, ys = g.map vI ∧ g.Perm f := by
  induction f generalizing ys with
  | nil => exact ⟨[], by simpa using h, .refl _⟩
  | cons a r ih =>
    have ha : vI a ∈ ys := h.mem_iff.mpr (by simp)
    obtain ⟨s, t, rfl⟩ := List.append_of_mem ha
    have h2 : (s ++ t).Perm (r.map vI) := (List.perm_middle.symm.trans h).cons_inv
    obtain ⟨g, e, p⟩ := ih h2
    obtain ⟨g1, g2, rfl, e1, e2⟩ := List.append_eq_map_iff.mp e
    exact ⟨g1 ++ a :: g2, by simp [e1, e2], List.perm_middle.trans (p.cons a)⟩

/-! ### lists and tuples alike -/
/-- a list (true), a tuple (false) -/
def SqB (b : Bool) (K : PySem.W.Frag) (H : Hp) (a : Addr) (xs : List V) : Prop := match b with
  | true => SqL K H a xs
  | false => SqT K H a xs
theorem SqB.or {b : Bool} {K : PySem.W.Frag} {H : Hp} {a : Addr} {xs : List V} (h : SqB b K H a xs) : SqL K H a xs ∨ SqT K H a xs := by
  cases b
  · exact .inr h
  · exact .inl h
theorem Same.rd {H H' : Hp} {a : Addr} {u : HO} (s : Same H H') (h : Rd H a u) : Rd H' a u := by
  rcases h with h | ⟨o, h⟩
  · exact .inl (s a _ h)
  · exact .inr ⟨o, s a _ h⟩
theorem Same.sqt {K : PySem.W.Frag} {H H' : Hp} {a : Addr} {xs : List V} (s : Same H H') (h : SqT K H a xs) : SqT K H' a xs := by
  rcases h with h | h
  · exact .inl (Same.rd s h)
  · exact .inr h
theorem Same.sqb {b : Bool} {K : PySem.W.Frag} {H H' : Hp} {a : Addr} {xs : List V} (s : Same H H') (h : SqB b K H a xs) : SqB b K H' a xs := by
  cases b
  · exact Same.sqt s h
  · exact L2.Same.seq s h
theorem Same.new {H : Hp} {p : Addr} {o : HO} (h : H p = none) : Same H (upd H p o) := fun b u e => by
  rw [upd_ne (ne_of_none e h)]
  exact e
/-- an object that H does not know may be changed -/
theorem Same.put {H H' : Hp} {p : Addr} {o : HO} (s : Same H H') (h : H p = none) : Same H (upd H' p o) := fun b u e => by
  rw [upd_ne (ne_of_none e h)]
  exact s b u e

section
variable {X : Cx} {tg : Expr}
/-- what a for over a list or a tuple asks -/
def iSeq (K : PySem.W.Frag) (tl : TE) : TI := fun σ H R => tl σ H fun x H1 => ∃ (a : Addr) (b : Bool) (xs : List V), x = .ref a ∧ SqB b K H1 a xs ∧
  ∀ J, Walk J xs.length (fun H => SqB b K H a xs) (YAt xs) → R J H1
theorem pi_seq {l : Expr} {tl : TE} (hl : PE X l tl) : PI X tg l (iSeq X.K tl) := by
  constructor
  intro pins s σ H R I h
  refine thn (hl.run pins s σ H _ I h) fun v s1 q1 => ?_
  obtain ⟨x, H1, I1, r1, a, b, xs, e, hq, q⟩ := q1
  subst e
  cases r1
  have fresh : ∀ b, b ∈ [s1.heap.objs.size] → FpOk X pins H1 b := fun b hb => by
    have e : b = s1.heap.objs.size := List.mem_singleton.mp hb
    rw [e]
    exact I1.fpOk (Nat.le_refl _) (I1.hok.fresh (Nat.le_refl _))
  cases b with
  | true =>
    obtain ⟨its, rv, p, hz⟩ := I1.list (show SqL X.K H1 a xs from hq)
    refine wpAny_pyIter_list p.isList ?_
    refine ⟨s1.heap.objs.size, [s1.heap.objs.size], _, _, H1, rfl, I1.kept (t' := s1.toks) fun b o e => Heap.get?_push_of_some _ e, turn_list a _, ⟨_, Heap.get?_push_size _ rfl, rfl, rfl⟩, fresh, ?_⟩
    exact q _ walk_list
  | false =>
    obtain ⟨its, rv, p, hz⟩ := I1.tuple (show SqT X.K H1 a xs from hq)
    refine wpAny_pyIter_tuple (show s1.heap.IsTuple a its.toArray from p) ?_
    refine ⟨s1.heap.objs.size, [s1.heap.objs.size], _, _, H1, rfl, I1.kept (t' := s1.toks) fun b o e => Heap.get?_push_of_some _ e, turn_tuple a _, ⟨_, Heap.get?_push_size _ rfl, rfl, rfl⟩, fresh, ?_⟩
    exact q _ walk_tup
end
theorem yes_if {σ : L2.St} {H : Hp} {A B : Hp → Prop} (h : A H) : tYes σ H fun b H3 => if b = true then A H3 else B H3 := by
  show if true = true then A H else B H
  exact iteT h
/-! ### comprehensions that make a list of known items -/
def PvM (H1 : Hp) (D : Addr) (ys : List V) (i : Nat) (H : Hp) : Prop := Same H1 H ∧ H D = some (.lst (ys.take i))
theorem pvM_turn {H1 H H4 : Hp} {D : Addr} {ys : List V} {i : Nat} {y : V} (hD : H1 D = none) (hn : ys.length ≤ 100000) (p : PvM H1 D ys i H) (s : Same H H4) (e : ys[i]? = some y) :
    ∃ acc, H4 D = some (.lst acc) ∧ acc.length < sizeLine ∧ PvM H1 D ys (i + 1) (upd H4 D (.lst (acc ++ [y]))) := by
  refine ⟨_, s _ _ p.2, Nat.lt_of_le_of_lt (m := 100000) ?_ (by decide), Same.put (p.1.trans s) hD, ?_⟩
  · rw [List.length_take]
    omega
  · rw [upd_same, List.take_add_one, e]
    rfl
theorem lc_map {J : It} {n : Nat} {G : Hp → Prop} {Y : Nat → Hp → V → Hp → Prop} (w : Walk J n G Y) {g : TG} {tt : TT} {te : TE} {vs : List Nat} {σ : L2.St} {H1 : Hp} {D : Addr} {Qd : Hp → Prop}
    (ys : List V) (hl : ys.length = n) (hD : H1 D = none) (hG : ∀ H, Same H1 H → G H)
    (hs : ∀ i x H H', i < n → Same H1 H → PvM H1 D ys i H → Y i H x H' → g x (wipe σ vs) H' fun σ2 H2 => wipe σ2 vs = wipe σ vs ∧ tt σ2 H2 fun b H3 =>
      if b = true then te σ2 H3 fun y H4 => ∃ acc, H4 D = some (.lst acc) ∧ acc.length < sizeLine ∧ PvM H1 D ys (i + 1) (upd H4 D (.lst (acc ++ [y]))) else PvM H1 D ys (i + 1) H3)
    (hd : ∀ H, Same H1 H → H D = some (.lst ys) → Qd H) :
    ∃ W : Nat → Nat → Hp → Prop, (∃ m, W 0 m (upd H1 D (.lst []))) ∧ ∀ i m H, W i m H →
      (J.stop i H ∧ Qd H) ∨ (J.go i H ∧ ∃ Nx : Hp → Prop, (∀ H', Nx H' → ∃ m', m' < m ∧ W (i + 1) m' H') ∧ ∀ x H', J.yld i H x H' → g x (wipe σ vs) H' fun σ2 H2 => wipe σ2 vs = wipe σ vs ∧ tt σ2 H2 fun b H3 =>
        if b = true then te σ2 H3 fun y H4 => ∃ acc, H4 D = some (.lst acc) ∧ acc.length < sizeLine ∧ Nx (upd H4 D (.lst (acc ++ [y]))) else Nx H3) := by
  refine lc_it w (PvM H1 D ys) ⟨Same.new hD, upd_same⟩ (fun i H _ p => hG H p.1) (fun i x H H' hi p y => hs i x H H' hi p.1 p y) fun H p => hd H p.1 ?_
  have e := p.2
  rw [List.take_of_length_le (by omega)] at e
  exact e
/-- xs[i] of a list or a tuple -/
theorem rix {b : Bool} {K : PySem.W.Frag} {H : Hp} {a : Addr} {xs : List V} {i : Int} {j : Nat} {v : V} {Q : VK} (h : SqB b K H a xs) (hi : i = (j : Int)) (e : xs[j]? = some v) (q : Q v H) : rIx K (.ref a) (.int i) H Q := by
  subst hi
  cases b with
  | true => exact .inl ⟨a, xs, _, _, rfl, rfl, h, atI_nat e, q⟩
  | false => exact .inr (.inl ⟨a, xs, _, _, rfl, rfl, h, atI_nat e, q⟩)

/-! ### rules that name the frame, told with it (inside comprehensions) -/
section
variable {X : Cx} {K : PySem.W.Frag} {tg : Expr}
theorem ix_seqK (h : X.K = K) : IxR X (rIx K) := h ▸ ix_seq
theorem ix_listK (h : X.K = K) : IxR X (rIxL K) := h ▸ ix_list
theorem ix_tupK (h : X.K = K) : IxR X (rIxT K) := h ▸ ix_tup
theorem op_in_seqK (h : X.K = K) : OpR X (compareOp .In) (rIn K false) := h ▸ op_in_seq
theorem op_notIn_seqK (h : X.K = K) : OpR X (compareOp .NotIn) (rIn K true) := h ▸ op_notIn_seq
theorem sl_listK (h : X.K = K) : SlR X (rSlL K) := h ▸ sl_list
theorem call_len_seqK (h : X.K = K) : CallR X (.builtin "len") (fun xs H Q => ∃ p ys, xs = [.ref p] ∧ (SqL K H p ys ∨ SqT K H p ys) ∧ Q (.int ys.length) H) := h ▸ call_len_seq
theorem op_eqDK (hu : X.A.units + 64 < cLine) (h : X.K = K) : OpR X (compareOp .Eq) (rEqD K) := h ▸ op_eqD hu
theorem pi_listK {l : Expr} {tl : TE} (h : X.K = K) (hl : PE X l tl) : PI X tg l (iList K tl) := h ▸ pi_list hl
theorem pi_tupK {l : Expr} {tl : TE} (h : X.K = K) (hl : PE X l tl) : PI X tg l (iTup K tl) := h ▸ pi_tup hl
theorem pi_seqK {l : Expr} {tl : TE} (h : X.K = K) (hl : PE X l tl) : PI X tg l (iSeq K tl) := h ▸ pi_seq hl
end
end EV
namespace EV
open PySem PySem.Spec PyProof.Rows L2
/-! ### enumerate of a tuple -/
theorem meets_enumT (l : Addr) (items : Array Value) (n : Nat) (dct : Option Addr) (sl : Array (Option Value)) :
    Meets (Builtin.«enumerate.__new__» ⟨[.type "enumerate", .ref l], []⟩) (fun _ R s => s.heap.get? l = some { cls := .type "tuple", dict := dct, data := .seq items n, slots := sl } ∧
      R (.ok (.ret (.ref (s.heap.push { cls := .type "tuple_iterator", data := .fields #[.ref l, .int 0 0] }).objs.size)))
        { s with heap := (s.heap.push { cls := .type "tuple_iterator", data := .fields #[.ref l, .int 0 0] }).push { cls := .type "enumerate", data := .fields #[.none, .bool false, .ref s.heap.objs.size, rawInt 0, .none, .none] } }) :=
  .of_wp fun prog w A R s h => by
    obtain ⟨hp, g, d, tk, os⟩ := s
    obtain ⟨hl, h⟩ := h
    have hsub := sub_enumerate
    have hT : Heap.IsTuple (Shared.heap ⟨hp, g, d, tk, os⟩) l items := ⟨_, hl, rfl, n, rfl⟩
    wp_walk using AutoSeq1.wpAny_loadPart' hl
    refine wpAny_stack_any fun st => wpAny_pure ?_
    split
    · rename_i c _ _ _ _ _
      cases (c == Value.type "enumerate") <;> (wp_walk using AutoSeq1.wpAny_loadPart' hl, wpAny_pyIter_tuple hT; exact ⟨_, rfl, h⟩)
    · wp_walk using AutoSeq1.wpAny_loadPart' hl, wpAny_pyIter_tuple hT
      exact ⟨_, rfl, h⟩
section
variable {prog : Program} {w : World} {A : Around} {E : Value → Shared → Prop} {s : Shared}
theorem call_enumT {l : Addr} {items : Array Value} {Q : Value → Shared → Prop} (hL : s.heap.IsTuple l items)
    (h : ∀ h', IsEnum h' (s.heap.objs.size + 1) s.heap.objs.size 0 .none → h'.IsTupleIter s.heap.objs.size l 0 → (∀ b o, s.heap.get? b = some o → h'.get? b = some o) → Q (.ref (s.heap.objs.size + 1)) { s with heap := h' }) :
    wpAny (model prog w) A (call (.type "enumerate") [.ref l]) Q E s := by
  obtain ⟨⟨c, dct, dt, sl⟩, hl, hc, n, hd⟩ := hL
  obtain rfl : c = .type "tuple" := hc
  obtain rfl : dt = .seq items n := hd
  have hz : (s.heap.push { cls := .type "tuple_iterator", data := .fields #[.ref l, .int 0 0] }).objs.size = s.heap.objs.size + 1 := Heap.size_push ..
  have he := Heap.get?_push_size (s.heap.push { cls := .type "tuple_iterator", data := .fields #[.ref l, .int 0 0] })
    (o := { cls := .type "enumerate", data := .fields #[.none, .bool false, .ref s.heap.objs.size, rawInt 0, .none, .none] }) rfl
  refine callType_new F.called_enumerate (by decide) (F.typeCall_enumerate_1 _) (F.newCall_enumerate_1 _) (fun obj => F.args_object_init_2 obj _) F.entry_enumerate_new (meets_enumT l items n dct sl) ⟨hl, ?_⟩
  rw [hz] at he ⊢
  exact ⟨⟨_, he, rfl⟩, h _ he ⟨_, Heap.get?_push_of_some _ (Heap.get?_push_size _ rfl), rfl, rfl⟩ fun b o x => Heap.get?_push_of_some _ (Heap.get?_push_of_some _ x)⟩
end
/-- the tuple at a, each item in a new pair -/
def IteT (K : PySem.W.Frag) (a : Addr) : It where
  go := fun i H => ∃ (xs : List V) (x : V), SqT K H a xs ∧ xs[i]? = some x
  yld := fun i H v H' => ∃ T x, v = .ref T ∧ H T = none ∧ H' = upd H T (.tup [.int (i : Nat), x]) ∧ ∀ xs, SqT K H a xs → xs[i]? = some x
  stop := fun i H => ∃ xs : List V, SqT K H a xs ∧ xs.length ≤ i
theorem turn_enumT {P : Program} {w : World} {K : PySem.W.Frag} {elts : List Expr} {kk : Nat} {tpos : Pos} (a e it : Addr) :
    Turn P w K (.Tuple elts kk tpos) (IteT K a) [e, it] e (fun i h => (∃ old, IsEnum h e it ((i : Nat) : Int) old) ∧ h.IsTupleIter it a i ∧ e ≠ it) where
  mem := List.mem_cons_self
  obj := fun i h st b hb => by
    obtain ⟨⟨old, he⟩, ⟨o, ho, hc, hd⟩, _⟩ := st
    rcases List.mem_cons.mp hb with z | z
    · subst z
      exact ⟨_, he, fun v q => nomatch q⟩
    · obtain rfl := List.mem_singleton.mp z
      exact ⟨o, ho, fun v q => by rw [hd] at q; cases q⟩
  keep := fun i h h' st k => by
    obtain ⟨⟨old, he⟩, hi, hne⟩ := st
    exact ⟨⟨old, k e (by simp) _ he⟩, hi.at fun o q => k it (by simp) o q, hne⟩
  item := by
    intro X hP hw hK hc i pins s σ H E I hf st hg
    subst hP hw hK
    obtain ⟨⟨old, he⟩, hit, hne⟩ := st
    obtain ⟨xs, x, hq, hx⟩ := hg
    obtain ⟨its, rv, p, hz⟩ := I.tuple hq
    obtain ⟨u, hu, ru⟩ := rv.get hx
    have hil : i < its.toArray.size := by
      rw [List.size_toArray]
      exact (List.getElem?_eq_some_iff.mp hu).1
    have ael : a ≠ e := fun z => by
      obtain ⟨o, ho, hco, _⟩ := p
      rw [z, he] at ho
      cases ho
      simp at hco
    have ait : a ≠ it := fun z => by
      obtain ⟨o, ho, hco, _⟩ := p
      obtain ⟨o2, ho2, hc2, _⟩ := hit
      rw [z, ho2] at ho
      cases ho
      rw [hc2] at hco
      simp at hco
    have D := Draws.tuple (prog := X.prog) (w := X.w) (A := X.A.in1) (I.ok.hd hc) it a ait its.toArray
    have hel : e < s.heap.objs.size := Heap.lt_size he
    have hitl : it < s.heap.objs.size := by
      obtain ⟨_, q, _⟩ := hit
      exact Heap.lt_size q
    refine wpAny_pyNext_enum_itemD D he ⟨hit, p⟩ hil hne (fun z => ?_) fun x' h' tk hx' ho hst' hT hsz hk => ?_
    · rcases List.mem_cons.mp z with z | z
      · exact hne z
      · exact ael (List.mem_singleton.mp z).symm
    have ex : x' = u := by
      have q : its.toArray[i]? = some x' := hx'
      have q2 : its.toArray[i]? = some u := by simpa using hu
      exact Option.some.inj (q.symm.trans q2)
    subst ex
    refine ⟨_, rfl, wpAny_letOwnedTupleGo_enum (s := { s with heap := h', toks := tk + 1 }) ho fun h'' he' sb => ?_⟩
    have hT2 : h''.get? s.heap.objs.size = some { cls := .type "tuple", data := .seq #[.int i tk, x'] } := (sb.2 _ (Nat.ne_of_gt hel)).trans hT
    have new : ObjOk X.prog X.w (upd H s.heap.objs.size (.tup [.int (i : Nat), x])) h'' s.heap.objs.size (.tup [.int (i : Nat), x]) :=
      ⟨(by decide : 2 ≤ sizeLine), [.int i tk, x'], .cons ⟨_, rfl⟩ (.cons ru .nil), ⟨_, hT2, rfl, _, rfl⟩⟩
    have I1 : Inv X pins σ (upd H s.heap.objs.size (.tup [.int (i : Nat), x])) { s with heap := h'', toks := tk + 1 } := by
      refine I.turnedNew (ch := [e, it]) (fun b ob hb q => ?_) hf (Nat.le_refl _) new
      have n1 : b ≠ e := fun z => hb (by simp [z])
      have n2 : b ≠ it := fun z => hb (by simp [z])
      exact (sb.2 b n1).trans (hk b ob n1 n2 q)
    refine ⟨.ref s.heap.objs.size, _, I1, rfl, ⟨_, x, rfl, I.hok.fresh (Nat.le_refl _), rfl, fun ys hy => ?_⟩, ⟨⟨x', ?_⟩, hst'.1.at fun o q => (sb.2 it (Ne.symm hne)).trans q, hne⟩, fun b hb => ?_⟩
    · rw [I.tuple_inj hy hq]
      exact hx
    · have e1 : ((i + 1 : Nat) : Int) = (i : Int) + 1 := by omega
      rw [e1]
      exact he'
    · have hb' : b < s.heap.objs.size := by
        rcases List.mem_cons.mp hb with z | z
        · rw [z]
          exact hel
        · rw [List.mem_singleton.mp z]
          exact hitl
      rw [upd_ne (Nat.ne_of_lt hb')]
      exact (hf b hb).1
  done := by
    intro X hP hw hK hc i pins s σ H E I hf st hg
    subst hP hw hK
    obtain ⟨⟨old, he⟩, hit, hne⟩ := st
    obtain ⟨xs, hq, hx⟩ := hg
    obtain ⟨its, rv, p, hz⟩ := I.tuple hq
    obtain ⟨f0, f1, f2, f3, f4, f5⟩ := hf it (by simp)
    have hl := rv.length
    have ait : a ≠ it := fun z => by
      obtain ⟨o, ho, hco, _⟩ := p
      obtain ⟨o2, ho2, hc2, _⟩ := hit
      rw [z, ho2] at ho
      cases ho
      rw [hc2] at hco
      simp at hco
    have hT : s.TypeIs (.ref e) "enumerate" := ⟨_, he, rfl⟩
    unfold pyNext
    refine wpAny_bind (wpAny_attempt (wpAny_callSpecial?_slot (name := Str.ofString "__next__") hT F.slot_enumerate_next (wpAny_call_entry F.slot_enumerate_next hT F.entry_enumerate_next ?_ (F.args_enumerate_next_1 _))))
    show wpAny _ _ (field (.ref e) 2 >>= _) _ _ _
    refine wpAny_bind (wpAny_field he rfl (x := .ref it) rfl ?_)
    refine wpAny_bind (wpAny_nextOf_tuple_end (I.ok.hd hc) hit p (by simp; omega) fun h' x he' hx' => ?_)
    obtain ⟨o, ho, hc'⟩ := hx'
    refine wpAny_bind (wpAny_isInstance (T := "StopIteration") (b := true) ⟨o, ho, hc'⟩ isSubtype_stop ?_)
    exact wpAny_pure ⟨rfl, I.turned (t' := s.toks) (fun b o hb q => he' b o hb q) f0 f1 f3 f4 f5⟩
  self := fun A i s Q E st h => by
    obtain ⟨⟨_, he⟩, _⟩ := st
    exact wpAny_pyIter_enum he h
theorem walk_enumT {K : PySem.W.Frag} {a : Addr} {xs : List V} : Walk (IteT K a) xs.length (fun H => SqT K H a xs) (YPair (fun i => some (.int (i : Nat))) (fun i => xs[i]?)) := by
  refine ⟨fun i _ hi q => ⟨xs, xs[i], q, by simp [hi]⟩, fun _ q => ⟨xs, q, Nat.le_refl _⟩, fun i H v H' _ q y => ?_⟩
  obtain ⟨T, x, h1, h2, h3, h4⟩ := y
  exact ⟨T, .int (i : Nat), x, h1, h2, h3, rfl, h4 xs q⟩
def iEnumS (K : PySem.W.Frag) (ta : TA) : TI := fun σ H R => ta σ H fun vs H1 => ∃ (a : Addr) (b : Bool) (xs : List V), vs = [.ref a] ∧ SqB b K H1 a xs ∧
  ∀ J, Walk J xs.length (fun H => SqB b K H a xs) (YPair (fun i => some (.int (i : Nat))) (fun i => xs[i]?)) → R J H1
/-- enumerate of a list or a tuple -/
theorem pi_enumA {X : Cx} {e : Expr} {ta : TA} {p pos tpos : Pos} {elts : List Expr} {kk : Nat} (hg : Gl X "enumerate") (hm : X.mg "enumerate" = none) (ha : PA X [e] ta)
    (hs : starEach [e] X.env = [(false, eval e X.env)] := by rfl) : PI X (.Tuple elts kk tpos) (.Call (.Name "enumerate" p) [e] [] pos) (iEnumS X.K ta) := by
  constructor
  intro pins s σ H R I h
  refine Call_ (ld_blt I hg hm boot_enumerate (PyProof.Rows.callWith_type1 (thn (ha.run pos pins s σ H _ I h) fun us s1 q1 => ?_) hs rfl))
  obtain ⟨vs, H1, I1, r1, a, b, xs, ex, hq, q⟩ := q1
  subst ex
  cases r1 with
  | cons r rr =>
    cases rr
    cases r
    have fresh : ∀ b, b ∈ [s1.heap.objs.size + 1, s1.heap.objs.size] → FpOk X pins H1 b := fun b hb => by
      have hle : s1.heap.objs.size ≤ b := by
        rcases List.mem_cons.mp hb with z | z
        · rw [z]
          exact Nat.le_succ _
        · rw [List.mem_singleton.mp z]
          exact Nat.le_refl _
      exact I1.fpOk hle (I1.hok.fresh hle)
    cases b with
    | true =>
      obtain ⟨its, rv, p', hz⟩ := I1.list (show SqL X.K H1 a xs from hq)
      refine call_enumerate_list p'.isList fun h' he hit hsz hk => wpAny_pyIter_enum he ?_
      exact ⟨s1.heap.objs.size + 1, [s1.heap.objs.size + 1, s1.heap.objs.size], _, _, H1, rfl, I1.kept (t' := s1.toks) hk, turn_enum a (s1.heap.objs.size + 1) s1.heap.objs.size, ⟨⟨.none, he⟩, hit, Nat.succ_ne_self _⟩, fresh, q _ walk_enum⟩
    | false =>
      obtain ⟨its, rv, p', hz⟩ := I1.tuple (show SqT X.K H1 a xs from hq)
      refine call_enumT (show s1.heap.IsTuple a its.toArray from p') fun h' he hit hk => wpAny_pyIter_enum he ?_
      exact ⟨s1.heap.objs.size + 1, [s1.heap.objs.size + 1, s1.heap.objs.size], _, _, H1, rfl, I1.kept (t' := s1.toks) hk, turn_enumT a (s1.heap.objs.size + 1) s1.heap.objs.size, ⟨⟨.none, he⟩, hit, Nat.succ_ne_self _⟩, fresh, q _ walk_enumT⟩
end EV

/-! The law's pen: what stays of the heap when it draws; lists of whole numbers; equal data. -/
namespace EV
open PySem PySem.Spec PyProof.Rows L2
open He (ga)

/-! ### what stays but the pens -/
def isPen : HO → Bool
  | .dK ((.inr x, _) :: _) => decide (x = "cells")
  | _ => false
/-- all that was tracked is as it was, but the pens -/
def Keep (H H' : Hp) : Prop := ∀ b o, isPen o = false → H b = some o → H' b = some o
theorem Keep.refl (H : Hp) : Keep H H := fun _ _ _ h => h
theorem Keep.trans {H H1 H2 : Hp} (a : Keep H H1) (b : Keep H1 H2) : Keep H H2 := fun c o n h => b c o n (a c o n h)
theorem Keep.of {H H' : Hp} (s : Same H H') : Keep H H' := fun b o _ h => s b o h
theorem Keep.rd {H H' : Hp} {a : Addr} {u : HO} (s : Keep H H') (n : isPen u = false) (h : Rd H a u) : Rd H' a u := by
  rcases h with h | ⟨o, h⟩
  · exact .inl (s a _ n h)
  · exact .inr ⟨o, s a _ rfl h⟩
theorem Keep.sql {K : PySem.W.Frag} {H H' : Hp} {a : Addr} {xs : List V} (s : Keep H H') (h : SqL K H a xs) : SqL K H' a xs := by
  rcases h with h | h
  · exact .inl (Keep.rd s rfl h)
  · exact .inr h
theorem Keep.sqt {K : PySem.W.Frag} {H H' : Hp} {a : Addr} {xs : List V} (s : Keep H H') (h : SqT K H a xs) : SqT K H' a xs := by
  rcases h with h | h
  · exact .inl (Keep.rd s rfl h)
  · exact .inr h
theorem Keep.sqb {b : Bool} {K : PySem.W.Frag} {H H' : Hp} {a : Addr} {xs : List V} (s : Keep H H') (h : SqB b K H a xs) : SqB b K H' a xs := by
  cases b
  · exact Keep.sqt s h
  · exact Keep.sql s h
/-- the pen's dict -/
abbrev penO (c : V) (a l : V) : HO := .dK [(.inr "cells", c), (.inr "at", a), (.inr "left", l)]
theorem none_of {H : Hp} {a b : Addr} {o : HO} (h : upd H a o b = none) : H b = none := by
  by_cases e : b = a
  · rw [e, upd_same] at h
    cases h
  · rw [upd_ne e] at h
    exact h
/-- a pen at p, its cells at c: at most n draws have been made -/
structure Pen (H : Hp) (p c : Addr) (n : Nat) : Prop where
  ex : ∃ (cells : List Int) (at_ left : Int), H p = some (penO (.ref c) (.int at_) (.int left)) ∧
    H c = some (.lst (cells.map V.int)) ∧ 0 ≤ at_ ∧ at_ ≤ n ∧ cells.length ≤ 63
section
variable {H H' : Hp} {p c l : Addr} {n m : Nat}
theorem Pen.mono (h : Pen H p c n) (l : n ≤ m) : Pen H p c m := by
  obtain ⟨cells, a, left, h1, h2, h3, h4, h5⟩ := h.ex
  exact ⟨cells, a, left, h1, h2, h3, by omega, h5⟩
theorem Pen.same (h : Pen H p c n) (s : Same H H') : Pen H' p c n := by
  obtain ⟨cells, a, left, h1, h2, h3, h4, h5⟩ := h.ex
  exact ⟨cells, a, left, s _ _ h1, s _ _ h2, h3, h4, h5⟩
theorem Pen.ne (h : Pen H p c n) (hl : H l = none) : l ≠ p ∧ l ≠ c := by
  obtain ⟨cells, a, left, h1, h2, h3, h4, h5⟩ := h.ex
  exact ⟨(ne_of_none h1 hl).symm, (ne_of_none h2 hl).symm⟩
/-- an object that is not the pen's is laid or changed -/
theorem Pen.put {o : HO} (h : Pen H p c n) (hl : l ≠ p ∧ l ≠ c) : Pen (upd H l o) p c n := by
  obtain ⟨cells, a, left, h1, h2, h3, h4, h5⟩ := h.ex
  exact ⟨cells, a, left, by rw [upd_ne hl.1.symm]; exact h1, by rw [upd_ne hl.2.symm]; exact h2, h3, h4, h5⟩
/-- an object that is not tracked, or one by its new state -/
theorem Keep.new {o : HO} (h : H l = none) : Keep H (upd H l o) := .of (Same.new h)
theorem Keep.put {o : HO} (s : Keep H H') (h : H l = none) : Keep H (upd H' l o) := fun b u n e => by
  rw [upd_ne (ne_of_none e h)]
  exact s b u n e
end
section
variable {H : Hp} {p : Addr} {c a l v : V}
theorem pen_cells (h : H p = some (penO c a l)) : DGet H p (.str "cells") (some c) := DGet.k (k := .inr "cells") h
theorem pen_at (h : H p = some (penO c a l)) : DGet H p (.str "at") (some a) := DGet.k (k := .inr "at") h
theorem pen_left (h : H p = some (penO c a l)) : DGet H p (.str "left") (some l) := DGet.k (k := .inr "left") h
theorem put_at (h : H p = some (penO c a l)) : DPut H p (.str "at") v (upd H p (penO c v l)) := DPut.k (k := .inr "at") h (by show 3 < sizeLine; decide)
theorem put_left (h : H p = some (penO c a l)) : DPut H p (.str "left") v (upd H p (penO c a v)) := DPut.k (k := .inr "left") h (by show 3 < sizeLine; decide)
/-- the pen is written anew -/
theorem Keep.pen {u : HO} (h : H p = some (penO c a l)) (hu : isPen u = true) : Keep H (upd H p u) := fun b o n e => by
  have q : b ≠ p := fun z => by
    rw [z, h] at e
    cases e
    cases n
  rw [upd_ne q]
  exact e
end
/-! ### the objects that a text holds -/
/-- these objects, at addresses that are not alike -/
structure Facts (l : List (Addr × HO)) (H : Hp) : Prop where
  at_ : ∀ x ∈ l, H x.1 = some x.2
  nd : (l.map Prod.fst).Nodup
namespace Facts
variable {l : List (Addr × HO)} {H H' : Hp} {p a : Addr} {o o' : HO}
theorem nil : Facts [] H := ⟨by simp, by simp⟩
theorem get (F : Facts l H) (i : Nat) (e : l[i]? = some (a, o)) : H a = some o := F.at_ (a, o) (List.mem_of_getElem? e)
theorem same (F : Facts l H) (s : Same H H') : Facts l H' := ⟨fun x hx => s _ _ (F.at_ x hx), F.nd⟩
theorem keep (F : Facts l H) (s : Keep H H') (n : l.all (fun x => !isPen x.2) = true) : Facts l H' := ⟨fun x hx => by
  refine s _ _ ?_ (F.at_ x hx)
  have := List.all_eq_true.mp n x hx
  simpa using this, F.nd⟩
theorem free (F : Facts l H) (hp : H p = none) : p ∉ l.map Prod.fst := fun m => by
  obtain ⟨x, hx, e⟩ := List.mem_map.mp m
  have := F.at_ x hx
  rw [e, hp] at this
  cases this
/-- one more, that a promise has told -/
theorem more (F : Facts l H) (F' : Facts l H') (hp : H p = none) (e : H' p = some o) : Facts ((p, o) :: l) H' :=
  ⟨fun x hx => by
    rcases List.mem_cons.mp hx with z | z
    · rw [z]
      exact e
    · exact F'.at_ x z, List.nodup_cons.mpr ⟨F.free hp, F.nd⟩⟩
theorem cons (F : Facts l H) (s : Same H H') (hp : H p = none) (e : H' p = some o) : Facts ((p, o) :: l) H' := F.more (F.same s) hp e
/-- one more, laid now -/
theorem new (F : Facts l H) (hp : H p = none) : Facts ((p, o) :: l) (upd H p o) := F.cons (Same.new hp) hp upd_same
/-- one of them is changed -/
theorem set (F : Facts l H) (i : Nat) (e : l[i]? = some (a, o)) : Facts (l.set i (a, o')) (upd H a o') := by
  have hi := (List.getElem?_eq_some_iff.mp e).1
  have ei := (List.getElem?_eq_some_iff.mp e).2
  refine ⟨fun x hx => ?_, ?_⟩
  · obtain ⟨j, hj, ej⟩ := List.mem_iff_getElem.mp hx
    rw [List.length_set] at hj
    by_cases h : i = j
    · subst h
      rw [List.getElem_set_self] at ej
      rw [← ej]
      exact upd_same
    · rw [List.getElem_set_ne h] at ej
      have hne : x.1 ≠ a := fun z => h (nd_ix F.nd (i := i) (j := j) (x := a) (by rw [List.getElem?_map, e]; rfl) (by rw [List.getElem?_map, List.getElem?_eq_getElem hj, ej, ← z]; rfl))
      rw [upd_ne hne]
      exact F.at_ x (by rw [← ej]; exact List.getElem_mem hj)
  · have q : (l.set i (a, o')).map Prod.fst = l.map Prod.fst := by
      apply List.ext_getElem (by simp)
      intro j h1 h2
      by_cases h : i = j
      · subst h
        simp [ei]
      · simp [List.getElem_set_ne h]
    rw [q]
    exact F.nd
/-- only some of them are asked -/
theorem sub {l' : List (Addr × HO)} (F : Facts l H) (h : l'.Sublist l) : Facts l' H := ⟨fun x hx => F.at_ x (h.subset hx), (h.map _).nodup F.nd⟩
end Facts
/-! ### equal data -/
theorem dp_ints {K : PySem.W.Frag} {H : Hp} : ∀ ns : List Int, DpAll K H (ns.map V.int) (ns.map PyData.int)
  | [] => .nil
  | n :: r => .cons (.int n) (dp_ints r)
theorem dp_lst {K : PySem.W.Frag} {H : Hp} {a : Addr} {ns : List Int} (h : SqL K H a (ns.map V.int)) : Dp K H (.ref a) (.list (ns.map PyData.int)) := .lst h (dp_ints ns)
theorem dp_tup {K : PySem.W.Frag} {H : Hp} {a : Addr} {ns : List Int} (h : SqT K H a (ns.map V.int)) : Dp K H (.ref a) (.tuple (ns.map PyData.int)) := .tup h (dp_ints ns)
theorem lay_ints : ∀ ns : List Int, PyData.canLayAll0 (ns.map PyData.int) = true
  | [] => by simp [PyData.canLayAll0]
  | n :: r => by
    rw [List.map_cons, PyData.canLayAll0, PyData.canLay0, lay_ints r]
    rfl
theorem depth_ints : ∀ ns : List Int, PyData.depthAll (ns.map PyData.int) ≤ 1
  | [] => by simp [PyData.depthAll]
  | n :: r => by
    have := depth_ints r
    simp only [List.map_cons, PyData.depthAll, PyData.depth]
    omega
theorem shaped_ints (ns : List Int) : SeqAt.shaped (.list (ns.map PyData.int)) = true := by
  have := depth_ints ns
  unfold SeqAt.shaped
  rw [PyData.canLay0, lay_ints, PyData.depth, Bool.true_and]
  exact decide_eq_true (by omega)
theorem eqv_same {d : PyData} (h : SeqAt.shaped d = true) : PyData.eqv d d = true := SeqAt.eqv_refl d (SeqAt.canLay_of_shaped h)
theorem dp_rowL {K : PySem.W.Frag} {H : Hp} {a : Addr} {f : List Nat} (h : SqL K H a (f.map vI)) : Dp K H (.ref a) (.list ((f.map Int.ofNat).map PyData.int)) := by
  rw [vI_map] at h
  exact dp_lst h
/-- x != y of equal data -/
theorem ne_data {K : PySem.W.Frag} {x y : V} {H : Hp} {Q : VK} {d : PyData} (hx : Dp K H x d) (hy : Dp K H y d) (hs : SeqAt.shaped d = true) (q : Q (.bl false) H) : rNeD K x y H Q :=
  ⟨d, d, hx, hy, hs, hs, by rw [eqv_same hs]; exact q⟩
theorem eq_data {K : PySem.W.Frag} {x y : V} {H : Hp} {Q : VK} {d : PyData} (hx : Dp K H x d) (hy : Dp K H y d) (hs : SeqAt.shaped d = true) (q : Q (.bl true) H) : rEqD K x y H Q :=
  ⟨d, d, hx, hy, hs, hs, by rw [eqv_same hs]; exact q⟩
theorem ne_ints {K : PySem.W.Frag} {a b : Addr} {H : Hp} {Q : VK} {ns : List Int} (hx : SqL K H a (ns.map V.int)) (hy : SqL K H b (ns.map V.int)) (q : Q (.bl false) H) : rNeD K (.ref a) (.ref b) H Q :=
  ne_data (dp_lst hx) (dp_lst hy) (shaped_ints ns) q
end EV

/-! Rearrangements as lists of naturals: plain mathematics. -/
namespace EV
/-- the naturals below the length, each once -/
structure IsRow (f : List Nat) : Prop where
  nd : f.Nodup
  lt : ∀ x ∈ f, x < f.length
def joinL (f g : List Nat) : List Nat := g.map fun j => f.getD j 0
def doneL {α : Type} (d : α) (f : List Nat) (t : List α) : List α := f.map fun j => t.getD j d
def invL (f : List Nat) : List Nat := (List.range f.length).map fun j => f.idxOf j
theorem joinL_len (f g : List Nat) : (joinL f g).length = g.length := List.length_map _
theorem doneL_len {α : Type} (d : α) (f : List Nat) (t : List α) : (doneL d f t).length = f.length := List.length_map _
theorem invL_len (f : List Nat) : (invL f).length = f.length := by simp [invL]
theorem joinL_get (f g : List Nat) {j : Nat} (h : j < g.length) : (joinL f g).getD j 0 = f.getD (g.getD j 0) 0 := by
  simp [joinL, List.getD_eq_getElem?_getD, h]
theorem doneL_get {α : Type} (d : α) (f : List Nat) (t : List α) {j : Nat} (h : j < f.length) : (doneL d f t).getD j d = t.getD (f.getD j 0) d := by
  simp [doneL, List.getD_eq_getElem?_getD, h]
theorem getD_lt {f : List Nat} (r : IsRow f) {j : Nat} (h : j < f.length) : f.getD j 0 < f.length := by
  have e : f.getD j 0 = f[j] := by simp [List.getD_eq_getElem?_getD, h]
  rw [e]
  exact r.lt _ (List.getElem_mem h)
/-- a list of naturals below n without doubles that is as long as n holds each -/
theorem full_mem {f : List Nat} (r : IsRow f) {x : Nat} (h : x < f.length) : x ∈ f := by
  by_cases m : x ∈ f
  · exact m
  · have l := List.Nodup.length_le_of_subset (l₁ := x :: f) (l₂ := List.range f.length) (List.nodup_cons.mpr ⟨m, r.nd⟩) fun y hy => by
      rcases List.mem_cons.mp hy with e | e
      · rw [e]
        exact List.mem_range.mpr h
      · exact List.mem_range.mpr (r.lt y e)
    rw [List.length_cons, List.length_range] at l
    omega
theorem IsRow.perm {f : List Nat} (r : IsRow f) : f.Perm (List.range f.length) :=
  (List.perm_ext_iff_of_nodup r.nd List.nodup_range).mpr fun x => ⟨fun h => List.mem_range.mpr (r.lt x h), fun h => full_mem r (List.mem_range.mp h)⟩
theorem IsRow.of_perm {f : List Nat} {n : Nat} (h : f.Perm (List.range n)) : IsRow f := by
  have hl : f.length = n := by simpa using h.length_eq
  refine ⟨h.nodup_iff.mpr List.nodup_range, fun x hx => ?_⟩
  have := List.mem_range.mp (h.mem_iff.mp hx)
  omega
theorem isRow_range (n : Nat) : IsRow (List.range n) := .of_perm (.refl _)
theorem idx_lt {f : List Nat} (r : IsRow f) {x : Nat} (h : x < f.length) : f.idxOf x < f.length := List.idxOf_lt_length_iff.mpr (full_mem r h)
theorem getD_idx {f : List Nat} (r : IsRow f) {x : Nat} (h : x < f.length) : f.getD (f.idxOf x) 0 = x := by
  have hl := idx_lt r h
  simp [List.getD_eq_getElem?_getD, hl]
theorem idx_getD {f : List Nat} (r : IsRow f) {j : Nat} (h : j < f.length) : f.idxOf (f.getD j 0) = j := by
  have e : f.getD j 0 = f[j] := by simp [List.getD_eq_getElem?_getD, h]
  rw [e]
  exact List.Nodup.idxOf_getElem r.nd j h
theorem ext_getD {f g : List Nat} (h : f.length = g.length) (e : ∀ j, j < f.length → f.getD j 0 = g.getD j 0) : f = g := by
  apply List.ext_getElem h
  intro j h1 h2
  have := e j h1
  simpa [List.getD_eq_getElem?_getD, h1, h2] using this
theorem ext_getDA {α : Type} (d : α) {f g : List α} (h : f.length = g.length) (e : ∀ j, j < f.length → f.getD j d = g.getD j d) : f = g := by
  apply List.ext_getElem h
  intro j h1 h2
  have := e j h1
  simpa [List.getD_eq_getElem?_getD, h1, h2] using this
theorem getD_range {n j : Nat} (h : j < n) : (List.range n).getD j 0 = j := by simp [List.getD_eq_getElem?_getD, h]
theorem invL_get {f : List Nat} {j : Nat} (h : j < f.length) : (invL f).getD j 0 = f.idxOf j := by
  simp [invL, List.getD_eq_getElem?_getD, h]
theorem isRow_inj {f : List Nat} (h1 : ∀ x ∈ f, x < f.length) (h2 : ∀ i j, i < f.length → j < f.length → f.getD i 0 = f.getD j 0 → i = j) : IsRow f := by
  refine ⟨?_, h1⟩
  rw [List.nodup_iff_pairwise_ne] <;> try skip
  rw [List.pairwise_iff_getElem]
  intro i j hi hj hij e
  have := h2 i j hi hj (by simpa [List.getD_eq_getElem?_getD, hi, hj] using e)
  omega
theorem getD_inj {f : List Nat} (r : IsRow f) {i j : Nat} (hi : i < f.length) (hj : j < f.length) (e : f.getD i 0 = f.getD j 0) : i = j := by
  rw [← idx_getD r hi, e, idx_getD r hj]
theorem isRow_join {f g : List Nat} (rf : IsRow f) (rg : IsRow g) (h : f.length = g.length) : IsRow (joinL f g) := by
  refine isRow_inj (fun x hx => ?_) fun i j hi hj e => ?_
  · obtain ⟨y, hy, rfl⟩ := List.mem_map.mp hx
    rw [joinL_len, ← h]
    exact getD_lt rf (by rw [h]; exact rg.lt y hy)
  · rw [joinL_len] at hi hj
    rw [joinL_get f g hi, joinL_get f g hj] at e
    exact getD_inj rg hi hj (getD_inj rf (by rw [h]; exact getD_lt rg hi) (by rw [h]; exact getD_lt rg hj) e)
theorem isRow_inv {f : List Nat} (r : IsRow f) : IsRow (invL f) := by
  refine isRow_inj (fun x hx => ?_) fun i j hi hj e => ?_
  · obtain ⟨y, hy, rfl⟩ := List.mem_map.mp hx
    rw [invL_len]
    exact idx_lt r (List.mem_range.mp hy)
  · rw [invL_len] at hi hj
    rw [invL_get hi, invL_get hj] at e
    rw [← getD_idx r hi, e, getD_idx r hj]
theorem join_inv {f : List Nat} (r : IsRow f) : joinL f (invL f) = List.range f.length := by
  refine ext_getD (by rw [joinL_len, invL_len, List.length_range]) fun j hj => ?_
  rw [joinL_len, invL_len] at hj
  rw [joinL_get f _ (by rw [invL_len]; exact hj), invL_get hj, getD_idx r hj, getD_range hj]
theorem inv_join {f : List Nat} (r : IsRow f) : joinL (invL f) f = List.range f.length := by
  refine ext_getD (by rw [joinL_len, List.length_range]) fun j hj => ?_
  rw [joinL_len] at hj
  rw [joinL_get _ f hj, invL_get (getD_lt r hj), idx_getD r hj, getD_range hj]
theorem done_join {α : Type} (d : α) {f g : List Nat} (rg : IsRow g) (h : f.length = g.length) (t : List α) : doneL d (joinL f g) t = doneL d g (doneL d f t) := by
  refine ext_getDA d (by rw [doneL_len, doneL_len, joinL_len]) fun j hj => ?_
  rw [doneL_len, joinL_len] at hj
  rw [doneL_get d _ t (by rw [joinL_len]; exact hj), joinL_get f g hj, doneL_get d g _ hj, doneL_get d f t (by rw [h]; exact getD_lt rg hj)]
theorem done_range {α : Type} (d : α) (t : List α) : doneL d (List.range t.length) t = t := by
  refine ext_getDA d (by rw [doneL_len, List.length_range]) fun j hj => ?_
  rw [doneL_len, List.length_range] at hj
  rw [doneL_get d _ t (by rw [List.length_range]; exact hj), getD_range hj]
theorem done_back {α : Type} (d : α) {f : List Nat} (r : IsRow f) {t : List α} (h : t.length = f.length) : doneL d (invL f) (doneL d f t) = t := by
  rw [← done_join d (isRow_inv r) (invL_len f).symm, join_inv r, ← h, done_range]
theorem done_on {α : Type} (d : α) {f : List Nat} (r : IsRow f) {t : List α} (h : t.length = f.length) : doneL d f (doneL d (invL f) t) = t := by
  rw [← done_join d r (invL_len f), inv_join r, ← h, done_range]
theorem isRow_snoc {f : List Nat} (r : IsRow f) : IsRow (f ++ [f.length]) := by
  refine ⟨?_, fun x hx => ?_⟩
  · rw [List.nodup_append]
    refine ⟨r.nd, by simp, fun a ha b hb => ?_⟩
    have e : b = f.length := by simpa using hb
    have := r.lt a ha
    omega
  · rw [List.length_append]
    rcases List.mem_append.mp hx with h | h
    · have := r.lt x h
      simp
      omega
    · have e : x = f.length := by simpa using h
      simp [e]
theorem done_snoc {α : Type} (d y : α) {f : List Nat} (r : IsRow f) {t : List α} (h : t.length = f.length) : doneL d (f ++ [f.length]) (t ++ [y]) = doneL d f t ++ [y] := by
  unfold doneL
  rw [List.map_append]
  congr 1
  · apply List.map_congr_left
    intro x hx
    have := r.lt x hx
    have hx' : x < t.length := by omega
    simp [List.getD_eq_getElem?_getD, List.getElem?_append, hx']
  · simp [List.getD_eq_getElem?_getD, ← h]
theorem cons_erase {α : Type} {l : List α} {i : Nat} (h : i < l.length) : (([l[i]] : List α) ++ l.eraseIdx i).Perm l := by
  induction l generalizing i with
  | nil => simp at h
  | cons a r ih =>
    cases i with
    | zero => simp
    | succ i =>
      have h' : i < r.length := by simpa using h
      simp only [List.getElem_cons_succ, List.eraseIdx_cons_succ]
      exact (List.Perm.swap a r[i] _).trans ((ih h').cons a)
theorem getElem?_vI {f : List Nat} {j : Nat} (h : j < f.length) : (f.map vI)[j]? = some (vI (f.getD j 0)) := by
  rw [List.getElem?_map, List.getD_eq_getElem?_getD, List.getElem?_eq_getElem h]
  rfl
theorem getD_set_ne {g : List Nat} {n k x : Nat} (h : k ≠ n) : (g.set n x).getD k 0 = g.getD k 0 := by
  simp [List.getD_eq_getElem?_getD, List.getElem?_set, Ne.symm h]
theorem doneL_at {α : Type} {d : α} {f : List Nat} {t : List α} {i j : Nat} (h : f[i]? = some j) (hj : j < t.length) : (doneL d f t)[i]? = some t[j] := by
  simp [doneL, h, List.getD_eq_getElem?_getD, hj]
/-! ### rows in the heap -/
open PySem PySem.Spec PyProof.Rows L2
/-- [a[x] for x in row] -/
theorem lc_index {J : It} {G : Hp → Prop} {K : PySem.W.Frag} {f : List Nat} (wk : Walk J (f.map vI).length G (YAt (f.map vI))) {ia k : Nat} {vs : List Nat} {σ : L2.St} {H1 : Hp} {D : Addr} {Qd : Hp → Prop} {a : Addr} {b : Bool} {xs : List V}
    (hD : H1 D = none) (hG : ∀ H, Same H1 H → G H) (ha : SqB b K H1 a xs) (hlt : ∀ x ∈ f, x < xs.length) (hz : f.length ≤ 100000)
    (h1 : ∀ x, ((wipe σ vs).set k (some x))[ia]? = some (some (.ref a))) (h2 : ∀ x, ((wipe σ vs).set k (some x))[k]? = some (some x)) (h3 : ∀ x, wipe ((wipe σ vs).set k (some x)) vs = wipe σ vs)
    (hd : ∀ H, Same H1 H → H D = some (.lst (doneL .non f xs)) → Qd H) :
    ∃ W : Nat → Nat → Hp → Prop, (∃ m, W 0 m (upd H1 D (.lst []))) ∧ ∀ i m H, W i m H →
      (J.stop i H ∧ Qd H) ∨ (J.go i H ∧ ∃ Nx : Hp → Prop, (∀ H', Nx H' → ∃ m', m' < m ∧ W (i + 1) m' H') ∧ ∀ x H', J.yld i H x H' → gName k x (wipe σ vs) H' fun σ2 H2 => wipe σ2 vs = wipe σ vs ∧ tYes σ2 H2 fun b H3 =>
        if b = true then tOp (rIx K) (tVar ia) (tVar k) σ2 H3 fun y H4 => ∃ acc, H4 D = some (.lst acc) ∧ acc.length < sizeLine ∧ Nx (upd H4 D (.lst (acc ++ [y]))) else Nx H3) := by
  refine lc_map wk (doneL .non f xs) (by rw [doneL_len, List.length_map]) hD hG ?_ hd
  rintro i x H' _ hi s3 pv ⟨rfl, ex⟩
  rw [List.length_map] at hi
  rw [List.getElem?_map] at ex
  obtain ⟨j, hj, rfl⟩ := Option.map_eq_some_iff.mp ex
  have jlt : j < xs.length := hlt j (List.mem_of_getElem? hj)
  refine ⟨h3 _, yes_if ⟨_, h1 _, _, h2 _, rix (Same.sqb s3 ha) rfl (List.getElem?_eq_getElem jlt) (pvM_turn hD (by rw [doneL_len]; omega) pv (.refl _) ?_)⟩⟩
  exact doneL_at hj jlt
/-- whole numbers only -/
def IntL (xs : List V) : Prop := ∃ ns : List Int, xs = ns.map V.int
theorem intL_map (ns : List Int) : IntL (ns.map V.int) := ⟨ns, rfl⟩
theorem intL_vI (f : List Nat) : IntL (f.map vI) := ⟨f.map Int.ofNat, vI_map f⟩
theorem IntL.mem {xs : List V} (h : IntL xs) {x : V} (m : x ∈ xs) : ∃ i, x = .int i := by
  obtain ⟨ns, rfl⟩ := h
  obtain ⟨i, _, e⟩ := List.mem_map.mp m
  exact ⟨i, e.symm⟩
theorem IntL.of {xs : List V} (h : ∀ x ∈ xs, ∃ i, x = .int i) : IntL xs := by
  refine ⟨xs.map fun x => match x with | .int i => i | _ => 0, ?_⟩
  rw [List.map_map]
  refine ((List.map_congr_left fun x hx => ?_).trans (List.map_id xs)).symm
  obtain ⟨i, rfl⟩ := h x hx
  rfl
theorem IntL.app {xs ys : List V} (h : IntL xs) (h2 : IntL ys) : IntL (xs ++ ys) := by
  obtain ⟨a, rfl⟩ := h
  obtain ⟨b, rfl⟩ := h2
  exact ⟨a ++ b, by simp⟩
theorem IntL.done {xs : List V} {f : List Nat} (h : IntL xs) (hlt : ∀ x ∈ f, x < xs.length) : IntL (doneL .non f xs) := .of fun x hx => by
  obtain ⟨j, hj, rfl⟩ := List.mem_map.mp hx
  rw [List.getD_eq_getElem?_getD, List.getElem?_eq_getElem (hlt j hj)]
  exact h.mem (List.getElem_mem _)
/-- x != y, x == y of equal lists of whole numbers -/
theorem ne_same {K : PySem.W.Frag} {a b : Addr} {H : Hp} {Q : VK} {xs ys : List V} (hx : SqL K H a xs) (hy : SqL K H b ys) (e : xs = ys) (hi : IntL xs) (q : Q (.bl false) H) : rNeD K (.ref a) (.ref b) H Q := by
  subst e
  obtain ⟨ns, rfl⟩ := hi
  exact ne_ints hx hy q
theorem ne_sameR {K : PySem.W.Frag} {a b : Addr} {H : Hp} {Q : VK} {xs ys : List V} (hx : SqL K H a xs) (hy : SqL K H b ys) (e : xs = ys) (hi : IntL ys) (q : Q (.bl false) H) : rNeD K (.ref a) (.ref b) H Q :=
  ne_same hx hy e (e ▸ hi) q
theorem eq_same {K : PySem.W.Frag} {a b : Addr} {H : Hp} {Q : VK} {xs ys : List V} (hx : SqL K H a xs) (hy : SqL K H b ys) (e : xs = ys) (hi : IntL xs) (q : Q (.bl true) H) : rEqD K (.ref a) (.ref b) H Q := by
  subst e
  obtain ⟨ns, rfl⟩ := hi
  exact eq_data (dp_lst hx) (dp_lst hy) (shaped_ints ns) q
theorem doneL_join {f g : List Nat} (h : ∀ x ∈ g, x < f.length) : doneL V.non g (f.map vI) = (joinL f g).map vI := by
  unfold doneL joinL
  rw [List.map_map]
  apply List.map_congr_left
  intro x hx
  show (f.map vI).getD x .non = vI (f.getD x 0)
  rw [List.getD_eq_getElem?_getD, getElem?_vI (h x hx)]
  rfl
end EV

namespace EV
open PySem PySem.Spec PyProof.Rows L2
open He (ga)
local macro_rules | `(tactic| walk_at "r1") => `(tactic| first | refine ⟨_, rfl, ?_⟩ | refine ⟨_, _, rfl, rfl, ?_⟩ | refine Or.inl ⟨_, rfl, ?_⟩ | refine ⟨_, _, rfl, Or.inl (by assumption), ?_⟩ | refine ⟨_, _, rfl, Or.inr (by assumption), ?_⟩ | refine ⟨_, _, rfl, Or.inl (SqL.of (by assumption)), ?_⟩ | refine ⟨_, _, rfl, SqB.or (by assumption), ?_⟩ | refine ⟨_, _, rfl, ?_⟩ | refine And.intro (Or.inl ⟨rfl, _, SqL.of (by assumption)⟩) ?_ | refine And.intro (rfl : scal _ _ = true) ?_ | refine And.intro (by assumption) ?_ | refine And.intro (mul_l (by omega) (by omega)) ?_ | refine And.intro (mul_r (by omega) (by omega)) ?_ | refine And.intro (by omega) ?_)
local macro_rules | `(tactic| walk_at "rp") => `(tactic| first | walk_at "r1" | refine ⟨_, _, rfl, pen_left (by assumption), ?_⟩ | refine ⟨_, _, rfl, pen_at (by assumption), ?_⟩ | refine ⟨_, _, rfl, pen_cells (by assumption), ?_⟩ | refine ⟨_, _, rfl, put_at (by assumption), ?_⟩ | refine ⟨_, _, rfl, put_left (by assumption), ?_⟩)
local macro_rules | `(tactic| walk_at "rd") => `(tactic| repeat walk_at "r1")
local macro_rules | `(tactic| walk_at "rdp") => `(tactic| repeat walk_at "rp")
def topS (i : Nat) : Stmt := PySem.Challenge.pw_everyorder_k01_rearrangements_done_and_t.main.body.getD i (.Pass ⟨0, 0, 0, 0⟩)
abbrev s_BadSize___init__ : Stmt := inClass (topS 2) 0
abbrev s_BadRow___init__ : Stmt := inClass (topS 3) 0
abbrev s_is_integer : Stmt := topS 5
theorem sc_is_integer : FnScope ["value"] ["value"] (defScope s_is_integer) := ⟨rfl, rfl, rfl, by decide +kernel, rfl, by decide +kernel, by decide +kernel⟩
abbrev s_need_row : Stmt := topS 8
theorem sc_need_row : FnScope ["row", "seen", "index", "part"] ["row"] (defScope s_need_row) := ⟨rfl, rfl, rfl, by decide +kernel, rfl, by decide +kernel, by decide +kernel⟩
abbrev s_nothing : Stmt := topS 9
theorem sc_nothing : FnScope ["size"] ["size"] (defScope s_nothing) := ⟨rfl, rfl, rfl, by decide +kernel, rfl, by decide +kernel, by decide +kernel⟩
abbrev s_joined : Stmt := topS 10
theorem sc_joined : FnScope ["first", "second", "part"] ["first", "second"] (defScope s_joined) := ⟨rfl, rfl, rfl, by decide +kernel, rfl, by decide +kernel, by decide +kernel⟩
abbrev s_undone : Stmt := topS 11
theorem sc_undone : FnScope ["row", "found", "at", "part"] ["row"] (defScope s_undone) := ⟨rfl, rfl, rfl, by decide +kernel, rfl, by decide +kernel, by decide +kernel⟩
abbrev s_done : Stmt := topS 12
theorem sc_done : FnScope ["row", "things", "part"] ["row", "things"] (defScope s_done) := ⟨rfl, rfl, rfl, by decide +kernel, rfl, by decide +kernel, by decide +kernel⟩
abbrev s__law_pen : Stmt := topS 14
theorem sc__law_pen : FnScope ["script"] ["script"] (defScope s__law_pen) := ⟨rfl, rfl, rfl, by decide +kernel, rfl, by decide +kernel, by decide +kernel⟩
abbrev s__law_draw : Stmt := topS 15
theorem sc__law_draw : FnScope ["pen", "many", "digit", "at", "cell", "mixed"] ["pen", "many"] (defScope s__law_draw) := ⟨rfl, rfl, rfl, by decide +kernel, rfl, by decide +kernel, by decide +kernel⟩
abbrev s__law_pick : Stmt := topS 16
theorem sc__law_pick : FnScope ["pen", "some"] ["pen", "some"] (defScope s__law_pick) := ⟨rfl, rfl, rfl, by decide +kernel, rfl, by decide +kernel, by decide +kernel⟩
abbrev s__law_shuffled : Stmt := topS 17
theorem sc__law_shuffled : FnScope ["pen", "some", "left", "found", "k"] ["pen", "some"] (defScope s__law_shuffled) := ⟨rfl, rfl, rfl, by decide +kernel, rfl, by decide +kernel, by decide +kernel⟩
abbrev s__law_row : Stmt := topS 18
theorem sc__law_row : FnScope ["pen", "size"] ["pen", "size"] (defScope s__law_row) := ⟨rfl, rfl, rfl, by decide +kernel, rfl, by decide +kernel, by decide +kernel⟩
abbrev s__law_after : Stmt := topS 19
theorem sc__law_after : FnScope ["row", "things", "part"] ["row", "things"] (defScope s__law_after) := ⟨rfl, rfl, rfl, by decide +kernel, rfl, by decide +kernel, by decide +kernel⟩
abbrev s_law : Stmt := topS 20
theorem sc_law : FnScope ["script", "pen", "lap", "size", "one", "other", "things", "first", "second", "kept", "told", "back", "k", "part"] ["script"] (defScope s_law) := ⟨rfl, rfl, rfl, by decide +kernel, rfl, by decide +kernel, by decide +kernel⟩
def dfn : List He.DefD := [⟨("is_integer", none), "is_integer", "is_integer", defArgs s_is_integer, defBody s_is_integer, defScope s_is_integer, [], []⟩,
  ⟨("need_row", none), "need_row", "need_row", defArgs s_need_row, defBody s_need_row, defScope s_need_row, [], []⟩,
  ⟨("nothing", none), "nothing", "nothing", defArgs s_nothing, defBody s_nothing, defScope s_nothing, [], []⟩,
  ⟨("joined", none), "joined", "joined", defArgs s_joined, defBody s_joined, defScope s_joined, [], []⟩,
  ⟨("undone", none), "undone", "undone", defArgs s_undone, defBody s_undone, defScope s_undone, [], []⟩,
  ⟨("done", none), "done", "done", defArgs s_done, defBody s_done, defScope s_done, [], []⟩,
  ⟨("_law_pen", none), "_law_pen", "_law_pen", defArgs s__law_pen, defBody s__law_pen, defScope s__law_pen, [], []⟩,
  ⟨("_law_draw", none), "_law_draw", "_law_draw", defArgs s__law_draw, defBody s__law_draw, defScope s__law_draw, [], []⟩,
  ⟨("_law_pick", none), "_law_pick", "_law_pick", defArgs s__law_pick, defBody s__law_pick, defScope s__law_pick, [], []⟩,
  ⟨("_law_shuffled", none), "_law_shuffled", "_law_shuffled", defArgs s__law_shuffled, defBody s__law_shuffled, defScope s__law_shuffled, [], []⟩,
  ⟨("_law_row", none), "_law_row", "_law_row", defArgs s__law_row, defBody s__law_row, defScope s__law_row, [], []⟩,
  ⟨("_law_after", none), "_law_after", "_law_after", defArgs s__law_after, defBody s__law_after, defScope s__law_after, [], []⟩,
  ⟨("law", none), "law", "law", defArgs s_law, defBody s_law, defScope s_law, [], []⟩]
def dfa : List He.Fa := [.glo "is_integer",
  .glo "need_row",
  .glo "nothing",
  .glo "joined",
  .glo "undone",
  .glo "done",
  .glo "_law_pen",
  .glo "_law_draw",
  .glo "_law_pick",
  .glo "_law_shuffled",
  .glo "_law_row",
  .glo "_law_after",
  .glo "law",
  .free "len",
  .free "list",
  .free "tuple",
  .free "int",
  .free "bool",
  .free "range",
  .free "enumerate",
  .free "isinstance",
  .free "ValueError",
  .int "MOST_SIZE" 1000]
/-- what the top has written -/
structure Tx (K : PySem.W.Frag) (mg : Str → Option Value) : Prop where
  d_is_integer : Stands K "is_integer" s_is_integer
  d_need_row : Stands K "need_row" s_need_row
  d_nothing : Stands K "nothing" s_nothing
  d_joined : Stands K "joined" s_joined
  d_undone : Stands K "undone" s_undone
  d_done : Stands K "done" s_done
  d__law_pen : Stands K "_law_pen" s__law_pen
  d__law_draw : Stands K "_law_draw" s__law_draw
  d__law_pick : Stands K "_law_pick" s__law_pick
  d__law_shuffled : Stands K "_law_shuffled" s__law_shuffled
  d__law_row : Stands K "_law_row" s__law_row
  d__law_after : Stands K "_law_after" s__law_after
  d_law : Stands K "law" s_law
  g_is_integer : mg "is_integer" = some (.ref (ga K "is_integer"))
  g_need_row : mg "need_row" = some (.ref (ga K "need_row"))
  g_nothing : mg "nothing" = some (.ref (ga K "nothing"))
  g_joined : mg "joined" = some (.ref (ga K "joined"))
  g_undone : mg "undone" = some (.ref (ga K "undone"))
  g_done : mg "done" = some (.ref (ga K "done"))
  g__law_pen : mg "_law_pen" = some (.ref (ga K "_law_pen"))
  g__law_draw : mg "_law_draw" = some (.ref (ga K "_law_draw"))
  g__law_pick : mg "_law_pick" = some (.ref (ga K "_law_pick"))
  g__law_shuffled : mg "_law_shuffled" = some (.ref (ga K "_law_shuffled"))
  g__law_row : mg "_law_row" = some (.ref (ga K "_law_row"))
  g__law_after : mg "_law_after" = some (.ref (ga K "_law_after"))
  g_law : mg "law" = some (.ref (ga K "law"))
  z_len : mg "len" = none
  z_list : mg "list" = none
  z_tuple : mg "tuple" = none
  z_int : mg "int" = none
  z_bool : mg "bool" = none
  z_range : mg "range" = none
  z_enumerate : mg "enumerate" = none
  z_isinstance : mg "isinstance" = none
  z_ValueError : mg "ValueError" = none
  i_MOST_SIZE : ∃ t, mg "MOST_SIZE" = some (.int 1000 t)
theorem tx_of {K : PySem.W.Frag} {h : Heap} {mg : Str → Option Value} (X : K.In h) (G : h.Ns mainGlobals mg) (c : He.SaysD dfa dfn K) : Tx K mg where
  d_is_integer := c.def_ 0 rfl
  d_need_row := c.def_ 1 rfl
  d_nothing := c.def_ 2 rfl
  d_joined := c.def_ 3 rfl
  d_undone := c.def_ 4 rfl
  d_done := c.def_ 5 rfl
  d__law_pen := c.def_ 6 rfl
  d__law_draw := c.def_ 7 rfl
  d__law_pick := c.def_ 8 rfl
  d__law_shuffled := c.def_ 9 rfl
  d__law_row := c.def_ 10 rfl
  d__law_after := c.def_ 11 rfl
  d_law := c.def_ 12 rfl
  g_is_integer := He.glo_ok X G (c.fact 0 (f := .glo "is_integer") rfl)
  g_need_row := He.glo_ok X G (c.fact 1 (f := .glo "need_row") rfl)
  g_nothing := He.glo_ok X G (c.fact 2 (f := .glo "nothing") rfl)
  g_joined := He.glo_ok X G (c.fact 3 (f := .glo "joined") rfl)
  g_undone := He.glo_ok X G (c.fact 4 (f := .glo "undone") rfl)
  g_done := He.glo_ok X G (c.fact 5 (f := .glo "done") rfl)
  g__law_pen := He.glo_ok X G (c.fact 6 (f := .glo "_law_pen") rfl)
  g__law_draw := He.glo_ok X G (c.fact 7 (f := .glo "_law_draw") rfl)
  g__law_pick := He.glo_ok X G (c.fact 8 (f := .glo "_law_pick") rfl)
  g__law_shuffled := He.glo_ok X G (c.fact 9 (f := .glo "_law_shuffled") rfl)
  g__law_row := He.glo_ok X G (c.fact 10 (f := .glo "_law_row") rfl)
  g__law_after := He.glo_ok X G (c.fact 11 (f := .glo "_law_after") rfl)
  g_law := He.glo_ok X G (c.fact 12 (f := .glo "law") rfl)
  z_len := He.free_ok X G (c.fact 13 (f := .free "len") rfl)
  z_list := He.free_ok X G (c.fact 14 (f := .free "list") rfl)
  z_tuple := He.free_ok X G (c.fact 15 (f := .free "tuple") rfl)
  z_int := He.free_ok X G (c.fact 16 (f := .free "int") rfl)
  z_bool := He.free_ok X G (c.fact 17 (f := .free "bool") rfl)
  z_range := He.free_ok X G (c.fact 18 (f := .free "range") rfl)
  z_enumerate := He.free_ok X G (c.fact 19 (f := .free "enumerate") rfl)
  z_isinstance := He.free_ok X G (c.fact 20 (f := .free "isinstance") rfl)
  z_ValueError := He.free_ok X G (c.fact 21 (f := .free "ValueError") rfl)
  i_MOST_SIZE := He.int_ok X G (c.fact 22 (f := .int "MOST_SIZE" 1000) rfl)
end EV

namespace EV
open PySem PySem.Spec PyProof.Rows L2
open He (ga)
local macro_rules | `(tactic| walk_at "r1") => `(tactic| first | refine ⟨_, rfl, ?_⟩ | refine ⟨_, _, rfl, rfl, ?_⟩ | refine Or.inl ⟨_, rfl, ?_⟩ | refine ⟨_, _, rfl, Or.inl (by assumption), ?_⟩ | refine ⟨_, _, rfl, Or.inr (by assumption), ?_⟩ | refine ⟨_, _, rfl, Or.inl (SqL.of (by assumption)), ?_⟩ | refine ⟨_, _, rfl, SqB.or (by assumption), ?_⟩ | refine ⟨_, _, rfl, ?_⟩ | refine And.intro (Or.inl ⟨rfl, _, SqL.of (by assumption)⟩) ?_ | refine And.intro (rfl : scal _ _ = true) ?_ | refine And.intro (by assumption) ?_ | refine And.intro (mul_l (by omega) (by omega)) ?_ | refine And.intro (mul_r (by omega) (by omega)) ?_ | refine And.intro (by omega) ?_)
local macro_rules | `(tactic| walk_at "rp") => `(tactic| first | walk_at "r1" | refine ⟨_, _, rfl, pen_left (by assumption), ?_⟩ | refine ⟨_, _, rfl, pen_at (by assumption), ?_⟩ | refine ⟨_, _, rfl, pen_cells (by assumption), ?_⟩ | refine ⟨_, _, rfl, put_at (by assumption), ?_⟩ | refine ⟨_, _, rfl, put_left (by assumption), ?_⟩)
local macro_rules | `(tactic| walk_at "rd") => `(tactic| repeat walk_at "r1")
local macro_rules | `(tactic| walk_at "rdp") => `(tactic| repeat walk_at "rp")
section
variable {P : Program} {w : World} {K : PySem.W.Frag} {mg : Str → Option Value} {base : Heap}
/-! ### the law's pen and what it draws -/
def sp__law_pen (K : PySem.W.Frag) : Sp := fun vs H Q _ => ∃ (a : Addr) (ns : List Int), vs = [.ref a] ∧ SqL K H a (ns.map V.int) ∧ ∀ p H', Same H H' → H p = none → (∃ c, H c = none ∧ Pen H' p c 0) → Q (.ref p) H'
theorem ok__law_pen  (T : Tx K mg) : Gd P w K mg base 1 "_law_pen" (sp__law_pen K) := by
  refine gd_of (ps := ["script"]) T.g__law_pen T.d__law_pen (fun _ _ _ _ _ _ us hl => match us, hl with | [_], _ => rfl) fun fd F => ?_
  refine ok_of F sc__law_pen (fun vs H Q E h => ?_) fun X H vs Q E hX hr tk po h => ?_
  · obtain ⟨a, ns, rfl, hs, q⟩ := h
    rfl
  · obtain ⟨cdv, A, outer, s, rfl⟩ := hX
    obtain ⟨a, ns, rfl, hs, q⟩ := h
    refine ⟨_, (pss_one (ps_ret (pe_disp (pps_cons pe_str (pe_callTy call_list_of (by rfl) T.z_list (by decide +kernel) (pa_cons (pe_slice sl_list (pv 0) po_none (po_some pe_int)) pa_nil)) (pps_cons pe_str pe_int (pps_cons pe_str pe_int pps_nil))) (by rfl) (by rfl) (fun z => by cases z) (by decide)))), ?_⟩
    clear F hr tk po
    intro p hp
    have hs1 : SqL K (upd H p (.dK [])) a (ns.map V.int) := (Same.new hp).seq hs
    refine ⟨.ref a, rfl, 63, rfl, a, _, rfl, hs1, fun c hc => ?_⟩
    refine ⟨c, _, rfl, .inl (.inl (.inl upd_same)), fun l hl => ?_⟩
    have npc : p ≠ c := ne_of_none (o := .dK []) upd_same hc
    have ncl : c ≠ l := ne_of_none (o := _) upd_same hl
    have npl : p ≠ l := ne_of_none (o := .dK []) (by rw [upd_ne npc]; exact upd_same) hl
    refine ⟨by rw [upd_ne npl, upd_ne npc]; exact upd_same, [(.inr "cells", .ref l), (.inr "at", .int 0), (.inr "left", .int 0)], rfl, by show 3 ≤ 15; decide, ?_⟩
    refine q p _ ?_ hp ?_
    · refine fun b o e => ?_
      have e1 := Same.new (o := .dK []) hp b o e
      have e2 := Same.new (o := .lst (cutV (ns.map V.int) none (some 63))) hc b o e1
      have e3 := Same.new (o := .lst (cutV (ns.map V.int) none (some 63))) hl b o e2
      rw [upd_ne (ne_of_none e hp)]
      exact e3
    · refine ⟨l, none_of (none_of hl), ns.take 63, 0, 0, upd_same, ?_, by omega, by omega, by rw [List.length_take]; omega⟩
      have ec : cutV (ns.map V.int) none (some 63) = (ns.take 63).map V.int := by
        have e1 : HT.sIx (ns.map V.int).length (ns.map V.int).length (some ((63 : Nat) : Int)) = min 63 (ns.map V.int).length := HT.sIx_nat _ _ 63
        unfold cutV
        rw [HT.sIx_none, show (some (63 : Int)) = some ((63 : Nat) : Int) from rfl, e1, List.drop_zero, Nat.sub_zero, List.map_take]
        rw [List.take_eq_take_iff]
        omega
      rw [upd_ne npl.symm, upd_same, ec]
def sp__law_draw (K : PySem.W.Frag) : Sp := fun vs H Q _ => ∃ (p c : Addr) (m : Int) (n : Nat), vs = [.ref p, .int m] ∧ 1 ≤ m ∧ m < 2 ^ 60 ∧ Pen H p c n ∧ n < 2 ^ 30 ∧
  ∀ (d : Int) H', 0 ≤ d → d < m → Keep H H' → Pen H' p c (n + 1) → Q (.int d) H'
theorem ok__law_draw  (T : Tx K mg) : Gd P w K mg base 1 "_law_draw" (sp__law_draw K) := by
  refine gd_of (ps := ["pen", "many"]) T.g__law_draw T.d__law_draw (fun _ _ _ _ _ _ us hl => match us, hl with | [_, _], _ => rfl) fun fd F => ?_
  refine ok_of F sc__law_draw (fun vs H Q E h => ?_) fun X H vs Q E hX hr tk po h => ?_
  · obtain ⟨p, c, m, n, rfl, m1, m2, hp, hn, q⟩ := h
    rfl
  · obtain ⟨cdv, A, outer, s, rfl⟩ := hX
    obtain ⟨p, c, m, n, rfl, m1, m2, hp, hn, q⟩ := h
    refine ⟨_, (pss_cons (ps_if (pt_cmpR op_ge (pe_dget (hu_of hr) (pv 0) pe_str (fun _ _ => rfl)) (pv 1) (nomark _)) (pss_cons (ps_set (i := 2) sc__law_draw.nd rfl (Or.inl rfl) (pe_op op_modN (pe_callTy call_int1 (by rfl) T.z_int (by decide +kernel) (pa_cons (pe_dget (hu_of hr) (pv 0) pe_str (fun _ _ => rfl)) pa_nil)) (pv 1)))
      (pss_cons (ps_dput (hu_of hr) (pv 0) pe_str (pe_op op_fdivW (pe_dget (hu_of hr) (pv 0) pe_str (fun _ _ => rfl)) (pv 1)) rfl)
      (pss_one (ps_ret (pv 2))))) pss_nil)
      (pss_cons (ps_set (i := 3) sc__law_draw.nd rfl (Or.inl rfl) (pe_dget (hu_of hr) (pv 0) pe_str (fun _ _ => rfl)))
      (pss_cons (ps_dput (hu_of hr) (pv 0) pe_str (pe_op op_add (pv 3) pe_int) rfl)
      (pss_cons (ps_set (i := 4) sc__law_draw.nd rfl (Or.inl rfl) (pe_op op_add (pe_op op_mul pe_int (pv 3)) pe_int))
      (Evl.pss_cut (ps_if (pt_cmpR (op_neD hr.units) (pe_dget (hu_of hr) (pv 0) pe_str (fun _ _ => rfl)) (pe_lst pa_nil) (nomark _)) (pss_one (ps_set (i := 4) sc__law_draw.nd rfl (Or.inl rfl) (pe_ix ix_seq (pe_dget (hu_of hr) (pv 0) pe_str (fun _ _ => rfl)) (pe_op op_modN (pe_callTy call_int1 (by rfl) T.z_int (by decide +kernel) (pa_cons (pv 3) pa_nil)) (pe_callB call_len_seq (by rfl) T.z_len (by decide +kernel) (pa_cons (pe_dget (hu_of hr) (pv 0) pe_str (fun _ _ => rfl)) pa_nil))) (fun _ _ => rfl)))) pss_nil)
      (Evl.pss_cut (ps_if (PW.pt (pw_and (pt_cmpR op_lt (pv 3) (pe_callB call_len_seq (by rfl) T.z_len (by decide +kernel) (pa_cons (pe_dget (hu_of hr) (pv 0) pe_str (fun _ _ => rfl)) pa_nil)) (nomark _)) (pw_and1 (pt_cmpR op_ge (pv 4) (pe_op op_pow pe_int pe_int) (nomark _))))) (pss_cons (ps_dput (hu_of hr) (pv 0) pe_str (pe_op op_fdivW (pe_op op_sub (pv 4) (pe_op op_pow pe_int pe_int)) (pv 1)) rfl)
      (pss_one (ps_ret (pe_op op_modN (pe_callTy call_int1 (by rfl) T.z_int (by decide +kernel) (pa_cons (pe_op op_sub (pv 4) (pe_op op_pow pe_int pe_int)) pa_nil)) (pv 1))))) pss_nil)
      (pss_cons (ps_set (i := 5) sc__law_draw.nd rfl (Or.inl rfl) (pe_op op_add (pe_op op_add (pe_op op_add (pe_op op_mul (pe_op op_modN (pe_callTy call_int1 (by rfl) T.z_int (by decide +kernel) (pa_cons (pv 4) pa_nil)) pe_int) pe_int) (pe_op op_mul (pe_op op_mul pe_int (pv 3)) (pv 3))) (pe_op op_mul pe_int (pv 3))) pe_int))
      (pss_cons (ps_set (i := 5) sc__law_draw.nd rfl (Or.inl rfl) (pe_op op_modN (pe_callTy call_int1 (by rfl) T.z_int (by decide +kernel) (pa_cons (pv 5) pa_nil)) pe_int))
      (pss_cons (ps_set (i := 5) sc__law_draw.nd rfl (Or.inl rfl) (pe_op op_modN (pe_callTy call_int1 (by rfl) T.z_int (by decide +kernel) (pa_cons (pe_op op_mul (pv 5) (pe_op op_add (pv 5) pe_int)) pa_nil)) pe_int))
      (pss_one (ps_ret (pe_op op_modN (pe_callTy call_int1 (by rfl) T.z_int (by decide +kernel) (pa_cons (pe_op op_fdivW (pe_op op_modN (pe_callTy call_int1 (by rfl) T.z_int (by decide +kernel) (pa_cons (pe_op op_mul (pv 5) (pv 5)) pa_nil)) pe_int) pe_int) pa_nil)) (pv 1))))))))))))), ?_⟩
    clear F hr tk po
    obtain ⟨cells, a, l, h0, hc, a0, an, c63⟩ := hp.ex
    have f0 : ∀ x : Int, 0 ≤ x.fmod m := fun x => Int.fmod_nonneg_of_pos x (by omega)
    have f1 : ∀ x : Int, x.fmod m < m := fun x => Int.fmod_lt_of_pos x (by omega)
    have cm : ∀ x : Int, CDivW x m := fun x => wide_div (b := 60) (by omega) (by omega) (by decide) (by decide)
    walk_at "rdp"
    refine ite2 (fun e => ?_) (fun e => ?_)
    · walk_at "rdp"
      refine ⟨cm l, ?_⟩
      walk_at "rdp"
      exact q _ _ (f0 l) (f1 l) (Keep.pen h0 rfl) ⟨cells, a, _, upd_same, Keep.pen h0 rfl _ _ rfl hc, a0, by omega, c63⟩
    · walk_at "rdp"
      have k1 : Keep H (upd H p (penO (.ref c) (.int (a + 1)) (.int l))) := Keep.pen h0 rfl
      have h1 : upd H p (penO (.ref c) (.int (a + 1)) (.int l)) p = some (penO (.ref c) (.int (a + 1)) (.int l)) := upd_same
      have hc1 := k1 _ _ rfl hc
      walk_at "rdp"
      refine ⟨fun σ' H' => ∃ z : Int, σ' = [some (.ref p), some (.int m), none, some (.int a), some (.int z), none] ∧ Same (upd H p (penO (.ref c) (.int (a + 1)) (.int l))) H', ?_, ?_⟩
      · walk_at "rdp"
        refine ⟨Nat.zero_le _, fun o ho => ?_⟩
        have s2 := Same.new (o := .lst []) ho
        have h2 := s2 _ _ h1
        have hc2 := s2 _ _ hc1
        refine ⟨_, _, dp_lst (.of hc2), .lst (.inl (.inl upd_same)) .nil, shaped_ints cells, rfl, _, rfl, ?_⟩
        cases cells with
        | nil => exact iteF ⟨_, rfl, s2⟩
        | cons z0 zs =>
          refine iteT ?_
          walk_at "rdp"
          refine ⟨by simp; omega, ?_⟩
          have hlen : ((List.map V.int (z0 :: zs)).length : Int) = ((z0 :: zs).length : Int) := by simp
          obtain ⟨j, hj, ej⟩ : ∃ j : Nat, j < (z0 :: zs).length ∧ a.fmod ((List.map V.int (z0 :: zs)).length : Int) = (j : Int) := by
            have g0 := Int.fmod_nonneg_of_pos a (b := ((z0 :: zs).length : Int)) (by simp)
            have g1 := Int.fmod_lt_of_pos a (b := ((z0 :: zs).length : Int)) (by simp)
            rw [hlen]
            exact ⟨(a.fmod ((z0 :: zs).length : Int)).toNat, by omega, by omega⟩
          refine .inl ⟨_, _, _, _, rfl, congrArg V.int ej, .of hc2, atI_nat (by rw [List.getElem?_map, List.getElem?_eq_getElem hj]; rfl), ?_⟩
          exact ⟨_, rfl, s2⟩
      · rintro _ H2 ⟨z, rfl, s2⟩
        have h2 := s2 _ _ h1
        have hc2 := s2 _ _ hc1
        have k2 := k1.trans (.of s2)
        have pen2 : Pen H2 p c (n + 1) := ⟨cells, a + 1, l, h2, hc2, by omega, by omega, c63⟩
        have key : ∀ z : Int, z.fmod 2147483629 < 2147483629 ∧ 0 ≤ z.fmod 2147483629 := fun z => ⟨Int.fmod_lt_of_pos z (by decide), Int.fmod_nonneg_of_pos z (by decide)⟩
        have cm2 : ∀ z y : Int, CMul (z.fmod 2147483647) y := fun z y => by
          have g1 := Int.fmod_lt_of_pos z (b := 2147483647) (by decide)
          have g2 := Int.fmod_nonneg_of_pos z (b := 2147483647) (by decide)
          exact mul_l (by omega) (by omega)
        have cm3 : ∀ z y : Int, CMul (z.fmod 2147483587) y := fun z y => by
          have g1 := Int.fmod_lt_of_pos z (b := 2147483587) (by decide)
          have g2 := Int.fmod_nonneg_of_pos z (b := 2147483587) (by decide)
          exact mul_l (by omega) (by omega)
        have cd : ∀ x : Int, CDivW x 64 := fun x => wide_div (b := 60) (by decide) (by decide) (by decide) (by decide)
        have cp : CPow 10 18 := ⟨by decide, by decide, by decide⟩
        refine ⟨fun σ' H' => σ' = [some (.ref p), some (.int m), none, some (.int a), some (.int z), none] ∧ H' = H2, ?_, ?_⟩
        · walk_at "rdp"
          refine ite2 (fun e => ?_) (fun e => iteF ⟨rfl, rfl⟩)
          walk_at "rdp"
          refine ite2 (fun e => ?_) (fun e => ⟨rfl, rfl⟩)
          walk_at "rdp"
          refine ⟨cm _, ?_⟩
          walk_at "rdp"
          exact q _ _ (f0 _) (f1 _) (k2.trans (Keep.pen h2 rfl)) ⟨cells, a + 1, _, upd_same, Keep.pen h2 rfl _ _ rfl hc2, by omega, by omega, c63⟩
        · rintro _ _ ⟨rfl, rfl⟩
          have g1 := key z
          walk_at "rdp"
          refine ⟨cm2 _ _, ?_⟩
          walk_at "rdp"
          refine ⟨cm3 _ _, ?_⟩
          walk_at "rdp"
          refine ⟨cd _, ?_⟩
          walk_at "rdp"
          exact q _ _ (f0 _) (f1 _) k2 pen2
def sp__law_pick (K : PySem.W.Frag) : Sp := fun vs H Q _ => ∃ (p c a : Addr) (b : Bool) (n : Nat) (xs : List V), vs = [.ref p, .ref a] ∧ SqB b K H a xs ∧ xs ≠ [] ∧ xs.length < 2 ^ 30 ∧ Pen H p c n ∧ n < 2 ^ 30 ∧
  ∀ (i : Nat) x H', xs[i]? = some x → Keep H H' → Pen H' p c (n + 1) → Q x H'
theorem ok__law_pick  (T : Tx K mg) : Gd P w K mg base 2 "_law_pick" (sp__law_pick K) := by
  have G__law_draw := ok__law_draw (P := P) (w := w) (base := base) T
  refine gd_of (ps := ["pen", "some"]) T.g__law_pick T.d__law_pick (fun _ _ _ _ _ _ us hl => match us, hl with | [_, _], _ => rfl) fun fd F => ?_
  refine ok_of F sc__law_pick (fun vs H Q E h => ?_) fun X H vs Q E hX hr tk po h => ?_
  · obtain ⟨p, c, a, b, n, xs, rfl, hs, ne, hl, hp, hn, q⟩ := h
    rfl
  · obtain ⟨cdv, A, outer, s, rfl⟩ := hX
    obtain ⟨p, c, a, b, n, xs, rfl, hs, ne, hl, hp, hn, q⟩ := h
    refine ⟨_, (pss_one (ps_ret (pe_ix ix_seq (pv 1) (pe_cr G__law_draw (hr.mono (by decide)) (fun σ => passAt tk σ) (pa_cons (pv 0) (pa_cons (pe_callB call_len_seq (by rfl) T.z_len (by decide +kernel) (pa_cons (pv 1) pa_nil)) pa_nil))) (fun _ _ => rfl)))), ?_⟩
    clear F hr tk po
    walk_at "rd"
    have l0 : 0 < xs.length := List.length_pos_iff.mpr ne
    refine ⟨p, c, _, n, rfl, by omega, by omega, hp, hn, fun d H' d0 d1 k hp' => ?_⟩
    obtain ⟨i, rfl⟩ : ∃ i : Nat, d = (i : Int) := ⟨d.toNat, by omega⟩
    have hi : i < xs.length := by omega
    have hx : xs[i]? = some xs[i] := List.getElem?_eq_getElem hi
    have hs' := k.sqb hs
    have fin := q i xs[i] H' hx k hp'
    cases b with
    | true => exact .inl ⟨a, xs, _, _, rfl, rfl, hs', atI_nat hx, fin⟩
    | false => exact .inr (.inl ⟨a, xs, _, _, rfl, rfl, hs', atI_nat hx, fin⟩)
def sp__law_shuffled (K : PySem.W.Frag) : Sp := fun vs H Q _ => ∃ (p c a : Addr) (b : Bool) (n : Nat) (xs : List V), vs = [.ref p, .ref a] ∧ SqB b K H a xs ∧ xs.length < 100000 ∧ Pen H p c n ∧ n < 2 ^ 29 ∧
  ∀ ys q' H', ys.Perm xs → Keep H H' → H q' = none → H' q' = some (.lst ys) → Pen H' p c (n + xs.length) → Q (.ref q') H'
theorem ok__law_shuffled  (T : Tx K mg) : Gd P w K mg base 2 "_law_shuffled" (sp__law_shuffled K) := by
  have G__law_draw := ok__law_draw (P := P) (w := w) (base := base) T
  refine gd_of (ps := ["pen", "some"]) T.g__law_shuffled T.d__law_shuffled (fun _ _ _ _ _ _ us hl => match us, hl with | [_, _], _ => rfl) fun fd F => ?_
  refine ok_of F sc__law_shuffled (fun vs H Q E h => ?_) fun X H vs Q E hX hr tk po h => ?_
  · obtain ⟨p, c, a, b, n, xs, rfl, hs, hl, hp, hn, q⟩ := h
    rfl
  · obtain ⟨cdv, A, outer, s, rfl⟩ := hX
    obtain ⟨p, c, a, b, n, xs, rfl, hs, hl, hp, hn, q⟩ := h
    refine ⟨_, (pss_cons (ps_par (i := 2) (j := 3) (by rfl) sc__law_shuffled.nd rfl rfl (by decide) rfl rfl (pa_cons (pe_callTy call_list_of (by rfl) T.z_list (by decide +kernel) (pa_cons (pv 1) pa_nil)) (pa_cons (pe_lst pa_nil) pa_nil)) (by rfl))
      (pss_cons (ps_for po rfl (pi_range1 (by rfl) T.z_range (pa_cons (pe_callB call_len_seq (by rfl) T.z_len (by decide +kernel) (pa_cons (pv 2) pa_nil)) pa_nil)) (pg_name (i := 4) sc__law_shuffled.nd rfl (Or.inl rfl)) (pss_one (ps_expr (pe_bm PySem.F.plainAttrs_list PySem.F.slot_list_append PySem.F.type_list_append mt_append (pv 3) (pa_cons (pe_bm PySem.F.plainAttrs_list PySem.F.slot_list_pop PySem.F.type_list_pop mt_popAt (pv 2) (pa_cons (pe_cr G__law_draw (hr.mono (by decide)) (fun σ => passAt tk σ) (pa_cons (pv 0) (pa_cons (pe_callB call_len_seq (by rfl) T.z_len (by decide +kernel) (pa_cons (pv 2) pa_nil)) pa_nil))) pa_nil)) pa_nil)))))
      (pss_one (ps_ret (pv 3))))), ?_⟩
    clear F hr tk po
    walk_at "rd"
    intro l hl0
    refine ⟨Nat.zero_le _, fun f hf => ?_⟩
    have nlf : l ≠ f := ne_of_none upd_same hf
    have np1 := hp.ne hl0
    have np2 := hp.ne (none_of hf)
    have h1l : (upd (upd H l (.lst xs)) f (.lst [])) l = some (.lst xs) := by rw [upd_ne nlf]; exact upd_same
    walk_at "rd"
    refine for_range (lo := 0) (fun i σ' H' => ∃ ls fs kv, σ' = [some (.ref p), some (.ref a), some (.ref l), some (.ref f), kv] ∧ H' l = some (.lst ls) ∧ H' f = some (.lst fs) ∧ (fs ++ ls).Perm xs ∧ fs.length = i ∧ Keep H H' ∧ Pen H' p c (n + i)) ?_ ?_ ?_
    · exact ⟨xs, [], none, rfl, h1l, upd_same, .refl _, rfl, .put (.new hl0) (none_of hf), (hp.put np1).put np2⟩
    · rintro i _ H' hi ⟨ls, fs, kv, rfl, el, ef, pm, len, kp, pn⟩
      have pl := pm.length_eq
      rw [List.length_append] at pl
      walk_at "rd"
      refine ⟨p, c, _, n + i, rfl, by omega, by omega, pn, by omega, fun d H2 d0 d1 k2 pn2 => ?_⟩
      have el2 := k2 _ _ rfl el
      have ef2 := k2 _ _ rfl ef
      have hd : d.toNat < ls.length := by omega
      refine ⟨l, ls, d, d.toNat, ls[d.toNat], rfl, rfl, el2, by omega, by omega, seq_ix d0 d1, List.getElem?_eq_getElem hd, ?_⟩
      refine ⟨f, fs, ls[d.toNat], rfl, rfl, by rw [upd_ne nlf.symm]; exact ef2, Nat.lt_of_lt_of_le (m := 100000) (by omega) (by decide), ?_⟩
      refine ⟨ls.eraseIdx d.toNat, fs ++ [ls[d.toNat]], some (.int (0 + (i : Int))), rfl, by rw [upd_ne nlf]; exact upd_same, upd_same, ?_, by simp [len], ?_, ?_⟩
      · refine List.Perm.trans ?_ pm
        rw [List.append_assoc]
        refine List.Perm.append_left fs ?_
        exact cons_erase hd
      · exact .put (.put (kp.trans k2) hl0) (none_of hf)
      · exact (pn2.put np1).put np2
    · rintro _ H' ⟨ls, fs, kv, rfl, el, ef, pm, len, kp, pn⟩
      have pl := pm.length_eq
      rw [List.length_append] at pl
      have e0 : ls = [] := List.length_eq_zero_iff.mp (by omega)
      rw [e0, List.append_nil] at pm
      refine ⟨_, rfl, q fs f H' pm kp (none_of hf) ef (pn.mono (by omega))⟩
def sp__law_row (K : PySem.W.Frag) : Sp := fun vs H Q _ => ∃ (p c : Addr) (s n : Nat), vs = [.ref p, .int (s : Int)] ∧ s < 100000 ∧ Pen H p c n ∧ n < 2 ^ 29 ∧
  ∀ (f : List Nat) q' H', IsRow f → f.length = s → Keep H H' → H q' = none → H' q' = some (.lst (f.map vI)) → Pen H' p c (n + s) → Q (.ref q') H'
theorem ok__law_row  (T : Tx K mg) : Gd P w K mg base 3 "_law_row" (sp__law_row K) := by
  have G__law_shuffled := ok__law_shuffled (P := P) (w := w) (base := base) T
  refine gd_of (ps := ["pen", "size"]) T.g__law_row T.d__law_row (fun _ _ _ _ _ _ us hl => match us, hl with | [_, _], _ => rfl) fun fd F => ?_
  refine ok_of F sc__law_row (fun vs H Q E h => ?_) fun X H vs Q E hX hr tk po h => ?_
  · obtain ⟨p, c, s, n, rfl, hs, hp, hn, q⟩ := h
    rfl
  · obtain ⟨cdv, A, outer, s, rfl⟩ := hX
    obtain ⟨p, c, s, n, rfl, hs, hp, hn, q⟩ := h
    refine ⟨_, (pss_one (ps_ret (pe_cr G__law_shuffled (hr.mono (by decide)) (fun σ => passAt tk σ) (pa_cons (pv 0) (pa_cons (pe_listRg rfl (by rfl) T.z_list (prg_1 (by rfl) T.z_range (pv 1))) pa_nil))))), ?_⟩
    clear F hr tk po
    walk_at "rd"
    refine ⟨by unfold RgOk; omega, fun a ha => ?_⟩
    have np := hp.ne ha
    rw [rgV_nat]
    refine ⟨p, c, a, true, n, (List.range s).map vI, rfl, SqL.of upd_same, by simp; omega, hp.put np, hn, fun ys q' H' pm k nq hq pn => ?_⟩
    obtain ⟨g, rfl, pg⟩ := of_map_perm pm
    refine q g q' H' (.of_perm pg) (by simpa using pg.length_eq) (.trans (.new ha) k) (none_of nq) hq ?_
    rw [List.length_map, List.length_range] at pn
    exact pn

end
end EV

namespace EV
open PySem PySem.Spec PyProof.Rows L2
open He (ga)
local macro_rules | `(tactic| walk_at "r1") => `(tactic| first | refine ⟨_, rfl, ?_⟩ | refine ⟨_, _, rfl, rfl, ?_⟩ | refine Or.inl ⟨_, rfl, ?_⟩ | refine ⟨_, _, rfl, Or.inl (by assumption), ?_⟩ | refine ⟨_, _, rfl, Or.inr (by assumption), ?_⟩ | refine ⟨_, _, rfl, Or.inl (SqL.of (by assumption)), ?_⟩ | refine ⟨_, _, rfl, SqB.or (by assumption), ?_⟩ | refine ⟨_, _, rfl, ?_⟩ | refine And.intro (Or.inl ⟨rfl, _, SqL.of (by assumption)⟩) ?_ | refine And.intro (rfl : scal _ _ = true) ?_ | refine And.intro (by assumption) ?_ | refine And.intro (mul_l (by omega) (by omega)) ?_ | refine And.intro (mul_r (by omega) (by omega)) ?_ | refine And.intro (by omega) ?_)
local macro_rules | `(tactic| walk_at "rp") => `(tactic| first | walk_at "r1" | refine ⟨_, _, rfl, pen_left (by assumption), ?_⟩ | refine ⟨_, _, rfl, pen_at (by assumption), ?_⟩ | refine ⟨_, _, rfl, pen_cells (by assumption), ?_⟩ | refine ⟨_, _, rfl, put_at (by assumption), ?_⟩ | refine ⟨_, _, rfl, put_left (by assumption), ?_⟩)
local macro_rules | `(tactic| walk_at "rd") => `(tactic| repeat walk_at "r1")
local macro_rules | `(tactic| walk_at "rdp") => `(tactic| repeat walk_at "rp")
section
variable {P : Program} {w : World} {K : PySem.W.Frag} {mg : Str → Option Value} {base : Heap}
/-! ### integers, maps: rows that are right -/
/-- nothing new is tracked but what is told -/
def RetV (v : V) (H : Hp) (Q : VK) : Prop := ∀ H', Same H H' → Q v H'
def RetL (xs : List V) (H : Hp) (Q : VK) : Prop := ∀ p H', Same H H' → H p = none → H' p = some (.lst xs) → Q (.ref p) H'
def sp_is_integer (K : PySem.W.Frag) : Sp := fun vs H Q _ => ∃ (x : V) (n : String), vs = [x] ∧ TyX K H x (.type n) ∧ n ∈ (["int", "bool", "NoneType", "str", "tuple", "list", "dict"] : List String) ∧ Q (.bl (decide (n = "int"))) H
theorem ok_is_integer  (T : Tx K mg) : Gd P w K mg base 1 "is_integer" (sp_is_integer K) := by
  refine gd_of (ps := ["value"]) T.g_is_integer T.d_is_integer (fun _ _ _ _ _ _ us hl => match us, hl with | [_], _ => rfl) fun fd F => ?_
  refine ok_of F sc_is_integer (fun vs H Q E h => ?_) fun X H vs Q E hX hr tk po h => ?_
  · obtain ⟨x, n, rfl, ht, hn, q⟩ := h
    rfl
  · obtain ⟨cdv, A, outer, s, rfl⟩ := hX
    obtain ⟨x, n, rfl, ht, hn, q⟩ := h
    refine ⟨_, (pss_one (ps_ret (pe_and (pe_callB call_isi (by rfl) T.z_isinstance (by decide +kernel) (pa_cons (pv 0) (pa_cons (pe_bltn (v := .ty "int") (by rfl) T.z_int (by decide +kernel) rfl) pa_nil))) (pe_one (pe_not (pe_callB call_isi (by rfl) T.z_isinstance (by decide +kernel) (pa_cons (pv 0) (pa_cons (pe_bltn (v := .ty "bool") (by rfl) T.z_bool (by decide +kernel) rfl) pa_nil)))))))), ?_⟩
    clear F hr tk po
    have k : ∀ c : String, c = "int" ∨ c = "bool" → kitB n c = some (decide (n = c ∨ (n = "bool" ∧ c = "int"))) := by
      intro c hc
      simp only [List.mem_cons, List.not_mem_nil, or_false] at hn
      rcases hn with rfl | rfl | rfl | rfl | rfl | rfl | rfl <;> rcases hc with rfl | rfl <;> decide +kernel
    refine ⟨x, rfl, x, .ty "int", .type n, .type "int", _, rfl, .ty _, ht, kit_ty (k "int" (.inl rfl)), _, rfl, ?_⟩
    refine ite2 (fun e => ?_) (fun e => ?_)
    · refine ⟨x, rfl, x, .ty "bool", .type n, .type "bool", _, rfl, .ty _, ht, kit_ty (k "bool" (.inr rfl)), _, rfl, ?_⟩
      have ee : (!decide (n = "bool" ∨ n = "bool" ∧ "bool" = "int")) = decide (n = "int") := by
        rcases of_decide_eq_true e with e | e
        · subst e
          decide
        · rw [e.1]
          decide
      rw [ee]
      exact q
    · have ee : decide (n = "int") = false := decide_eq_false fun z => e (decide_eq_true (.inl z))
      rw [ee] at q
      exact q
theorem int_ty {K : PySem.W.Frag} {H : Hp} (i : Int) : TyX K H (.int i) (.type "int") := .base (.int i)
theorem seen_none {f : List Nat} {i : Nat} {n : Nat} (nd : f.Nodup) (h : f[i]? = some n) : valV ((f.take i).map fun (n : Nat) => ((Sum.inl (n : Int) : Key), V.bl true)) (.inl (n : Int)) = none := by
  have hi := (List.getElem?_eq_some_iff.mp h).1
  have e := (List.getElem?_eq_some_iff.mp h).2
  cases q : valV ((f.take i).map fun (n : Nat) => ((Sum.inl (n : Int) : Key), V.bl true)) (.inl (n : Int)) with
  | none => rfl
  | some v =>
    have m := valV_in q
    rw [List.map_map] at m
    obtain ⟨y, hy, ey⟩ := List.mem_map.mp m
    have ey' : y = n := by
      have z : (Sum.inl (y : Int) : Key) = Sum.inl (n : Int) := ey
      have z2 := Sum.inl.inj z
      omega
    obtain ⟨j, hj, ej⟩ := List.mem_iff_getElem.mp hy
    rw [List.length_take] at hj
    rw [List.getElem_take] at ej
    have := nd_ix nd (i := j) (j := i) (x := n) (by rw [List.getElem?_eq_getElem (by omega), ej, ey']) h
    omega
def sp_need_row (K : PySem.W.Frag) : Sp := fun vs H Q _ => ∃ (a : Addr) (b : Bool) (f : List Nat), vs = [.ref a] ∧ SqB b K H a (f.map vI) ∧ IsRow f ∧ f.length ≤ 100000 ∧ RetV .non H Q
theorem ok_need_row  (T : Tx K mg) : Gd P w K mg base 2 "need_row" (sp_need_row K) := by
  have G_is_integer := ok_is_integer (P := P) (w := w) (base := base) T
  refine gd_of (ps := ["row"]) T.g_need_row T.d_need_row (fun _ _ _ _ _ _ us hl => match us, hl with | [_], _ => rfl) fun fd F => ?_
  refine ok_of F sc_need_row (fun vs H Q E h => ?_) fun X H vs Q E hX hr tk po h => ?_
  · obtain ⟨a, b, f, rfl, hs, hf, hl, q⟩ := h
    rfl
  · obtain ⟨cdv, A, outer, s, rfl⟩ := hX
    obtain ⟨a, b, f, rfl, hs, hf, hl, q⟩ := h
    refine ⟨_, (pss_cons (ps_set (i := 1) sc_need_row.nd rfl (Or.inl rfl) pe_dnewK)
      (pss_one (ps_for po rfl (pi_enumA (by rfl) T.z_enumerate (pa_cons (pv 0) pa_nil)) (pg_tup rfl (pgs_cons (pg_name (i := 2) sc_need_row.nd rfl (Or.inl rfl)) (pgs_cons (pg_name (i := 3) sc_need_row.nd rfl (Or.inl rfl)) pgs_nil))) (pss_cons (ps_if (PW.pt (pw_or (pt_not (pt_val (pe_cr G_is_integer (hr.mono (by decide)) (fun σ => passAt tk σ) (pa_cons (pv 3) pa_nil)))) (pw_or (pt_not (pt_chain op_le op_lt pe_int (pv 3) (pe_callB call_len_seq (by rfl) T.z_len (by decide +kernel) (pa_cons (pv 0) pa_nil)))) (pw_or1 (pt_cmp (pc_din (hu_of hr) (pv 3) (pv 1)) (by rfl)))))) (pss_one ps_never) pss_nil)
      (pss_one (ps_dput (hu_of hr) (pv 1) (pv 3) pe_bl rfl)))))), ?_⟩
    clear F hr tk po
    intro d hd
    walk_at "rd"
    have hs1 := Same.sqb (Same.new (o := .dK []) hd) hs
    refine ⟨a, b, f.map vI, rfl, hs1, fun J wk => ?_⟩
    refine for_it wk (fun i σ' H' => ∃ v1 v2, σ' = [some (.ref a), some (.ref d), v1, v2] ∧ Same H H' ∧ H' d = some (.dK ((f.take i).map fun (n : Nat) => ((Sum.inl (n : Int) : Key), V.bl true)))) ?_ ?_ ?_ ?_
    · exact ⟨none, none, rfl, Same.new hd, upd_same⟩
    · rintro i _ H' hi ⟨v1, v2, rfl, s1, ed⟩
      exact Same.sqb s1 hs
    · rintro i v _ H' H2 hi ⟨v1, v2, rfl, s1, ed⟩ ⟨T, x, y, rfl, hT, rfl, e1, e2⟩
      have e1' : V.int (i : Int) = x := Option.some.inj e1
      subst e1'
      rw [List.length_map] at hi
      obtain ⟨n, hn, rfl⟩ : ∃ n, f[i]? = some n ∧ vI n = y := by
        have e2' : (f.map vI)[i]? = some y := e2
        rw [List.getElem?_map] at e2'
        exact Option.map_eq_some_iff.mp e2'
      have nlt : n < f.length := hf.lt n (List.mem_of_getElem? hn)
      have sT := Same.new (o := .tup [.int (i : Int), vI n]) hT
      have hs2 := Same.sqb sT (Same.sqb s1 hs)
      have ed2 := sT _ _ ed
      refine ⟨T, _, rfl, SqT.of upd_same, rfl, _, _, rfl, _, _, rfl, rfl, ?_⟩
      walk_at "rd"
      refine ⟨vI n, "int", rfl, int_ty _, by simp, _, rfl, ite_f (by decide) ?_⟩
      walk_at "rd"
      refine ite_f (by simp; omega) ?_
      walk_at "rd"
      refine ⟨d, _, rfl, DGet.k (k := Sum.inl (n : Int)) ed2, _, rfl, ?_⟩
      rw [seen_none hf.nd hn]
      refine iteF ?_
      walk_at "rd"
      refine ⟨d, _, rfl, DPut.k (k := Sum.inl (n : Int)) ed2 (Nat.lt_of_le_of_lt (m := 100000) ?_ (by decide)), ?_⟩
      · rw [List.length_map, List.length_take]
        omega
      · refine ⟨_, _, rfl, Same.put (s1.trans sT) hd, ?_⟩
        rw [upd_same, putK_new _ (seen_none hf.nd hn), List.take_add_one, hn, List.map_append]
        rfl
    · rintro _ H' ⟨v1, v2, rfl, s1, ed⟩
      exact q H' s1
def rowV (f : List Nat) : List V := f.map vI
def sp_nothing (K : PySem.W.Frag) : Sp := fun vs H Q _ => ∃ n : Nat, vs = [.int (n : Int)] ∧ n ≤ 1000 ∧ RetL ((List.range n).map vI) H Q
theorem ok_nothing  (T : Tx K mg) : Gd P w K mg base 2 "nothing" (sp_nothing K) := by
  have G_is_integer := ok_is_integer (P := P) (w := w) (base := base) T
  refine gd_of (ps := ["size"]) T.g_nothing T.d_nothing (fun _ _ _ _ _ _ us hl => match us, hl with | [_], _ => rfl) fun fd F => ?_
  refine ok_of F sc_nothing (fun vs H Q E h => ?_) fun X H vs Q E hX hr tk po h => ?_
  · obtain ⟨n, rfl, hn, q⟩ := h
    rfl
  · obtain ⟨cdv, A, outer, s, rfl⟩ := hX
    obtain ⟨n, rfl, hn, q⟩ := h
    refine ⟨_, (pss_cons (ps_if (PW.pt (pw_or (pt_not (pt_val (pe_cr G_is_integer (hr.mono (by decide)) (fun σ => passAt tk σ) (pa_cons (pv 0) pa_nil)))) (pw_or1 (pt_not (pt_chain op_le op_le pe_int (pv 0) (pe_gint rfl T.i_MOST_SIZE)))))) (pss_one ps_never) pss_nil)
      (pss_one (ps_ret (pe_listRg rfl (by rfl) T.z_list (prg_1 (by rfl) T.z_range (pv 0)))))), ?_⟩
    clear F hr tk po
    walk_at "rd"
    refine ⟨.int n, "int", rfl, int_ty _, by simp, _, rfl, ite_f (by decide) ?_⟩
    walk_at "rd"
    refine ite_f (by simp; omega) ?_
    walk_at "rd"
    refine ⟨by unfold RgOk; omega, fun p hp => ?_⟩
    rw [rgV_nat]
    exact q p _ (Same.new hp) hp upd_same
def sp_joined (K : PySem.W.Frag) : Sp := fun vs H Q _ => ∃ (a c : Addr) (b d : Bool) (f g : List Nat), vs = [.ref a, .ref c] ∧ SqB b K H a (f.map vI) ∧ SqB d K H c (g.map vI) ∧ IsRow f ∧ IsRow g ∧ f.length = g.length ∧ f.length ≤ 100000 ∧ RetL ((joinL f g).map vI) H Q
theorem ok_joined  (T : Tx K mg) : Gd P w K mg base 3 "joined" (sp_joined K) := by
  have G_need_row := ok_need_row (P := P) (w := w) (base := base) T
  refine gd_of (ps := ["first", "second"]) T.g_joined T.d_joined (fun _ _ _ _ _ _ us hl => match us, hl with | [_, _], _ => rfl) fun fd F => ?_
  refine ok_of F sc_joined (fun vs H Q E h => ?_) fun X H vs Q E hX hr tk po h => ?_
  · obtain ⟨a, c, b, d, f, g, rfl, hs, ht, hf, hg, hl, hz, q⟩ := h
    rfl
  · obtain ⟨cdv, A, outer, s, rfl⟩ := hX
    obtain ⟨a, c, b, d, f, g, rfl, hs, ht, hf, hg, hl, hz, q⟩ := h
    refine ⟨_, (pss_cons (ps_expr (pe_cr G_need_row (hr.mono (by decide)) (fun σ => passAt tk σ) (pa_cons (pv 0) pa_nil)))
      (pss_cons (ps_expr (pe_cr G_need_row (hr.mono (by decide)) (fun σ => passAt tk σ) (pa_cons (pv 1) pa_nil)))
      (pss_cons (ps_if (pt_cmpR op_ne (pe_callB call_len_seq (by rfl) T.z_len (by decide +kernel) (pa_cons (pv 0) pa_nil)) (pe_callB call_len_seq (by rfl) T.z_len (by decide +kernel) (pa_cons (pv 1) pa_nil)) (nomark _)) (pss_one ps_never) pss_nil)
      (pss_one (ps_ret (pe_lc (own := [("part", 2)]) rfl sc_joined.nd (pi_seq (pv 1)) (blkOk_by (N := ["first", "second", "part"]) (sc := defScope s_joined) (own := [("part", 2)]) (by decide +kernel)) (fun _ _ _ _ _ => (pg_name (i := 2) sc_joined.nd rfl (Or.inl rfl))) (fun _ _ _ _ _ => pts_nil) (fun _ _ _ _ _ => (pe_ix (ix_seqK (K := K) rfl) (pv 0) (pv 2) (fun _ _ => rfl))))))))), ?_⟩
    clear F hr tk po
    walk_at "rd"
    refine ⟨a, b, f, rfl, hs, hf, hz, fun H1 s1 => ?_⟩
    have ht1 := Same.sqb s1 ht
    walk_at "rd"
    refine ⟨c, d, g, rfl, ht1, hg, by omega, fun H2 s2 => ?_⟩
    have s12 := s1.trans s2
    have hs2 := Same.sqb s12 hs
    have ht2 := Same.sqb s12 ht
    walk_at "rd"
    refine ite_f (by simp [hl]) ?_
    walk_at "rd"
    refine ⟨c, d, g.map vI, rfl, ht2, fun J wk D hD => ?_⟩
    refine lc_map wk ((joinL f g).map vI) (by simp [joinL_len]) hD (fun H' s3 => Same.sqb s3 ht2) ?_ ?_
    · rintro i x H' _ hi s3 pv ⟨rfl, ex⟩
      rw [List.length_map] at hi
      rw [List.getElem?_map] at ex
      obtain ⟨j, hj, rfl⟩ := Option.map_eq_some_iff.mp ex
      have jlt : j < f.length := by rw [hl]; exact hg.lt j (List.mem_of_getElem? hj)
      refine ⟨rfl, yes_if ?_⟩
      refine ⟨_, rfl, _, rfl, rix (Same.sqb s3 hs2) rfl (getElem?_vI jlt) (pvM_turn hD (by simp [joinL_len]; omega) pv (.refl _) ?_)⟩
      have gj : g.getD i 0 = j := by rw [List.getD_eq_getElem?_getD, hj]; rfl
      rw [getElem?_vI (by rw [joinL_len]; exact hi), joinL_get f g hi, gj]
    · intro H' s3 e3
      exact q D H' (s12.trans s3) (Same.free s12 hD) e3
def sp_undone (K : PySem.W.Frag) : Sp := fun vs H Q _ => ∃ (a : Addr) (b : Bool) (f : List Nat), vs = [.ref a] ∧ SqB b K H a (f.map vI) ∧ IsRow f ∧ f.length ≤ 100000 ∧ RetL ((invL f).map vI) H Q
theorem ok_undone  (T : Tx K mg) : Gd P w K mg base 3 "undone" (sp_undone K) := by
  have G_need_row := ok_need_row (P := P) (w := w) (base := base) T
  refine gd_of (ps := ["row"]) T.g_undone T.d_undone (fun _ _ _ _ _ _ us hl => match us, hl with | [_], _ => rfl) fun fd F => ?_
  refine ok_of F sc_undone (fun vs H Q E h => ?_) fun X H vs Q E hX hr tk po h => ?_
  · obtain ⟨a, b, f, rfl, hs, hf, hz, q⟩ := h
    rfl
  · obtain ⟨cdv, A, outer, s, rfl⟩ := hX
    obtain ⟨a, b, f, rfl, hs, hf, hz, q⟩ := h
    refine ⟨_, (pss_cons (ps_expr (pe_cr G_need_row (hr.mono (by decide)) (fun σ => passAt tk σ) (pa_cons (pv 0) pa_nil)))
      (pss_cons (ps_set (i := 1) sc_undone.nd rfl (Or.inl rfl) (pe_op op_rep (pe_lst (pa_cons pe_int pa_nil)) (pe_callB call_len_seq (by rfl) T.z_len (by decide +kernel) (pa_cons (pv 0) pa_nil))))
      (pss_cons (ps_for po rfl (pi_enumA (by rfl) T.z_enumerate (pa_cons (pv 0) pa_nil)) (pg_tup rfl (pgs_cons (pg_name (i := 2) sc_undone.nd rfl (Or.inl rfl)) (pgs_cons (pg_name (i := 3) sc_undone.nd rfl (Or.inl rfl)) pgs_nil))) (pss_one (ps_asg (pv 2) (pg_sub (pv 1) (pv 3) set_list))))
      (pss_one (ps_ret (pv 1)))))), ?_⟩
    clear F hr tk po
    walk_at "rd"
    refine ⟨a, b, f, rfl, hs, hf, hz, fun H1 s1 => ?_⟩
    have hs1 := Same.sqb s1 hs
    walk_at "rd"
    refine ⟨by decide, fun o ho => ?_⟩
    have hs2 := Same.sqb (Same.new (o := .lst [.int 0]) ho) hs1
    walk_at "rd"
    refine ⟨o, _, [.int 0], rfl, rfl, upd_same, by omega, (by simp; omega), Nat.le_trans (m := 100000) (by simp; omega) (by decide), fun l hl => ?_⟩
    have s12 : Same H (upd (upd H1 o (.lst [.int 0])) l (.lst (List.replicate (((List.map vI f).length : Int).toNat) [V.int 0]).flatten)) := s1.trans ((Same.new ho).trans (Same.new hl))
    have hs3 := Same.sqb (Same.new (o := .lst (List.replicate (((List.map vI f).length : Int).toNat) [V.int 0]).flatten) hl) hs2
    have hl0 : H l = none := Same.free (s1.trans (Same.new ho)) hl
    walk_at "rd"
    refine ⟨a, b, f.map vI, rfl, hs3, fun J wk => ?_⟩
    refine for_it wk (fun i σ' H' => ∃ (g : List Nat) (v1 v2 : Option V), σ' = [some (.ref a), some (.ref l), v1, v2] ∧ Same H H' ∧ H' l = some (.lst (g.map vI)) ∧ g.length = f.length ∧ ∀ j, j < i → g.getD (f.getD j 0) 0 = j) ?_ ?_ ?_ ?_
    · refine ⟨List.replicate f.length 0, none, none, rfl, s12, ?_, by simp, fun j hj => by omega⟩
      rw [upd_same]
      congr 2
      apply List.ext_getElem
      · simp
      · intro n h1 h2
        rw [List.getElem_map, List.getElem_replicate]
        have m := List.getElem_mem h1
        have : ∀ (n : Nat) (x : V), x ∈ (List.replicate n [V.int 0]).flatten → x = V.int 0 := by
          intro n x hx
          obtain ⟨y, hy, hx⟩ := List.mem_flatten.mp hx
          rw [List.eq_of_mem_replicate hy] at hx
          simpa using hx
        exact this _ _ m
    · rintro i _ H' hi ⟨g, v1, v2, rfl, sH, eg, lg, inv⟩
      exact Same.sqb sH hs
    · rintro i v _ H' H2 hi ⟨g, v1, v2, rfl, sH, eg, lg, inv⟩ ⟨T, x, y, rfl, hT, rfl, e1, e2⟩
      have e1' : V.int (i : Int) = x := Option.some.inj e1
      subst e1'
      rw [List.length_map] at hi
      have e2' : (f.map vI)[i]? = some y := e2
      rw [List.getElem?_map] at e2'
      obtain ⟨n, hn, rfl⟩ := Option.map_eq_some_iff.mp e2'
      have nlt : n < f.length := hf.lt n (List.mem_of_getElem? hn)
      have sT := Same.new (o := .tup [.int (i : Int), vI n]) hT
      have fi : f.getD i 0 = n := by rw [List.getD_eq_getElem?_getD, hn]; rfl
      refine ⟨T, _, rfl, SqT.of upd_same, rfl, _, _, rfl, _, _, rfl, rfl, ?_⟩
      walk_at "rd"
      refine ⟨l, _, _, n, rfl, rfl, sT _ _ eg, ?_, ?_⟩
      · rw [List.length_map]
        exact Evl.ixN_nat (by omega)
      · refine ⟨g.set n i, _, _, rfl, Same.put (sH.trans sT) hl0, ?_, by simpa using lg, fun j hj => ?_⟩
        · rw [upd_same, List.map_set]
          rfl
        · by_cases e : j = i
          · subst e
            rw [fi]
            simp [List.getD_eq_getElem?_getD, lg, nlt]
          · have hne : f.getD j 0 ≠ n := fun z => e (getD_inj hf (by omega) hi (z.trans fi.symm))
            rw [getD_set_ne hne]
            exact inv j (by omega)
    · rintro _ H' ⟨g, v1, v2, rfl, sH, eg, lg, inv⟩
      rw [List.length_map] at inv
      have eg2 : g = invL f := by
        refine ext_getD (by rw [lg, invL_len]) fun x hx => ?_
        rw [lg] at hx
        rw [invL_get hx]
        have := inv (f.idxOf x) (idx_lt hf hx)
        rw [getD_idx hf hx] at this
        exact this
      rw [eg2] at eg
      walk_at "rd"
      exact q l H' sH hl0 eg
def sp_done (K : PySem.W.Frag) : Sp := fun vs H Q _ => ∃ (a c : Addr) (b d : Bool) (f : List Nat) (xs : List V), vs = [.ref a, .ref c] ∧ SqB b K H a (f.map vI) ∧ SqB d K H c xs ∧ IsRow f ∧ xs.length = f.length ∧ f.length ≤ 100000 ∧ RetL (doneL .non f xs) H Q
theorem ok_done  (T : Tx K mg) : Gd P w K mg base 3 "done" (sp_done K) := by
  have G_need_row := ok_need_row (P := P) (w := w) (base := base) T
  refine gd_of (ps := ["row", "things"]) T.g_done T.d_done (fun _ _ _ _ _ _ us hl => match us, hl with | [_, _], _ => rfl) fun fd F => ?_
  refine ok_of F sc_done (fun vs H Q E h => ?_) fun X H vs Q E hX hr tk po h => ?_
  · obtain ⟨a, c, b, d, f, xs, rfl, hs, ht, hf, hl, hz, q⟩ := h
    rfl
  · obtain ⟨cdv, A, outer, s, rfl⟩ := hX
    obtain ⟨a, c, b, d, f, xs, rfl, hs, ht, hf, hl, hz, q⟩ := h
    refine ⟨_, (pss_cons (ps_expr (pe_cr G_need_row (hr.mono (by decide)) (fun σ => passAt tk σ) (pa_cons (pv 0) pa_nil)))
      (pss_cons (ps_if (pt_cmpR op_ne (pe_callB call_len_seq (by rfl) T.z_len (by decide +kernel) (pa_cons (pv 1) pa_nil)) (pe_callB call_len_seq (by rfl) T.z_len (by decide +kernel) (pa_cons (pv 0) pa_nil)) (nomark _)) (pss_one ps_never) pss_nil)
      (pss_one (ps_ret (pe_lc (own := [("part", 2)]) rfl sc_done.nd (pi_seq (pv 0)) (blkOk_by (N := ["row", "things", "part"]) (sc := defScope s_done) (own := [("part", 2)]) (by decide +kernel)) (fun _ _ _ _ _ => (pg_name (i := 2) sc_done.nd rfl (Or.inl rfl))) (fun _ _ _ _ _ => pts_nil) (fun _ _ _ _ _ => (pe_ix (ix_seqK (K := K) rfl) (pv 1) (pv 2) (fun _ _ => rfl)))))))), ?_⟩
    clear F hr tk po
    walk_at "rd"
    refine ⟨a, b, f, rfl, hs, hf, hz, fun H1 s1 => ?_⟩
    have hs1 := Same.sqb s1 hs
    have ht1 := Same.sqb s1 ht
    walk_at "rd"
    refine ite_f (by simp [hl]) ?_
    walk_at "rd"
    refine ⟨a, b, f.map vI, rfl, hs1, fun J wk D hD => ?_⟩
    refine lc_map wk (doneL .non f xs) (by simp [doneL_len]) hD (fun H' s3 => Same.sqb s3 hs1) ?_ ?_
    · rintro i x H' _ hi s3 pv ⟨rfl, ex⟩
      rw [List.length_map] at hi
      rw [List.getElem?_map] at ex
      obtain ⟨j, hj, rfl⟩ := Option.map_eq_some_iff.mp ex
      have jlt : j < xs.length := by rw [hl]; exact hf.lt j (List.mem_of_getElem? hj)
      refine ⟨rfl, yes_if ?_⟩
      refine ⟨_, rfl, _, rfl, rix (Same.sqb s3 ht1) rfl (List.getElem?_eq_getElem jlt) (pvM_turn hD (by rw [doneL_len]; omega) pv (.refl _) ?_)⟩
      exact doneL_at hj jlt
    · intro H' s3 e3
      exact q D H' (s1.trans s3) (Same.free s1 hD) e3
def sp__law_after (K : PySem.W.Frag) : Sp := fun vs H Q _ => ∃ (a c : Addr) (b d : Bool) (f : List Nat) (xs : List V), vs = [.ref a, .ref c] ∧ SqB b K H a (f.map vI) ∧ SqB d K H c xs ∧ (∀ x ∈ f, x < xs.length) ∧ f.length ≤ 100000 ∧ RetL (doneL .non f xs) H Q
theorem ok__law_after  (T : Tx K mg) : Gd P w K mg base 1 "_law_after" (sp__law_after K) := by
  refine gd_of (ps := ["row", "things"]) T.g__law_after T.d__law_after (fun _ _ _ _ _ _ us hl => match us, hl with | [_, _], _ => rfl) fun fd F => ?_
  refine ok_of F sc__law_after (fun vs H Q E h => ?_) fun X H vs Q E hX hr tk po h => ?_
  · obtain ⟨a, c, b, d, f, xs, rfl, hs, ht, hf, hz, q⟩ := h
    rfl
  · obtain ⟨cdv, A, outer, s, rfl⟩ := hX
    obtain ⟨a, c, b, d, f, xs, rfl, hs, ht, hf, hz, q⟩ := h
    refine ⟨_, (pss_one (ps_ret (pe_lc (own := [("part", 2)]) rfl sc__law_after.nd (pi_seq (pv 0)) (blkOk_by (N := ["row", "things", "part"]) (sc := defScope s__law_after) (own := [("part", 2)]) (by decide +kernel)) (fun _ _ _ _ _ => (pg_name (i := 2) sc__law_after.nd rfl (Or.inl rfl))) (fun _ _ _ _ _ => pts_nil) (fun _ _ _ _ _ => (pe_ix (ix_seqK (K := K) rfl) (pv 1) (pv 2) (fun _ _ => rfl)))))), ?_⟩
    clear F hr tk po
    walk_at "rd"
    refine ⟨a, b, f.map vI, rfl, hs, fun J wk D hD => ?_⟩
    refine lc_map wk (doneL .non f xs) (by simp [doneL_len]) hD (fun H' s3 => Same.sqb s3 hs) ?_ ?_
    · rintro i x H' _ hi s3 pv ⟨rfl, ex⟩
      rw [List.length_map] at hi
      rw [List.getElem?_map] at ex
      obtain ⟨j, hj, rfl⟩ := Option.map_eq_some_iff.mp ex
      have jlt : j < xs.length := hf j (List.mem_of_getElem? hj)
      refine ⟨rfl, yes_if ?_⟩
      refine ⟨_, rfl, _, rfl, rix (Same.sqb s3 ht) rfl (List.getElem?_eq_getElem jlt) (pvM_turn hD (by rw [doneL_len]; omega) pv (.refl _) ?_)⟩
      exact doneL_at hj jlt
    · intro H' s3 e3
      exact q D H' s3 hD e3

end
end EV

namespace EV
open PySem PySem.Spec PyProof.Rows L2
open He (ga)
local macro_rules | `(tactic| walk_at "r1") => `(tactic| first | refine ⟨_, rfl, ?_⟩ | refine ⟨_, _, rfl, rfl, ?_⟩ | refine Or.inl ⟨_, rfl, ?_⟩ | refine ⟨_, _, rfl, Or.inl (by assumption), ?_⟩ | refine ⟨_, _, rfl, Or.inr (by assumption), ?_⟩ | refine ⟨_, _, rfl, Or.inl (SqL.of (by assumption)), ?_⟩ | refine ⟨_, _, rfl, SqB.or (by assumption), ?_⟩ | refine ⟨_, _, rfl, ?_⟩ | refine And.intro (Or.inl ⟨rfl, _, SqL.of (by assumption)⟩) ?_ | refine And.intro (rfl : scal _ _ = true) ?_ | refine And.intro (by assumption) ?_ | refine And.intro (mul_l (by omega) (by omega)) ?_ | refine And.intro (mul_r (by omega) (by omega)) ?_ | refine And.intro (by omega) ?_)
local macro_rules | `(tactic| walk_at "rp") => `(tactic| first | walk_at "r1" | refine ⟨_, _, rfl, pen_left (by assumption), ?_⟩ | refine ⟨_, _, rfl, pen_at (by assumption), ?_⟩ | refine ⟨_, _, rfl, pen_cells (by assumption), ?_⟩ | refine ⟨_, _, rfl, put_at (by assumption), ?_⟩ | refine ⟨_, _, rfl, put_left (by assumption), ?_⟩)
local macro_rules | `(tactic| walk_at "rd") => `(tactic| repeat walk_at "r1")
local macro_rules | `(tactic| walk_at "rdp") => `(tactic| repeat walk_at "rp")
section
variable {P : Program} {w : World} {K : PySem.W.Frag} {mg : Str → Option Value} {base : Heap}
def sp_law (K : PySem.W.Frag) : Sp := fun vs H Q _ => ∃ (a : Addr) (ns : List Int), vs = [.ref a] ∧ SqL K H a (ns.map V.int) ∧ ∀ H', Q (.bl true) H'
theorem fn_law (T : Tx K mg) : ∀ fd, FunD K "law" "law" (defArgs s_law) (defBody s_law) (defScope s_law) [] [] (ga K "law") fd → FnOk P w K mg base (L2.CX P w) 4 (ga K "law") fd ["script"] (sp_law K) := by
  have G__law_after := ok__law_after (P := P) (w := w) (base := base) T
  have G__law_draw := ok__law_draw (P := P) (w := w) (base := base) T
  have G__law_pen := ok__law_pen (P := P) (w := w) (base := base) T
  have G__law_pick := ok__law_pick (P := P) (w := w) (base := base) T
  have G__law_row := ok__law_row (P := P) (w := w) (base := base) T
  have G_done := ok_done (P := P) (w := w) (base := base) T
  have G_joined := ok_joined (P := P) (w := w) (base := base) T
  have G_nothing := ok_nothing (P := P) (w := w) (base := base) T
  have G_undone := ok_undone (P := P) (w := w) (base := base) T
  intro fd F
  refine ok_of F sc_law (fun vs H Q E h => ?_) fun X H vs Q E hX hr tk po h => ?_
  · obtain ⟨a, ns, rfl, hs, q⟩ := h
    rfl
  · obtain ⟨cdv, A, outer, s, rfl⟩ := hX
    obtain ⟨a, ns, rfl, hs, q⟩ := h
    refine ⟨_, (pss_cons (ps_set (i := 1) sc_law.nd rfl (Or.inl rfl) (pe_cr G__law_pen (hr.mono (by decide)) (fun σ => passAt tk σ) (pa_cons (pv 0) pa_nil)))
      (pss_cons (ps_for po rfl (pi_range1 (by rfl) T.z_range (pa_cons pe_int pa_nil)) (pg_name (i := 2) sc_law.nd rfl (Or.inl rfl)) (pss_cons (ps_set (i := 3) sc_law.nd rfl (Or.inl rfl) (pe_cr G__law_pick (hr.mono (by decide)) (fun σ => passAt tk σ) (pa_cons (pv 1) (pa_cons (pe_lst (pa_cons (pe_cr G__law_draw (hr.mono (by decide)) (fun σ => passAt tk σ) (pa_cons (pv 1) (pa_cons pe_int pa_nil))) (pa_cons (pe_cr G__law_draw (hr.mono (by decide)) (fun σ => passAt tk σ) (pa_cons (pv 1) (pa_cons pe_int pa_nil))) (pa_cons (pe_cr G__law_draw (hr.mono (by decide)) (fun σ => passAt tk σ) (pa_cons (pv 1) (pa_cons pe_int pa_nil))) pa_nil)))) pa_nil))))
      (Evl.pss_cut (ps_if (PW.pt (pw_and (pt_cmpR op_eq (pv 2) pe_int (nomark _)) (pw_and1 (pt_cmpR op_eq (pe_cr G__law_draw (hr.mono (by decide)) (fun σ => passAt tk σ) (pa_cons (pv 1) (pa_cons pe_int pa_nil))) pe_int (nomark _))))) (pss_one (ps_set (i := 3) sc_law.nd rfl (Or.inl rfl) pe_int)) pss_nil)
      (pss_cons (ps_par (i := 4) (j := 5) (by rfl) sc_law.nd rfl rfl (by decide) rfl rfl (pa_cons (pe_cr G__law_row (hr.mono (by decide)) (fun σ => passAt tk σ) (pa_cons (pv 1) (pa_cons (pv 3) pa_nil))) (pa_cons (pe_cr G__law_row (hr.mono (by decide)) (fun σ => passAt tk σ) (pa_cons (pv 1) (pa_cons (pv 3) pa_nil))) pa_nil)) (by rfl))
      (pss_cons (ps_setLc (i := 6) (own := [("k", 12)]) rfl sc_law.nd rfl rfl (sw_true rfl rfl rfl (by decide +kernel)) (pi_seq (pe_cr G__law_row (hr.mono (by decide)) (fun σ => passAt tk σ) (pa_cons (pv 1) (pa_cons (pv 3) pa_nil)))) (blkOk_by (N := ["script", "pen", "lap", "size", "one", "other", "things", "first", "second", "kept", "told", "back", "k", "part"]) (sc := defScope s_law) (own := [("k", 12)]) (by decide +kernel)) (fun _ _ _ _ _ => (pg_name (i := 12) sc_law.nd rfl (Or.inl rfl))) (fun _ _ _ _ _ => pts_nil) (fun _ _ _ _ _ => (pe_op op_sub (pe_op op_mul pe_int (pv 12)) pe_int)))
      (pss_cons (ps_asg (pe_tup (pa_cons (pe_callTy call_list_of (by rfl) T.z_list (by decide +kernel) (pa_cons (pv 4) pa_nil)) (pa_cons (pe_callTy call_list_of (by rfl) T.z_list (by decide +kernel) (pa_cons (pv 5) pa_nil)) (pa_cons (pe_callTy call_list_of (by rfl) T.z_list (by decide +kernel) (pa_cons (pv 6) pa_nil)) pa_nil)))) (pg_tup rfl (pgs_cons (pg_name (i := 7) sc_law.nd rfl (Or.inr rfl)) (pgs_cons (pg_name (i := 8) sc_law.nd rfl (Or.inl rfl)) (pgs_cons (pg_name (i := 9) sc_law.nd rfl (Or.inl rfl)) pgs_nil)))))
      (pss_cons (ps_set (i := 10) sc_law.nd rfl (Or.inl rfl) (pe_cr G_joined (hr.mono (by decide)) (fun σ => passAt tk σ) (pa_cons (pv 4) (pa_cons (pv 5) pa_nil))))
      (pss_cons (ps_if (pt_cmpR (op_neD hr.units) (pv 10) (pe_lc (own := [("part", 13)]) rfl sc_law.nd (pi_seq (pv 8)) (blkOk_by (N := ["script", "pen", "lap", "size", "one", "other", "things", "first", "second", "kept", "told", "back", "k", "part"]) (sc := defScope s_law) (own := [("part", 13)]) (by decide +kernel)) (fun _ _ _ _ _ => (pg_name (i := 13) sc_law.nd rfl (Or.inl rfl))) (fun _ _ _ _ _ => pts_nil) (fun _ _ _ _ _ => (pe_ix (ix_seqK (K := K) rfl) (pv 7) (pv 13) (fun _ _ => rfl)))) (nomark _)) (pss_one (ps_ret pe_bl)) pss_nil)
      (pss_cons (ps_if (pt_cmpR (op_neD hr.units) (pe_cr G_done (hr.mono (by decide)) (fun σ => passAt tk σ) (pa_cons (pv 10) (pa_cons (pv 6) pa_nil))) (pe_cr G__law_after (hr.mono (by decide)) (fun σ => passAt tk σ) (pa_cons (pv 8) (pa_cons (pe_cr G__law_after (hr.mono (by decide)) (fun σ => passAt tk σ) (pa_cons (pv 7) (pa_cons (pv 9) pa_nil))) pa_nil))) (nomark _)) (pss_one (ps_ret pe_bl)) pss_nil)
      (pss_cons (ps_if (PW.pt (pw_or (pt_cmpR (op_neD hr.units) (pe_cr G_done (hr.mono (by decide)) (fun σ => passAt tk σ) (pa_cons (pe_callTy call_tuple_of (by rfl) T.z_tuple (by decide +kernel) (pa_cons (pv 4) pa_nil)) (pa_cons (pv 6) pa_nil))) (pe_cr G__law_after (hr.mono (by decide)) (fun σ => passAt tk σ) (pa_cons (pv 7) (pa_cons (pv 9) pa_nil))) (nomark _)) (pw_or1 (pt_cmpR (op_neD hr.units) (pe_cr G_joined (hr.mono (by decide)) (fun σ => passAt tk σ) (pa_cons (pe_callTy call_tuple_of (by rfl) T.z_tuple (by decide +kernel) (pa_cons (pv 4) pa_nil)) (pa_cons (pe_callTy call_tuple_of (by rfl) T.z_tuple (by decide +kernel) (pa_cons (pv 5) pa_nil)) pa_nil))) (pv 10) (nomark _))))) (pss_one (ps_ret pe_bl)) pss_nil)
      (pss_cons (ps_set (i := 11) sc_law.nd rfl (Or.inl rfl) (pe_cr G_undone (hr.mono (by decide)) (fun σ => passAt tk σ) (pa_cons (pv 4) pa_nil)))
      (pss_cons (ps_if (PW.pt (pw_or (pt_cmpR (op_neD hr.units) (pe_cr G_done (hr.mono (by decide)) (fun σ => passAt tk σ) (pa_cons (pv 11) (pa_cons (pe_cr G_done (hr.mono (by decide)) (fun σ => passAt tk σ) (pa_cons (pv 4) (pa_cons (pv 6) pa_nil))) pa_nil))) (pv 9) (nomark _)) (pw_or (pt_cmpR (op_neD hr.units) (pe_cr G_done (hr.mono (by decide)) (fun σ => passAt tk σ) (pa_cons (pv 4) (pa_cons (pe_cr G_done (hr.mono (by decide)) (fun σ => passAt tk σ) (pa_cons (pv 11) (pa_cons (pv 6) pa_nil))) pa_nil))) (pv 9) (nomark _)) (pw_or1 (pt_cmpR op_ne (pe_callB call_len_seq (by rfl) T.z_len (by decide +kernel) (pa_cons (pv 11) pa_nil)) (pv 3) (nomark _)))))) (pss_one (ps_ret pe_bl)) pss_nil)
      (pss_cons (ps_if (PW.pt (pw_or (pt_cmpR (op_neD hr.units) (pe_lc (own := [("part", 13)]) rfl sc_law.nd (pi_seq (pv 11)) (blkOk_by (N := ["script", "pen", "lap", "size", "one", "other", "things", "first", "second", "kept", "told", "back", "k", "part"]) (sc := defScope s_law) (own := [("part", 13)]) (by decide +kernel)) (fun _ _ _ _ _ => (pg_name (i := 13) sc_law.nd rfl (Or.inl rfl))) (fun _ _ _ _ _ => pts_nil) (fun _ _ _ _ _ => (pe_ix (ix_seqK (K := K) rfl) (pv 7) (pv 13) (fun _ _ => rfl)))) (pe_listRg rfl (by rfl) T.z_list (prg_1 (by rfl) T.z_range (pv 3))) (nomark _)) (pw_or1 (pt_cmpR (op_neD hr.units) (pe_cr G_nothing (hr.mono (by decide)) (fun σ => passAt tk σ) (pa_cons (pv 3) pa_nil)) (pe_listRg rfl (by rfl) T.z_list (prg_1 (by rfl) T.z_range (pv 3))) (nomark _))))) (pss_one (ps_ret pe_bl)) pss_nil)
      (pss_cons (ps_if (PW.pt (pw_or (pt_cmpR (op_neD hr.units) (pv 4) (pv 7) (nomark _)) (pw_or (pt_cmpR (op_neD hr.units) (pv 5) (pv 8) (nomark _)) (pw_or1 (pt_cmpR (op_neD hr.units) (pv 6) (pv 9) (nomark _)))))) (pss_one (ps_ret pe_bl)) pss_nil)
      (pss_cons (ps_expr (pe_bm PySem.F.plainAttrs_list PySem.F.slot_list_append PySem.F.type_list_append mt_append (pv 10) (pa_cons pe_int pa_nil)))
      (pss_cons (ps_expr (pe_bm PySem.F.plainAttrs_list PySem.F.slot_list_append PySem.F.type_list_append mt_append (pv 11) (pa_cons pe_int pa_nil)))
      (pss_cons (ps_if (PW.pt (pw_or (pt_cmpR (op_neD hr.units) (pe_cr G_joined (hr.mono (by decide)) (fun σ => passAt tk σ) (pa_cons (pv 4) (pa_cons (pv 5) pa_nil))) (pe_lc (own := [("part", 13)]) rfl sc_law.nd (pi_seq (pv 8)) (blkOk_by (N := ["script", "pen", "lap", "size", "one", "other", "things", "first", "second", "kept", "told", "back", "k", "part"]) (sc := defScope s_law) (own := [("part", 13)]) (by decide +kernel)) (fun _ _ _ _ _ => (pg_name (i := 13) sc_law.nd rfl (Or.inl rfl))) (fun _ _ _ _ _ => pts_nil) (fun _ _ _ _ _ => (pe_ix (ix_seqK (K := K) rfl) (pv 7) (pv 13) (fun _ _ => rfl)))) (nomark _)) (pw_or1 (pt_cmpR op_ne (pe_callB call_len_seq (by rfl) T.z_len (by decide +kernel) (pa_cons (pe_cr G_undone (hr.mono (by decide)) (fun σ => passAt tk σ) (pa_cons (pv 4) pa_nil)) pa_nil)) (pv 3) (nomark _))))) (pss_one (ps_ret pe_bl)) pss_nil)
      (pss_cons (ps_expr (pe_bm PySem.F.plainAttrs_list PySem.F.slot_list_append PySem.F.type_list_append mt_append (pv 4) (pa_cons (pv 3) pa_nil)))
      (pss_one (ps_if (pt_cmpR (op_neD hr.units) (pe_cr G_done (hr.mono (by decide)) (fun σ => passAt tk σ) (pa_cons (pv 4) (pa_cons (pe_op op_cat (pv 6) (pe_lst (pa_cons pe_int pa_nil))) pa_nil))) (pe_op op_cat (pe_cr G__law_after (hr.mono (by decide)) (fun σ => passAt tk σ) (pa_cons (pv 7) (pa_cons (pv 9) pa_nil))) (pe_lst (pa_cons pe_int pa_nil))) (nomark _)) (pss_one (ps_ret pe_bl)) pss_nil))))))))))))))))))))
      (pss_one (ps_ret pe_bl)))), ?_⟩
    clear F hr tk po
    walk_at "rd"
    refine ⟨a, ns, rfl, hs, fun p H0 _ _ hp => ?_⟩
    obtain ⟨c, _, pn0⟩ := hp
    walk_at "rd"
    refine for_range (lo := 0) (fun i σ' H' => ∃ v2 v3 v4 v5 v6 v7 v8 v9 v10 v11 : Option V, σ' = [some (.ref a), some (.ref p), v2, v3, v4, v5, v6, v7, v8, v9, v10, v11, none, none] ∧ Pen H' p c (4000 * i)) ?_ ?_ ?_
    · exact ⟨none, none, none, none, none, none, none, none, none, none, rfl, pn0⟩
    · rintro i _ H1 hi ⟨v2, v3, v4, v5, v6, v7, v8, v9, v10, v11, rfl, pn1⟩
      have hi6 : i < 6 := by omega
      refine ⟨_, rfl, _, rfl, p, c, _, _, rfl, by omega, by omega, pn1, by omega, fun d1 H2 a1 b1 k1 pn2 => ?_⟩
      refine ⟨_, rfl, p, c, _, _, rfl, by omega, by omega, pn2, by omega, fun d2 H3 a2 b2 k2 pn3 => ?_⟩
      refine ⟨_, rfl, p, c, _, _, rfl, by omega, by omega, pn3, by omega, fun d3 H4 a3 b3 k3 pn4 => ?_⟩
      refine ⟨Nat.le_trans (m := 3) (Nat.le_refl 3) (by decide), fun o ho => ?_⟩
      refine ⟨p, c, o, true, _, [.int d1, .int d2, .int d3], rfl, SqL.of upd_same, by simp, by simp, pn4.put (pn4.ne ho), by omega, fun j x H5 hx k5 pn5 => ?_⟩
      obtain ⟨s, rfl, hs1⟩ : ∃ s : Nat, x = .int (s : Int) ∧ s ≤ 1000 := by
        match j, hx with
        | 0, h => exact ⟨d1.toNat, by cases h; congr 1; omega, by omega⟩
        | 1, h => exact ⟨d2.toNat, by cases h; congr 1; omega, by omega⟩
        | 2, h => exact ⟨d3.toNat, by cases h; congr 1; omega, by omega⟩
        | n + 3, h => cases h
      refine ⟨fun σ' H' => ∃ s : Nat, s ≤ 1000 ∧ σ' = [some (.ref a), some (.ref p), some (.int (0 + (i : Int))), some (.int (s : Int)), v4, v5, v6, v7, v8, v9, v10, v11, none, none] ∧ Pen H' p c (4000 * i + 5), ?_, ?_⟩
      · walk_at "rd"
        refine ite2 (fun e => ?_) fun e => ⟨s, hs1, rfl, pn5.mono (by omega)⟩
        walk_at "rd"
        refine ⟨p, c, _, _, rfl, by omega, by omega, pn5, by omega, fun d4 H6 a4 b4 k6 pn6 => ?_⟩
        walk_at "rd"
        refine ite2 (fun e => ?_) fun e => ⟨s, hs1, rfl, pn6.mono (by omega)⟩
        exact ⟨1000, by omega, rfl, pn6.mono (by omega)⟩
      · rintro _ H6 ⟨s, hs1, rfl, pn6⟩
        dsimp only [cxOf]
        walk_at "rd"
        refine ⟨p, c, s, _, rfl, by omega, pn6, by omega, fun f o1 H7 hf lf k7 n7 e7 pn7 => ?_⟩
        refine ⟨_, rfl, _, rfl, p, c, s, _, rfl, by omega, pn7, by omega, fun g o2 H8 hg lg k8 n8 e8 pn8 => ?_⟩
        have F1 : Facts [(o1, .lst (f.map vI))] H7 := Facts.nil.more .nil n7 e7
        have F2 : Facts [(o2, .lst (g.map vI)), (o1, .lst (f.map vI))] H8 := F1.more (F1.keep k8 rfl) n8 e8
        walk_at "rd"
        refine ⟨p, c, s, _, rfl, by omega, pn8, by omega, fun h o3 H9 hh lh k9 n9 e9 pn9 => ?_⟩
        have F3 := F2.keep k9 rfl
        refine ⟨o3, true, h.map vI, rfl, SqL.of e9, fun J wk D hD => ?_⟩
        refine lc_map wk (h.map fun k : Nat => V.int (7 * (k : Int) - 3)) (by simp) hD (fun H' s => SqL.of (s _ _ e9)) ?_ fun H10 s10 e10 => ?_
        · rintro i x H' _ hi s3 pv ⟨rfl, ex⟩
          rw [List.length_map] at hi
          rw [List.getElem?_map] at ex
          obtain ⟨j, hj, rfl⟩ := Option.map_eq_some_iff.mp ex
          have jlt : j < h.length := hh.lt j (List.mem_of_getElem? hj)
          refine ⟨rfl, yes_if ?_⟩
          walk_at "rd"
          exact pvM_turn hD (by simp; omega) pv (.refl _) (by rw [List.getElem?_map, hj]; rfl)
        have pn10 := pn9.same s10
        generalize ht : (h.map fun k : Nat => V.int (7 * (k : Int) - 3)) = ts at e10
        have it : IntL ts := .of fun x hx => by
          rw [← ht] at hx
          obtain ⟨k, _, e⟩ := List.mem_map.mp hx
          exact ⟨_, e.symm⟩
        have lt : ts.length = s := by rw [← ht, List.length_map, lh]
        clear ht wk
        have F4 := F3.cons s10 hD e10
        refine ⟨_, rfl, o1, f.map vI, rfl, .inl (SqL.of (F4.get 2 rfl)), fun l1 hl1 => ?_⟩
        have F5 := F4.new (o := .lst (f.map vI)) hl1
        have pn11 := pn10.same (Same.new (o := .lst (f.map vI)) hl1)
        refine ⟨_, rfl, o2, g.map vI, rfl, .inl (SqL.of (F5.get 2 rfl)), fun l2 hl2 => ?_⟩
        have F6 := F5.new (o := .lst (g.map vI)) hl2
        have pn12 := pn11.same (Same.new (o := .lst (g.map vI)) hl2)
        refine ⟨_, rfl, D, ts, rfl, .inl (SqL.of (F6.get 2 rfl)), fun l3 hl3 => ?_⟩
        have F7 := F6.new (o := .lst ts) hl3
        have pn13 := pn12.same (Same.new (o := .lst ts) hl3)
        refine ⟨Nat.le_trans (m := 3) (Nat.le_refl 3) (by decide), fun T hT => ?_⟩
        have F8 := F7.same (Same.new (o := .tup [.ref l1, .ref l2, .ref l3]) hT)
        have pn14 := pn13.same (Same.new (o := .tup [.ref l1, .ref l2, .ref l3]) hT)
        refine ⟨T, _, rfl, SqT.of upd_same, rfl, _, _, rfl, _, _, rfl, _, _, rfl, rfl, ?_⟩
        have hjn : IsRow (joinL f g) := isRow_join hf hg (by omega)
        have ltf : ∀ x ∈ g, x < f.length := fun x hx => by have := hg.lt x hx; omega
        refine ⟨_, rfl, _, rfl, o1, o2, true, true, f, g, rfl, SqL.of (F8.get 5 rfl), SqL.of (F8.get 4 rfl), hf, hg, by omega, by omega, fun tl H15 s15 n15 e15 => ?_⟩
        have F9 := F8.cons s15 n15 e15
        have pn15 := pn14.same s15
        have np1 := pn6.ne n7
        have npt := pn14.ne n15
        clear F1 F2 F3 F4 F5 F6 F7 F8 pn1 pn2 pn3 pn4 pn5 pn6 pn7 pn8 pn9 pn10 pn11 pn12 pn13 pn14
        -- told != [first[part] for part in second]
        refine ⟨_, rfl, _, rfl, l2, true, g.map vI, rfl, SqL.of (F9.get 2 rfl), fun J wk D2 hD2 => ?_⟩
        refine lc_index wk (a := l1) (b := true) (xs := f.map vI) hD2 (fun H' s => SqL.of ((F9.same s).get 2 rfl)) (SqL.of (F9.get 3 rfl)) (by simpa using ltf) (by omega) (fun _ => rfl) (fun _ => rfl) (fun _ => rfl) fun H16 s16 e16 => ?_
        have F10 := F9.same s16
        have pn16 := pn15.same s16
        refine ne_same (SqL.of (F10.get 0 rfl)) (SqL.of e16) (doneL_join ltf).symm (intL_vI _) ⟨_, rfl, iteF ?_⟩
        -- done(told, things) != _law_after(second, _law_after(first, kept))
        refine ⟨_, rfl, _, rfl, tl, D, true, true, joinL f g, ts, rfl, SqL.of (F10.get 0 rfl), SqL.of (F10.get 4 rfl), hjn, by rw [joinL_len]; omega, by rw [joinL_len]; omega, fun r1 H17 s17 n17 e17 => ?_⟩
        have F11 := F10.same s17
        have ltt : ∀ x ∈ f, x < ts.length := fun x hx => by have := hf.lt x hx; omega
        have lfk : (doneL V.non f ts).length = s := by rw [doneL_len]; omega
        have ltd : ∀ x ∈ g, x < (doneL V.non f ts).length := fun x hx => by have := hg.lt x hx; omega
        refine ⟨_, rfl, _, rfl, _, rfl, l1, l3, true, true, f, ts, rfl, SqL.of (F11.get 3 rfl), SqL.of (F11.get 1 rfl), ltt, by omega, fun r2 H18 s18 n18 e18 => ?_⟩
        have F12 := F11.same s18
        refine ⟨l2, r2, true, true, g, doneL .non f ts, rfl, SqL.of (F12.get 2 rfl), SqL.of e18, ltd, by omega, fun r3 H19 s19 n19 e19 => ?_⟩
        have F13 := F12.same s19
        have ltj : ∀ x ∈ joinL f g, x < ts.length := fun x hx => by
          have := hjn.lt x hx
          rw [joinL_len] at this
          omega
        refine ne_same (SqL.of ((s18.trans s19) _ _ e17)) (SqL.of e19) (done_join _ hg (by omega) ts) (it.done ltj) ⟨_, rfl, iteF ?_⟩
        have pn19 := pn16.same (s17.trans (s18.trans s19))
        clear F9 F10 F11 F12 e15 e16 e17 e18 e19 s15 s16 s17 s18 s19
        -- done(tuple(one), things) != _law_after(first, kept)
        refine ⟨_, rfl, o1, f.map vI, rfl, .inl ⟨SqL.of (F13.get 6 rfl), fun u1 hu1 => ?_⟩⟩
        have F14 := F13.same (Same.new (o := .tup (f.map vI)) hu1)
        have pn20 := pn19.same (Same.new (o := .tup (f.map vI)) hu1)
        refine ⟨_, rfl, u1, D, false, true, f, ts, rfl, SqT.of upd_same, SqL.of (F14.get 4 rfl), hf, by omega, by omega, fun ra Ha sa na ea => ?_⟩
        have F15 := F14.same sa
        refine ⟨_, rfl, _, rfl, l1, l3, true, true, f, ts, rfl, SqL.of (F15.get 3 rfl), SqL.of (F15.get 1 rfl), ltt, by omega, fun rb Hb sb nb eb => ?_⟩
        have F16 := F15.same sb
        have pn21 := pn20.same (sa.trans sb)
        refine ne_same (SqL.of (sb _ _ ea)) (SqL.of eb) rfl (it.done ltt) ⟨_, rfl, iteF ?_⟩
        -- joined(tuple(one), tuple(other)) != told
        refine ⟨_, rfl, o1, f.map vI, rfl, .inl ⟨SqL.of (F16.get 6 rfl), fun u2 hu2 => ?_⟩⟩
        have F17 := F16.same (Same.new (o := .tup (f.map vI)) hu2)
        have pn22 := pn21.same (Same.new (o := .tup (f.map vI)) hu2)
        refine ⟨_, rfl, o2, g.map vI, rfl, .inl ⟨SqL.of (F17.get 5 rfl), fun u3 hu3 => ?_⟩⟩
        have F18 := F17.same (Same.new (o := .tup (g.map vI)) hu3)
        have pn23 := pn22.same (Same.new (o := .tup (g.map vI)) hu3)
        refine ⟨u2, u3, false, false, f, g, rfl, SqT.of (Same.new hu3 _ _ upd_same), SqT.of upd_same, hf, hg, by omega, by omega, fun rc Hc sc nc ec => ?_⟩
        have F19 := F18.same sc
        have pn24 := pn23.same sc
        refine ⟨_, rfl, ne_same (SqL.of ec) (SqL.of (F19.get 0 rfl)) rfl (intL_vI _) ⟨_, rfl, iteF ?_⟩⟩
        clear F13 F14 F15 F16 F17 F18 pn19 pn20 pn21 pn22 pn23 sa sb sc ea eb ec
        -- back
        refine ⟨_, rfl, o1, true, f, rfl, SqL.of (F19.get 6 rfl), hf, by omega, fun bk H20 s20 n20 e20 => ?_⟩
        have npb := pn24.ne n20
        have F20 := F19.cons s20 n20 e20
        have pn25 := pn24.same s20
        have hiv := isRow_inv hf
        have liv := invL_len f
        have liv2 : (doneL V.non f ts).length = (invL f).length := by omega
        have liv3 : ∀ x ∈ invL f, x < ts.length := fun x hx => by have := hiv.lt x hx; omega
        refine ⟨_, rfl, _, rfl, _, rfl, o1, D, true, true, f, ts, rfl, SqL.of (F20.get 7 rfl), SqL.of (F20.get 5 rfl), hf, by omega, by omega, fun ra Ha sa na ea => ?_⟩
        have F21 := F20.same sa
        refine ⟨bk, ra, true, true, invL f, doneL .non f ts, rfl, SqL.of (F21.get 0 rfl), SqL.of ea, hiv, liv2, by omega, fun rb Hb sb nb eb => ?_⟩
        have F22 := F21.same sb
        have pn26 := pn25.same (sa.trans sb)
        refine ⟨_, rfl, ne_sameR (SqL.of eb) (SqL.of (F22.get 2 rfl)) (done_back V.non hf (by omega)) it ⟨_, rfl, iteF ?_⟩⟩
        have liv4 : (doneL V.non (invL f) ts).length = f.length := by rw [doneL_len]; omega
        refine ⟨_, rfl, _, rfl, _, rfl, bk, D, true, true, invL f, ts, rfl, SqL.of (F22.get 0 rfl), SqL.of (F22.get 5 rfl), hiv, by omega, by omega, fun rc Hc sc nc ec => ?_⟩
        have F23 := F22.same sc
        refine ⟨o1, rc, true, true, f, doneL .non (invL f) ts, rfl, SqL.of (F23.get 7 rfl), SqL.of ec, hf, liv4, by omega, fun rd Hd sd nd ed => ?_⟩
        have F24 := F23.same sd
        have pn27 := pn26.same (sc.trans sd)
        refine ⟨_, rfl, ne_sameR (SqL.of ed) (SqL.of (F24.get 2 rfl)) (done_on V.non hf (by omega)) it ⟨_, rfl, iteF ?_⟩⟩
        refine ⟨_, rfl, bk, _, rfl, .inl (SqL.of (F24.get 0 rfl)), _, rfl, rfl, _, rfl, ite_f (by simp [invL_len, lf]) ?_⟩
        clear F19 F20 F21 F22 F23 pn24 pn25 pn26 sa sb sc sd ea eb ec ed
        -- [first[part] for part in back] != list(range(size))
        have rgx : doneL V.non (invL f) (f.map vI) = (List.range s).map vI := by
          rw [doneL_join (fun x hx => by have := hiv.lt x hx; omega), join_inv hf, lf]
        refine ⟨_, rfl, bk, true, (invL f).map vI, rfl, SqL.of (F24.get 0 rfl), fun J wk D3 hD3 => ?_⟩
        refine lc_index wk (a := l1) (b := true) (xs := f.map vI) hD3 (fun H' s => SqL.of ((F24.same s).get 0 rfl)) (SqL.of (F24.get 4 rfl)) (fun x hx => by have := hiv.lt x hx; rw [List.length_map]; omega) (by omega) (fun _ => rfl) (fun _ => rfl) (fun _ => rfl) fun H25 s25 e25 => ?_
        have F25 := F24.same s25
        have rgo : RgOk 0 (s : Int) := by unfold RgOk; omega
        refine ⟨_, rfl, s, rfl, rgo, fun w1 hw1 => ?_⟩
        rw [rgV_nat]
        have F26 := F25.same (Same.new (o := .lst ((List.range s).map vI)) hw1)
        have pn28 := (pn27.same s25).same (Same.new (o := .lst ((List.range s).map vI)) hw1)
        refine ne_sameR (SqL.of (Same.new hw1 _ _ e25)) (SqL.of upd_same) rgx (intL_vI _) ⟨_, rfl, iteF ?_⟩
        refine ⟨_, rfl, s, rfl, by omega, fun w2 H27 s27 n27 e27 => ?_⟩
        have F27 := F26.same s27
        refine ⟨_, rfl, s, rfl, rgo, fun w3 hw3 => ?_⟩
        rw [rgV_nat]
        have F28 := F27.same (Same.new (o := .lst ((List.range s).map vI)) hw3)
        have pn29 := (pn28.same s27).same (Same.new (o := .lst ((List.range s).map vI)) hw3)
        refine ne_same (SqL.of (Same.new hw3 _ _ e27)) (SqL.of upd_same) rfl (intL_vI _) ⟨_, rfl, iteF ?_⟩
        -- one != first or other != second or things != kept
        refine ⟨_, rfl, _, rfl, ne_same (SqL.of (F28.get 7 rfl)) (SqL.of (F28.get 4 rfl)) rfl (intL_vI _) ⟨_, rfl, iteF ?_⟩⟩
        refine ⟨_, rfl, _, rfl, ne_same (SqL.of (F28.get 6 rfl)) (SqL.of (F28.get 3 rfl)) rfl (intL_vI _) ⟨_, rfl, iteF ?_⟩⟩
        refine ⟨_, rfl, _, rfl, ne_same (SqL.of (F28.get 5 rfl)) (SqL.of (F28.get 2 rfl)) rfl it ⟨_, rfl, iteF ?_⟩⟩
        clear F24 F25 F26 F27 pn27 pn28 s25 s27 e25 e27
        -- told.append(5); back.append(5)
        refine ⟨_, rfl, .inl ⟨rfl, _, SqL.of (F28.get 1 rfl)⟩, tl, _, _, rfl, rfl, F28.get 1 rfl, Nat.lt_of_le_of_lt (m := 100000) (by rw [List.length_map, joinL_len]; omega) (by decide), ?_⟩
        have F29 := F28.set 1 rfl (o' := .lst ((joinL f g).map vI ++ [.int 5]))
        have pn30 := pn29.put npt (o := .lst ((joinL f g).map vI ++ [.int 5]))
        refine ⟨_, rfl, .inl ⟨rfl, _, SqL.of (F29.get 0 rfl)⟩, bk, _, _, rfl, rfl, F29.get 0 rfl, Nat.lt_of_le_of_lt (m := 100000) (by rw [List.length_map]; omega) (by decide), ?_⟩
        have F30 := F29.set 0 rfl (o' := .lst ((invL f).map vI ++ [.int 5]))
        have pn31 := pn30.put npb (o := .lst ((invL f).map vI ++ [.int 5]))
        -- joined(one, other) != [first[part] for part in second] or len(undone(one)) != size
        refine ⟨_, rfl, _, rfl, o1, o2, true, true, f, g, rfl, SqL.of (F30.get 7 rfl), SqL.of (F30.get 6 rfl), hf, hg, by omega, by omega, fun ra Ha sa na ea => ?_⟩
        have F31 := F30.same sa
        refine ⟨_, rfl, l2, true, g.map vI, rfl, SqL.of (F31.get 3 rfl), fun J wk D4 hD4 => ?_⟩
        refine lc_index wk (a := l1) (b := true) (xs := f.map vI) hD4 (fun H' s => SqL.of ((F31.same s).get 3 rfl)) (SqL.of (F31.get 4 rfl)) (by simpa using ltf) (by omega) (fun _ => rfl) (fun _ => rfl) (fun _ => rfl) fun Hb sb eb => ?_
        have F32 := F31.same sb
        have pn32 := pn31.same (sa.trans sb)
        refine ne_same (SqL.of (sb _ _ ea)) (SqL.of eb) (doneL_join ltf).symm (intL_vI _) ⟨_, rfl, iteF ?_⟩
        refine ⟨_, rfl, o1, true, f, rfl, SqL.of (F32.get 7 rfl), hf, by omega, fun rc Hc sc nc ec => ?_⟩
        have F33 := F32.same sc
        have pn33 := pn32.same sc
        refine ⟨rc, _, rfl, .inl (SqL.of ec), _, rfl, rfl, _, rfl, ite_f (by simp [invL_len, lf]) ?_⟩
        clear F28 F29 F30 F31 F32 pn29 pn30 pn31 pn32 sa sb sc ea eb ec
        -- one.append(size)
        refine ⟨_, rfl, .inl ⟨rfl, _, SqL.of (F33.get 7 rfl)⟩, _, rfl, o1, _, _, rfl, rfl, F33.get 7 rfl, Nat.lt_of_le_of_lt (m := 100000) (by rw [List.length_map]; omega) (by decide), ?_⟩
        have F34 := F33.set 7 rfl (o' := .lst (f.map vI ++ [.int (s : Int)]))
        have pn34 := pn33.put np1 (o := .lst (f.map vI ++ [.int (s : Int)]))
        have ef : f.map vI ++ [.int (s : Int)] = (f ++ [f.length]).map vI := by
          rw [List.map_append, lf]
          rfl
        -- done(one, things + [8]) != _law_after(first, kept) + [8]
        refine ⟨_, rfl, _, rfl, Nat.le_trans (m := 1) (Nat.le_refl 1) (by decide), fun b1 hb1 => ?_⟩
        have F35 := F34.same (Same.new (o := .lst [.int 8]) hb1)
        refine ⟨D, b1, ts, [.int 8], rfl, rfl, F35.get 5 rfl, upd_same, Nat.le_trans (m := 100000) (by simp; omega) (by decide), fun b2 hb2 => ?_⟩
        have F36 := F35.same (Same.new (o := .lst (ts ++ [.int 8])) hb2)
        have pn35 := (pn34.same (Same.new (o := .lst [.int 8]) hb1)).same (Same.new (o := .lst (ts ++ [.int 8])) hb2)
        refine ⟨o1, b2, true, true, f ++ [f.length], ts ++ [.int 8], rfl, ef ▸ SqL.of (F36.get 7 rfl), SqL.of upd_same, isRow_snoc hf, by simp; omega, by simp; omega, fun ra Ha sa na ea => ?_⟩
        have F37 := F36.same sa
        refine ⟨_, rfl, _, rfl, l1, l3, true, true, f, ts, rfl, SqL.of (F37.get 4 rfl), SqL.of (F37.get 2 rfl), ltt, by omega, fun rb Hb sb nb eb => ?_⟩
        refine ⟨Nat.le_trans (m := 1) (Nat.le_refl 1) (by decide), fun b3 hb3 => ?_⟩
        refine ⟨rb, b3, _, [.int 8], rfl, rfl, Same.new hb3 _ _ eb, upd_same, Nat.le_trans (m := 100000) (by simp [doneL_len]; omega) (by decide), fun b4 hb4 => ?_⟩
        refine ne_sameR (SqL.of (Same.new hb4 _ _ (Same.new hb3 _ _ (sb _ _ ea)))) (SqL.of upd_same) (done_snoc V.non (V.int 8) hf (by omega)) ((it.done ltt).app (intL_map [8])) ⟨_, rfl, iteF ?_⟩
        have pn36 := (((pn35.same sa).same sb).same (Same.new (o := .lst [.int 8]) hb3)).same (Same.new (o := .lst (doneL .non f ts ++ [.int 8])) hb4)
        exact ⟨_, _, _, _, _, _, _, _, _, _, rfl, pn36.mono (by omega)⟩
    · rintro _ H1 ⟨v2, v3, v4, v5, v6, v7, v8, v9, v10, v11, rfl, pn1⟩
      exact q _

end
end EV

namespace EV
open PySem PySem.Spec PyProof.Rows L2
open He (ga)
local macro_rules | `(tactic| walk_at "r1") => `(tactic| first | refine ⟨_, rfl, ?_⟩ | refine ⟨_, _, rfl, rfl, ?_⟩ | refine Or.inl ⟨_, rfl, ?_⟩ | refine ⟨_, _, rfl, Or.inl (by assumption), ?_⟩ | refine ⟨_, _, rfl, Or.inr (by assumption), ?_⟩ | refine ⟨_, _, rfl, Or.inl (SqL.of (by assumption)), ?_⟩ | refine ⟨_, _, rfl, SqB.or (by assumption), ?_⟩ | refine ⟨_, _, rfl, ?_⟩ | refine And.intro (Or.inl ⟨rfl, _, SqL.of (by assumption)⟩) ?_ | refine And.intro (rfl : scal _ _ = true) ?_ | refine And.intro (by assumption) ?_ | refine And.intro (mul_l (by omega) (by omega)) ?_ | refine And.intro (mul_r (by omega) (by omega)) ?_ | refine And.intro (by omega) ?_)
local macro_rules | `(tactic| walk_at "rp") => `(tactic| first | walk_at "r1" | refine ⟨_, _, rfl, pen_left (by assumption), ?_⟩ | refine ⟨_, _, rfl, pen_at (by assumption), ?_⟩ | refine ⟨_, _, rfl, pen_cells (by assumption), ?_⟩ | refine ⟨_, _, rfl, put_at (by assumption), ?_⟩ | refine ⟨_, _, rfl, put_left (by assumption), ?_⟩)
local macro_rules | `(tactic| walk_at "rd") => `(tactic| repeat walk_at "r1")
local macro_rules | `(tactic| walk_at "rdp") => `(tactic| repeat walk_at "rp")
def loose0 : List Str := ["EveryError", "BadSize", "BadRow", "is_integer", "need_row", "nothing", "joined", "undone", "done", "_law_pen", "_law_draw", "_law_pick", "_law_shuffled", "_law_row", "_law_after", "MOST_SIZE"]
abbrev looseN : List Str := loose0
abbrev RwO : PySem.W.OpenRow := PySem.W.OpenLaw.row PySem.Challenge.rw_everyorder_k01_rearrangements_done_and_t
abbrev hkX : PySem.W.Hook := He.hookX 5 dfa dfn [] [] fun _ => true
def obsO (s : PySem.W.SharedT) : He.AlX := He.obsX 5 dfa dfn [] [] (fun _ => true) (HandSHeadRun.getT s)
theorem obsO_eq (s : PySem.W.SharedT) : obsO s = hkX.obs s.abs := He.obsX_eq (HandSHeadRun.getT_eq s)
theorem topRuns (w : World) : HandSHeadRun.RunEq RwO (PySem.W.view RwO.prog [20]) hkX obsO 20000 looseN w := by
  intro os
  kernel_rfl
theorem noRaise {P : Program} (w : World) (H : Hp) (s : Shared) (e : Value) (s' : Shared) (h : L2.CX P w [] H s (fun _ _ _ => False) e s') : False := by
  obtain ⟨_, _, _, _, _, _, _, _, _, _, _, _, q⟩ := h
  exact q
theorem lawAt {l : PySem.W.OpenLaw} {w : World} {K : PySem.W.Frag} {mg : Str → Option Value} {fa : Addr} {h : Heap} (T : Tx K mg) (hmg : mg "law" = some (.ref fa)) :
    LamX.LawAtS l w K (L2.CX l.prog w) 4 63 "script" mg fa h := by
  obtain ⟨fd, D⟩ := T.d_law
  have e : fa = ga K "law" := by
    have q := hmg.symm.trans T.g_law
    exact Value.ref.inj (Option.some.inj q)
  subst e
  refine ⟨fd, [], sp_law K, by simp, by simp, by simp, fun s u => FunD.bindsA D (ps := ["script"]) (fun _ _ _ _ _ _ us hl => match us, hl with | [_], _ => rfl) s [u] rfl, ?_, fun base _ _ _ => fn_law T fd D⟩
  intro H a ns hn _ _ hS
  exact ⟨a, ns, rfl, hS, fun _ => rfl⟩
end EV
open PySem PySem.W PySem.Calls PyProof.Rows in
set_option maxHeartbeats 0 in
theorem PySem.Challenge.cw_everyorder_k01_rearrangements_done_and_t_holds : PySem.Challenge.rw_everyorder_k01_rearrangements_done_and_t.Holds := by
  w_on; o_law
  refine HandSHeadRun.head_any (r := OpenLaw.row PySem.Challenge.rw_everyorder_k01_rearrangements_done_and_t) (q := view (OpenLaw.row PySem.Challenge.rw_everyorder_k01_rearrangements_done_and_t).prog [20]) (H := EV.hkX) (ob := EV.obsO) (M := 20000) (loose := EV.looseN) (d := HandSHeadRun.topDef (OpenLaw.row PySem.Challenge.rw_everyorder_k01_rearrangements_done_and_t).prog 20) (kwd := []) EV.obsO_eq
    (by kernel_rfl) (fun s => by kernel_rfl) EV.topRuns (by kernel_rfl) (by kernel_rfl) (by kernel_rfl) (by rfl) (by first | assumption | decide +kernel) (by decide +kernel) ⟨rfl, rfl, rfl, rfl, rfl, by decide +kernel⟩ ?hw ?hc
  case hw => w_witness2
  case hc =>
    refine LamX.walk_ofTsE (l := PySem.Challenge.rw_everyorder_k01_rearrangements_done_and_t) (n := 63) (k := 4) (x := "script") (CX := fun w => L2.CX (PySem.Challenge.rw_everyorder_k01_rearrangements_done_and_t).prog w) rfl (by decide) (by kernel_rfl) ⟨rfl, by decide, by decide⟩ ?F EV.noRaise
    intro w mg fa h Y G hmg0
    obtain ⟨K, KX, c⟩ := Y
    have hmg : mg ("law" : PySem.Str) = some (.ref fa) := by
      have e : (HandSHeadRun.topDef (OpenLaw.row PySem.Challenge.rw_everyorder_k01_rearrangements_done_and_t).prog 20).name = ("law" : PySem.Str) := by kernel_rfl
      rw [← e]
      exact hmg0
    have T := EV.tx_of KX G c.t.d
    exact ⟨K, KX, EV.lawAt T hmg⟩
