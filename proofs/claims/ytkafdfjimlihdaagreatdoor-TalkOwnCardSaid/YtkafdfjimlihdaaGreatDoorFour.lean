/- From a row's condition to the evaluator's first state, and back. -/
import Derived.Test.YtkafdfjimlihdaaGreatDoorThree
import Derived.ProofKit
import Derived.LaidMore
import Derived.OpenShut
import Derived.Below
import Derived.Handed
import GoSem.ClaimGoes
set_option linter.unusedVariables false
set_option linter.unusedSimpArgs false
namespace Go.Ev
open Go


def fieldAtD (P : Program) : List Field → List (DataW Unit) → Nat → Option (Field × DataW Unit)
  | f :: fs, d :: ds, j => if f.offset ≤ j ∧ j < f.offset + P.cellsOf f.type then some (f, d) else fieldAtD P fs ds j
  | _, _, _ => none

def cellAt (P : Program) : Nat → TypeId → DataW Unit → Nat → Option Value
  | 0, _, _, _ => none
  | n + 1, t, d, j =>
    match P.underlying t, d with
    | some (.int _), .lit (.int k z) => (match j with
      | 0 => some (.int k z)
      | _ + 1 => none)
    | some (.array _ e), .agg ds => (match ds[j / P.cellsOf e]? with
      | some d' => cellAt P n e d' (j % P.cellsOf e)
      | none => none)
    | some (.struct fs), .agg ds => (match fieldAtD P fs.toList ds j with
      | some (f, d') => cellAt P n f.type d' (j - f.offset)
      | none => none)
    | _, _ => none

theorem fieldAtD_some {P : Program} : ∀ {fs : List Field} {ds : List (DataW Unit)} {j : Nat} {f : Field} {d : DataW Unit}, fieldAtD P fs ds j = some (f, d) → ∃ i : Nat, fs[i]? = some f ∧ ds[i]? = some d ∧ f.offset ≤ j ∧ j < f.offset + P.cellsOf f.type
  | [], _, _, _, _, h => by simp [fieldAtD] at h
  | _ :: _, [], _, _, _, h => by simp [fieldAtD] at h
  | f0 :: fs, d0 :: ds, j, f, d, h => by
    unfold fieldAtD at h
    split at h
    · rename_i hc; cases h; exact ⟨0, rfl, rfl, hc.1, hc.2⟩
    · obtain ⟨i, h1, h2, h3⟩ := fieldAtD_some h
      exact ⟨i + 1, by simpa using h1, by simpa using h2, h3⟩

theorem drop_take_get {α : Type} {l : List α} {a c k : Nat} {v : α} (h : ((l.drop a).take c)[k]? = some v) : l[a + k]? = some v := by
  rw [List.getElem?_take] at h
  split at h
  · rw [List.getElem?_drop] at h; exact h
  · cases h

theorem cellAt_ok {P : Program} {w : World} {spare : Nat → Bool} {held : Bool} : ∀ (n : Nat) {fuel : Nat} {t : TypeId} {cs : List Value} {d : DataW Unit} {p : List MemPlace} {j : Nat} {v : Value},
    DataW.trod (fun _ => ()) P w 0 spare held fuel t cs = some (d, p) → cellAt P n t d j = some v → cs[j]? = some v := by
  intro n
  induction n with
  | zero => intro fuel t cs d p j v _ h; cases h
  | succ n ih =>
    intro fuel t cs d p j v ht h
    unfold cellAt at h
    split at h
    · rename_i k0 k z hu
      obtain ⟨m, rfl, hx, _⟩ := DataW.trod_int hu ht
      cases hx
      split at h
      · cases h; rfl
      · cases h
    · rename_i m e ds hu
      obtain ⟨xs, f1, rfl, hx, hlen, hn, hel⟩ := DataW.trod_array hu ht
      simp only [Prod.mk.injEq, DataW.agg.injEq] at hx
      obtain ⟨rfl, _⟩ := hx
      split at h
      · rename_i d' hd
        rw [List.getElem?_map] at hd
        cases hxi : xs[j / P.cellsOf e]? with
        | none => rw [hxi] at hd; cases hd
        | some x =>
          rw [hxi] at hd
          cases hd
          have hlt : j / P.cellsOf e < m := by
            rw [← hn]; exact (List.getElem?_eq_some_iff.1 hxi).1
          have hsub := (hel _ hlt).trans hxi
          have := ih (p := x.2) hsub h
          have := drop_take_get this
          rw [Nat.mul_comm, Nat.div_add_mod] at this
          exact this
      · cases h
    · rename_i fs ds hu
      obtain ⟨xs, f1, rfl, hx, hlen, hn, hel⟩ := DataW.trod_struct hu ht
      simp only [Prod.mk.injEq, DataW.agg.injEq] at hx
      obtain ⟨rfl, _⟩ := hx
      split at h
      · rename_i f d' hf
        obtain ⟨i, h1, h2, h3, h4⟩ := fieldAtD_some hf
        rw [List.getElem?_map] at h2
        cases hxi : xs[i]? with
        | none => rw [hxi] at h2; cases h2
        | some x =>
          rw [hxi] at h2
          cases h2
          have hsub := (hel i f (by rw [← Array.getElem?_toList]; exact h1)).trans hxi
          have := ih (p := x.2) hsub h
          have := drop_take_get this
          rw [show f.offset + (j - f.offset) = j by omega] at this
          exact this
      · cases h
    · cases h


/-- Are a telling's cells what a datum says? -/
def cellsB (P : Program) (t : TypeId) (d : DataW Unit) (l : List AV) : Nat → Bool
  | 0 => true
  | j + 1 => (match cellAt P 5 t d j with
    | some (.int k z) => (match l[j]? with
      | some (.int k' z') => decide (k = k') && decide (z = z')
      | _ => false)
    | _ => false) && cellsB P t d l j

/-- Are the tellings what a row lays down? -/
def laidB (P : Program) (laid : List (String × DataW Unit)) (GL : List (Pos × MO)) : Bool :=
  GL.all fun (p, m) => match m with
    | .map _ => false
    | .cells l el wr ex => !wr && (ex && (decide (p.num - 1 < P.globals.size) && ((match ((begin P (fun _ _ => 0) default).world.heap[p.num - 1]?).bind Obj.row? with
      | some (zero, t0) => decide (t0 = el) && decide (zero.size = l.length)
      | none => false) && laid.any fun (n, d) => decide (P.globalNamed n = some (p.num - 1)) && (match (P.globals[p.num - 1]?).map (·.type) with
        | some t => cellsB P t d l l.length
        | none => false))))

theorem cellsB_ok {P : Program} {t : TypeId} {d : DataW Unit} {l : List AV} : ∀ {n : Nat}, cellsB P t d l n = true → ∀ j, j < n → ∃ k z, cellAt P 5 t d j = some (.int k z) ∧ l[j]? = some (.int k z)
  | 0, _, j, hj => by omega
  | n + 1, h, j, hj => by
    unfold cellsB at h
    rw [Bool.and_eq_true] at h
    by_cases hjn : j = n
    · subst hjn
      have h1 := h.1
      split at h1
      · rename_i k z hc
        split at h1
        · rename_i k' z' hl
          simp only [Bool.and_eq_true, decide_eq_true_eq] at h1
          obtain ⟨rfl, rfl⟩ := h1
          exact ⟨k, z, hc, hl⟩
        · cases h1
      · cases h1
    · exact cellsB_ok h.2 j (by omega)

theorem laidVars_mem {P : Program} {w : World} : ∀ {laid : List (String × DataW Unit)} {ps : List MemPlace}, DataW.LaidVars P w laid ps → ∀ n d, (n, d) ∈ laid →
    ∃ g t cs fuel p, P.globalNamed n = some g ∧ (P.globals[g]?).map (·.type) = some t ∧ w.var? P n = some cs ∧ DataW.trod (fun _ => ()) P w 0 (fun _ => true) false fuel t cs.toList = some (d, p)
  | [], _, _, n, d, hm => by cases hm
  | (n0, d0) :: r, ps, h, n, d, hm => by
    obtain ⟨g, t, cs, fuel, p, q, h1, h2, h3, h4, h5, _⟩ := h
    rcases List.mem_cons.1 hm with e | hm
    · cases e; exact ⟨g, t, cs, fuel, p, h1, h2, h3, h4⟩
    · exact laidVars_mem h5 n d hm

/-- Where the first state's blocks lie. -/
def sgW (P : Program) (w : World) : Sg where
  blk p := p.num - 1
  base _ := 0
  siz p := match w.heap[p.num - 1]? with
    | some (.cells cs _ _) => cs.size
    | _ => 0
  live p := p.num - 1 < P.globals.size

theorem start_ok {P : Program} {w : World} {laid : List (String × DataW Unit)} {GL : List (Pos × MO)} (hs : w.ShapedOpen P) (hl : laidMet P laid w) (hb : laidB P laid GL = true) : ∀ n, Rel P (sgW P w) (.mk (heapOf GL) n) w := by
  intro n
  have key : ∀ p m, (p, m) ∈ GL → ∃ l el cs, m = .cells l el false true ∧ p.num - 1 < P.globals.size ∧ w.heap[p.num - 1]? = some (.cells cs el (0, 0)) ∧ cs.size = l.length ∧ ∀ j, j < l.length → ∃ k z, cs[j]? = some (.int k z) ∧ l[j]? = some (.int k z) := by
    intro p m hm
    unfold laidB at hb
    rw [List.all_eq_true] at hb
    have := hb _ hm
    cases m with
    | map es => cases this
    | cells l el wr ex =>
      simp only [Bool.and_eq_true, Bool.not_eq_true', decide_eq_true_eq, List.any_eq_true] at this
      obtain ⟨rfl, rfl, h3, h4, ⟨nd, h5, h6, h7⟩⟩ := this
      obtain ⟨nm, d⟩ := nd
      simp only at h6 h7
      split at h4
      case h_2 => cases h4
      case h_1 zero t0 hz =>
        simp only [Bool.and_eq_true, decide_eq_true_eq] at h4
        obtain ⟨rfl, hzl⟩ := h4
        obtain ⟨cs, hw, hsz, _⟩ := hs.1 (p.num - 1) zero t0 h3 hz
        obtain ⟨ps, hv, _⟩ := hl
        obtain ⟨g, t, cs', fuel, q, e1, e2, e3, e4⟩ := laidVars_mem hv nm d h5
        rw [h6] at e1
        cases e1
        rw [e2] at h7
        simp only at h7
        have hcs : cs' = cs := by
          simp only [World.var?, h6, Option.bind_some, hw] at e3
          exact (Option.some.inj e3).symm
        subst hcs
        refine ⟨l, t0, cs', rfl, h3, hw, hsz.trans hzl, fun j hj => ?_⟩
        obtain ⟨k, z, hc, hlj⟩ := cellsB_ok h7 j hj
        have := cellAt_ok 5 e4 hc
        rw [Array.getElem?_toList] at this
        exact ⟨k, z, this, hlj⟩
  refine ⟨fun p o hp => ?_, fun p q o o' hp hq e => ?_⟩
  · obtain ⟨m, hm, rfl⟩ := heapOf_get hp
    obtain ⟨l, el, cs, rfl, h1, h2, h3, h4⟩ := key p m hm
    refine ⟨h1, cs, (0, 0), h2, ?_, ?_, fun i v hi hv => ?_, (fun h => by cases h), fun _ => ⟨rfl, ?_⟩⟩
    · show cs.size = _
      unfold sgW; simp only [h2]
    · show 0 + lenL l ≤ _
      unfold sgW; simp only [h2]; rw [lenL_eq, h3]; omega
    · rw [lenL_eq] at hi
      rw [wrt_get, if_pos (by omega), Nat.sub_zero] at hv
      obtain ⟨k, z, h5, h6⟩ := h4 i hi
      rw [h6] at hv
      cases hv
      exact ⟨.int k z, by show cs[0 + i]? = _; rw [Nat.zero_add]; exact h5, by simp [RV]⟩
    · unfold sgW; simp only [h2]; rw [lenL_eq, h3]
  · have e' : p.num - 1 = q.num - 1 := e
    have h1 := p.num_pos
    have h2 := q.num_pos
    exact Pos.num_inj (by omega)

theorem start_glob (P : Program) (w : World) (n : Nat) : GlobOK P (sgW P w) n := fun g hg => by
  refine ⟨?_, ?_, rfl⟩
  · show (n2p g).num - 1 < P.globals.size
    rw [n2p_num]; exact hg
  · show (n2p g).num - 1 = g
    rw [n2p_num]; rfl

theorem start_fresh {P : Program} {w : World} {lo hi : Nat} (h : P.globals.size < lo) : Fresh (sgW P w) lo hi := fun p h1 _ hl => by
  have : p.num - 1 < P.globals.size := hl
  omega

/-- Nothing of the first state may be turned. -/
theorem start_frozen {P : Program} {w : World} {laid : List (String × DataW Unit)} {GL : List (Pos × MO)} (hb : laidB P laid GL = true) {n : Pos} {σ : Sg} {b : Nat} : ¬ Owns σ (.mk (heapOf GL) n) b := by
  rintro ⟨p, o, hp, hw, _⟩
  obtain ⟨m, hm, rfl⟩ := heapOf_get hp
  unfold laidB at hb
  rw [List.all_eq_true] at hb
  have := hb _ hm
  cases m with
  | map es => cases this
  | cells l el wr ex =>
    simp only [Bool.and_eq_true, Bool.not_eq_true'] at this
    rw [show (MO.cells l el wr ex).obj.wr = wr from rfl, this.1] at hw
    cases hw

/-- The evaluator's word for a law that answers true. -/
theorem law_calls {P : Program} {T : PT FnE} (hm : P.follows .mixedOrders = true) (hTb : TableOK P T) {laid : List (String × DataW Unit)} {GL : List (Pos × MO)} {w : World} (hs : w.ShapedOpen P) (hl : laidMet P laid w) (hb : laidB P laid GL = true)
    {f : Pos} {b : S} {res : List ResD} (hf : PT.get T f = some (.body b res)) {n : Nat} {nx : Pos} {a : List AV} {avs : List Value} (ha : RVs (sgW P w) nx.num a avs) {s1 : St} (hnx : P.globals.size < nx.num)
    (h : callF T (runS T n) f a (.mk (heapOf GL) nx) = .mk (.bool true) s1) : Calls P (f.num - 1) avs.toArray w fun e w' => e = .returned (.bool true) ∧ RowKit.Below w.heap.size w w' := by
  refine (call_ok hTb (fun n => draws_ok hm hTb.up) hf (start_ok hs hl hb nx) (start_glob P w _) ha h (start_fresh hnx)).mono ?_
  rintro e w' ⟨cv, rfl, σ', hv, _, hg⟩
  simp only [RV] at hv
  subst hv
  exact ⟨rfl, hg.os, hg.tape, hg.output, hg.size, fun k hk => hg.same k hk (start_frozen (w := w) hb)⟩

theorem isT_mk {r : CR} (h : (CR.rec (motive := fun _ => Bool) false (fun v _ => OB.rec (motive := fun _ => Bool) false (fun b => b) (asB v)) r) = true) : ∃ s1, r = .mk (.bool true) s1 := by
  cases r with
  | fail => cases h
  | mk v s =>
    cases v <;> try (cases h; done)
    rename_i b
    have : b = true := h
    subst this
    exact ⟨s, rfl⟩

end Go.Ev

namespace Go.Ev
open Go
variable {P : Program}

theorem toFn_prim {f : Nat} {G : List Nat} {g : List AV → St → CR} (h : toFn P f G = some (.prim g)) : False := by
  unfold toFn at h
  repeat' split at h
  all_goals cases h

/-- An entry, out of the program's own code. -/
theorem entry_of {f : Nat} {G : List Nat} {e : FnE} {p : Pos} (h : toFn P f G = some e) (hp : p.num - 1 = f) : EntryOK P p e := by
  subst hp
  cases e with
  | body b r => exact BodyOK.of_toFn h
  | prim g => exact (toFn_prim h).elim

def AllE (P : Program) : List (Pos × FnE) → Prop
  | [] => True
  | x :: l => EntryOK P x.1 x.2 ∧ AllE P l
theorem allE_nil : AllE P [] := trivial
theorem allE_cons {p : Pos} {e : FnE} {l : List (Pos × FnE)} (h : EntryOK P p e) (hl : AllE P l) : AllE P ((p, e) :: l) := ⟨h, hl⟩
theorem AllE.append : ∀ {l l' : List (Pos × FnE)}, AllE P l → AllE P l' → AllE P (l ++ l')
  | [], _, _, h' => h'
  | _ :: _, _, ⟨h1, h2⟩, h' => ⟨h1, AllE.append h2 h'⟩
theorem AllE.mem : ∀ {l : List (Pos × FnE)}, AllE P l → ∀ x ∈ l, EntryOK P x.1 x.2
  | [], _, x, hx => by cases hx
  | _ :: _, ⟨h1, h2⟩, x, hx => by
    rcases List.mem_cons.1 hx with rfl | hx
    · exact h1
    · exact AllE.mem h2 x hx

theorem noZero_entry {p : Pos} {fn : Func} {t el : TypeId} {ps rs : Array TypeId} (h : P.funcs[p.num - 1]? = some fn) (hn : (fn.name == "runtime.NumGoroutine") = false) (hb : fn.body.isNone = true) (hx : Extern.findNext fn = none)
    (he : Extern.find fn = some (Extern.BytealgMakeNoZero.makeNoZero ps rs)) (h0 : rs[0]? = some t) (hu : P.underlying t = some (.slice el)) : EntryOK P p (.prim (primNoZero el)) :=
  ⟨PrimOK.of_fine h hn hb hx he fun _ _ _ _ _ hR ha => primNoZero_fine h0 hu hR ha, fun a s v s1 h => by
    unfold primNoZero at h
    split at h
    · split at h
      · rw [newCells_eq] at h; cases h; simp only [mk_nx, Pos.num_succ]; omega
      · cases h
    · cases h⟩

theorem indexByte_entry {p : Pos} {fn : Func} (h : P.funcs[p.num - 1]? = some fn) (hn : (fn.name == "runtime.NumGoroutine") = false) (hb : fn.body.isNone = true) (hx : Extern.findNext fn = none)
    (he : Extern.find fn = some Extern.BytealgIndexByte.indexByte) : EntryOK P p (.prim primIndexByte) :=
  ⟨PrimOK.of_fine h hn hb hx he fun _ _ _ _ _ hR ha => primIndexByte_fine hR ha, fun a s v s1 h => by
    unfold primIndexByte at h
    split at h
    · split at h
      · cases h; exact Nat.le_refl _
      · cases h
    · cases h⟩

theorem same_entry {p : Pos} {fn : Func} (h : P.funcs[p.num - 1]? = some fn) (hn : (fn.name == "runtime.NumGoroutine") = false) (hb : fn.body.isNone = true) (hx : Extern.findNext fn = none)
    (he : Extern.find fn = some Extern.AbiNoEscape.same) : EntryOK P p (.prim primSame) :=
  ⟨PrimOK.of_fine h hn hb hx he fun _ _ _ _ _ hR ha => primSame_fine hR ha, fun a s v s1 h => by
    unfold primSame at h
    split at h
    · cases h; exact Nat.le_refl _
    · cases h⟩

/-- A row's contract, with the memory's shape at hand. -/
theorem returnsInHanded_shaped {H : Type} {enc : TypeId × Value → H} {a : Assume} {C : Checked} {os : Os} {f : FuncId} {fn : Func} {s : ChangeSpec} {apart fresh handsOn again : Bool} {X : World → Array Value → Prop}
    (hX : ∀ (w w' : World) (args : Array Value), w.heap = w'.heap → X w args → X w' args)
    (own : ownKnob C.prog.godebug = none) (started : os.Started) (noInit : C.prog.inits.idxOf? f = none) (hfn : C.prog.funcs[f]? = some fn)
    (witness : ∃ (w : World) (tape : Tape) (i : Input), w.os = os ∧ (w.forCall tape i).Shaped C.prog ∧ i.vars = [] ∧ Input.okWide C.prog (w.forCall tape i) .any w.heap.size f i ∧
      ((s.pre enc C.prog fn [] apart (w.forCall tape i).memory i.args ∧ X (w.forCall tape i).memory i.args) ∧ sizedMet enc C.prog fn (OpenSpec.ofChange s) apart (w.forCall tape i).memory i.args) ∧ a.holds C.prog (lone (Frame.enter C.prog f i.args .normal) [] (w.forCall tape i)))
    (contract : ∀ (W : World) (base : Nat) (args : Array Value) (ds gs : List (DataW H)) (before : List MemPlace), W.ShapedOpen C.prog →
      (∀ (j : Nat) t v, fn.params[j]? = some t → args[j]? = some v → Value.okWide C.prog W .any base t v) →
      DataW.Whole enc C.prog fn.params.toList s.vars apart W args.toList ds gs before → X W args →
      Calls C.prog f args W fun e W' => ∃ v, e = .returned v ∧ s.post enc C.prog fn apart fresh handsOn again W args v W') :
    ReturnsInHanded a C os f .any (fun w args => (s.pre enc C.prog fn [] apart w args ∧ X w args) ∧ sizedMet enc C.prog fn (OpenSpec.ofChange s) apart w args) (s.post enc C.prog fn apart fresh handsOn again) := by
  refine returnsInHanded_of_calls own started noInit witness ?_
  intro w tape i _ hsh _ hok hpre _
  obtain ⟨_, _, _, fn', hfn', _, _, _, _, hval⟩ := hok
  obtain rfl : fn' = fn := Option.some.inj (hfn'.symm.trans hfn)
  obtain ⟨⟨⟨ds, gs, before, hw, _⟩, hx⟩, _⟩ := hpre
  refine (contract (w.forCall tape i) w.heap.size i.args ds gs before hsh hval (DataW.Whole.of_heap (w' := w.forCall tape i) (by rfl) hw) (hX _ _ _ (by rfl) hx)).mono ?_
  rintro e W' ⟨v, rfl, hp⟩
  exact ChangeSpec.post_blind hp

theorem goes_of {P : Program} {c : OpenClaim} {f : FuncId} (hs : c.start = .entering) (hn : P.funcNamed c.func = some f) (hg : P.goes f = false) : false = c.goesBy P := by
  unfold OpenClaim.goesBy Program.goesAt Program.goesFrom
  rw [hn, hs]
  simp [hg]
end Go.Ev
