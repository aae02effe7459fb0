/- Copies, cleared slices, maps, views. -/
import Derived.Test.YtkafdfjimlihdaaGreatDoorOne
import Derived.Laws.StructEq
import Derived.Orders
set_option linter.unusedVariables false
set_option linter.unusedSimpArgs false
namespace Go.Ev

variable {P : Program} {σ : Sg} {s : St} {w : World}

theorem stCells_nx {p : Pos} {o : Nat} {l : List AV} {s' : St} (h : stCells p o l s = some s') : s'.nx = s.nx := by
  obtain ⟨t, len, el', ex', _, _, _, rfl⟩ := stCells_some h; simp

theorem appAt_slice {el sz by' m : Nat} {y : AV} {l : List AV} {v : Value} {n : Nat} (hy : RV σ n y v) {r : AV × St} (h : (appAt el sz by' y m l s).out s = some r) : ∃ base a c, v = .slice base a c := by
  cases y <;> simp only [appAt] at h <;> try (cases h; done)
  case nils => simp only [RV] at hy; exact ⟨_, _, _, hy⟩
  case slice => rw [RV_slice] at hy; obtain ⟨_, a, m, rfl, _⟩ := hy; exact ⟨_, _, _, rfl⟩

theorem app_fine (h : Rel P σ s w) {argTypes : Array TypeId} {ty tS tX el : TypeId} {i : TypeInfo} {z : List AV} {d : TypeDesc} (h0 : argTypes[0]? = some tS) (h1 : argTypes[1]? = some tX)
    (hu : P.underlying tS = some (.slice el)) (hi : P.info? el = some i) (hz : zeroOf P el = some z) (hsz : lenL z = i.size) (hx : P.underlying tX = some d) (hd : ∀ k, d ≠ .int k)
    {y x : AV} {vy vx : Value} (ry : RV σ s.nx.num y vy) (rx : RV σ s.nx.num x vx) : Fine P σ s w (doApp el i.size i.bytes y x s) (Builtin.append_ argTypes ty #[vy, vx]) := by
  unfold doApp
  cases hs : srcCells i.size x s with
  | none => exact Fine.fail
  | some ml =>
    obtain ⟨m, l⟩ := ml
    simp only
    obtain ⟨cs, g1, g2, g3, g4⟩ := srcCells_ok h rx hs
    intro v s' hv hf
    obtain ⟨base, a, c, rfl⟩ := appAt_slice ry hv
    rw [append_eq h0 h1 hu hi hx hd g3]
    have hl := RVs_length g1
    exact appAt_fine h hi hz hsz ry g1 (by omega) g4 v s' hv hf

theorem appz_fine (h : Rel P σ s w) {argTypes : Array TypeId} {ty tS tX el : TypeId} {i : TypeInfo} {z : List AV} {q : IntKind} (h0 : argTypes[0]? = some tS) (h1 : argTypes[1]? = some tX)
    (hu : P.underlying tS = some (.slice el)) (hi : P.info? el = some i) (hz : zeroOf P el = some z) (hsz : lenL z = i.size) (hx : P.underlying tX = some (.int q))
    {y x : AV} {vy vx : Value} (ry : RV σ s.nx.num y vy) (rx : RV σ s.nx.num x vx) : Fine P σ s w (doAppz el i.size i.bytes z y x s) (Builtin.append_ argTypes ty #[vy, vx]) := by
  cases x <;> simp only [doAppz] <;> try exact Fine.fail
  rename_i k a
  cases k <;> try exact Fine.fail
  cases a with
  | negSucc m => exact Fine.fail
  | ofNat m =>
    simp only [RV] at rx
    subst rx
    simp only
    cases hb : Nat.ble (Nat.mul m i.bytes) 1048576 && Nat.ble m 1048576 with
    | false => exact Fine.fail
    | true =>
      rw [Bool.and_eq_true, Nat.ble_eq, Nat.ble_eq] at hb
      have hb1 : m * i.bytes ≤ 1048576 := hb.1
      obtain ⟨i', zv, e1, e2, e3⟩ := zeroOf_some hz
      rw [hi] at e1; cases e1
      have hzl := RVs_length (e3 σ s.nx.num)
      have hsz' := hsz
      rw [lenL_eq] at hsz'
      simp at hzl
      intro v s' hv hf
      obtain ⟨base, a, c, rfl⟩ := appAt_slice ry hv
      show ∃ cv σ' w', Sem.run P (Builtin.append_ argTypes ty #[Value.slice base a c, Value.int .i64 (m : Int)]) w = _ ∧ _
      rw [appz_eq h0 h1 hu hi hx hb.2 hb1]
      have hr := rep_ok (e3 σ s.nx.num) m
      rw [hsz'] at hr
      refine appAt_fine h hi hz hsz ry hr (by rw [rep_length, hsz']) (fun j => ?_) v s' hv hf
      by_cases h0' : m * i.size = 0
      · rw [if_pos h0', h0']; simp
      · rw [if_neg h0']
        unfold zeroValue
        simp only [Sem.run_bind, run_typeInfo' hi, Result.andThen_ok, e2, Sem.run_pure]
        congr 1
        unfold Builtin.zeroCells
        rw [hzl, hsz']

theorem take_data (b : ByteArray) (k : Nat) : bytesL b = b.data.toList.map UInt8.toNat := rfl

theorem copy_fine (h : Rel P σ s w) {argTypes : Array TypeId} {ty t el : TypeId} {i : TypeInfo} (h0 : argTypes[0]? = some t) (hu : P.underlying t = some (.slice el)) (hi : P.info? el = some i)
    {d x : AV} {vd vx : Value} (rd' : RV σ s.nx.num d vd) (rx : RV σ s.nx.num x vx) : Fine P σ s w (doCopy i.size d x s) (Builtin.copy_ argTypes ty #[vd, vx]) := by
  have unf : ∀ {base : Option Addr} {a c : Nat}, (Builtin.copy_ argTypes ty #[.slice base a c, vx]).run P w =
      (do let n := Nat.min (← Builtin.lenOf vx) a
          let cells ← Builtin.firstCells i.size n vx
          if let some b := base then storeCells b cells.toList
          pure (goInt n) : Sem Value).run P w := by
    intro base a c
    unfold Builtin.copy_
    simp only [h0, List.getElem?_toArray, List.getElem?_cons_zero, List.getElem?_cons_succ, Sem.run_bind, run_underlying' hu, Result.andThen_ok, run_sizeOf' hi]
    rfl
  cases d <;> simp only [doCopy] <;> try exact Fine.fail
  case nils =>
    simp only [RV] at rd'
    subst rd'
    cases x <;> simp only <;> try exact Fine.fail
    case nils =>
      simp only [RV] at rx
      subst rx
      refine Fine.val h (cv := .int .i64 0) ?_ (by simp [RV])
      rw [unf]; rfl
    case str m l =>
      simp only [RV] at rx
      obtain ⟨b, rfl, _⟩ := rx
      refine Fine.val h (cv := .int .i64 0) ?_ (by simp [RV])
      rw [unf]
      show Result.ok (goInt (Nat.min b.size 0)) w = _
      simp [goInt]
    case slice p o m c ex sz =>
      rw [RV_slice] at rx
      obtain ⟨_, a, k, rfl, _⟩ := rx
      refine Fine.val h (cv := .int .i64 0) ?_ (by simp [RV])
      rw [unf]
      have : Nat.min m 0 = 0 := Nat.min_zero m
      simp only [Builtin.lenOf, Sem.run_bind, Sem.run_pure, Result.andThen_ok, this, Builtin.firstCells, Nat.zero_mul]
      rfl
  case slice p o n c ex sz2 =>
    rw [RV_slice] at rd'
    obtain ⟨h1, a, k, rfl, h3, h4, h5, h6, h7⟩ := rd'
    cases hb : Nat.beq i.size sz2 with
    | false => exact Fine.fail
    | true =>
      have := Nat.eq_of_beq_eq_true hb
      subst this
      simp only
      -- the store itself
      have fin : ∀ {l : List AV} {new : List Value} {m : Nat} {s' : St}, stCells p o l s = some s' → RVs σ s.nx.num l new → (Builtin.lenOf vx).run P w = .ok m w → (Builtin.firstCells i.size (Nat.min m n) vx).run P w = .ok new.toArray w →
          l.length = Nat.min m n * i.size →
          Fine P σ s w (.st (.int .i64 (.ofNat (minN m n))) s') (Builtin.copy_ argTypes ty #[.slice (some a) n k, vx]) := by
        intro l new m s' hs hl e1 e2 hlen
        obtain ⟨w', g1, g2, g3⟩ := h.storeCells hs hl
        refine Fine.st (cv := .int .i64 (Nat.min m n : Nat)) ?_ (by simp only [RV, minN_eq]; rfl) g2 g3
        rw [unf]
        have hst : (Go.storeCells a new).run P w = .ok () w' := by
          by_cases hk : k = 0
          · have hn : n = 0 := by omega
            subst hn
            have hm0 : Nat.min m 0 = 0 := Nat.min_zero m
            rw [hm0, Nat.zero_mul] at hlen
            have hl0 : new = [] := List.eq_nil_of_length_eq_zero (by rw [RVs_length hl, hlen])
            subst hl0
            have q : Sem.run P (Go.storeCells ⟨σ.blk p, σ.base p + o, none⟩ []) w = .ok () w := rfl
            rw [q] at g1
            cases g1
            rfl
          · rw [h6 hk]; exact g1
        simp only [Sem.run_bind, e1, Result.andThen_ok, e2, hst]
        rfl
      cases x <;> simp only <;> try exact Fine.fail
      case nils =>
        simp only [RV] at rx
        subst rx
        refine Fine.val h (cv := .int .i64 0) ?_ (by simp [RV])
        rw [unf]
        have : Nat.min 0 n = 0 := Nat.zero_min n
        simp only [Builtin.lenOf, Sem.run_bind, Sem.run_pure, Result.andThen_ok, this, Builtin.firstCells]
        rfl
      case str m l =>
        simp only [RV] at rx
        obtain ⟨b, rfl, rfl, rfl⟩ := rx
        cases hz : Nat.beq i.size 1 with
        | false => exact Fine.fail
        | true =>
          have hz := Nat.eq_of_beq_eq_true hz
          simp only
          cases hs : stCells p o (strCells (tk n (bytesL b))) s with
          | none => exact Fine.fail
          | some s' =>
            have e : tk n (bytesL b) = (b.data.toList.take (Nat.min b.size n)).map UInt8.toNat := by
              rw [tk_eq]
              unfold bytesL
              rw [← List.map_take]
              congr 1
              have hbs : b.size = b.data.toList.length := rfl
              by_cases hle : n ≤ b.size
              · rw [show Nat.min b.size n = n from Nat.min_eq_right hle]
              · rw [show Nat.min b.size n = b.size from Nat.min_eq_left (by omega), List.take_of_length_le (by omega), List.take_of_length_le (by omega)]
            rw [e] at hs
            refine fin hs (strCells_ok _) rfl ?_ ?_
            · rw [hz]
              show Result.ok ((b.extract 0 (Nat.min b.size n)).data.map fun (x : UInt8) => Value.int .u8 (x.toNat : Int)) w = _
              congr 1
              apply Array.ext'
              rw [bytes_cells]
            · have := RVs_length (strCells_ok (σ := σ) (n := s.nx.num) (b.data.toList.take (Nat.min b.size n)))
              rw [← this, hz, List.length_map, List.length_take, Nat.mul_one]
              have hbs : b.size = b.data.toList.length := rfl
              have : Nat.min b.size n ≤ b.size := Nat.min_le_left _ _
              omega
      case slice p2 o2 m c2 ex2 sz3 =>
        rw [RV_slice] at rx
        obtain ⟨h1', a', k', rfl, h3', h4', h5', h6', h7'⟩ := rx
        cases hz : Nat.beq i.size sz3 with
        | false => exact Fine.fail
        | true =>
          simp only
          cases hl : ldCells p2 o2 (Nat.mul (minN m n) i.size) s with
          | none => exact Fine.fail
          | some l =>
            simp only
            cases hs : stCells p o l s with
            | none => exact Fine.fail
            | some s' =>
              obtain ⟨cs, g1, g2, g3⟩ := h.loadCells hl
              have e0 : Nat.mul (minN m n) i.size = Nat.min m n * i.size := by rw [minN_eq]; rfl
              rw [e0] at g2 g3
              refine fin hs g1 rfl ?_ (by rw [← g2, RVs_length g1])
              show (Go.loadCells a' (Nat.min m n * i.size)).run P w = _
              by_cases hk : k' = 0
              · have hm : m = 0 := by omega
                subst hm
                have hm0 : Nat.min 0 n = 0 := Nat.zero_min n
                rw [hm0, Nat.zero_mul] at g2 ⊢
                have : cs = [] := List.eq_nil_of_length_eq_zero g2
                subst this
                rfl
              · rw [h6' hk]; exact g3


theorem map_up (w : World) (r : Nat) (o : Obj) : ({ w with heap := w.heap.setIfInBounds r o } : World) = up w r o := rfl

theorem run_getObj_map {r : Nat} {ms : Array MapEntry} {ck : Nat} (h : w.heap[r]? = some (.map ms ck)) : (getObj r).run P w = .ok (.map ms ck) w := by
  simp only [getObj, Sem.run, h]
theorem run_setObj_map {r : Nat} {ms : Array MapEntry} {ck : Nat} (h : w.heap[r]? = some (.map ms ck)) (o : Obj) : (setObj r o).run P w = .ok () (up w r o) := by
  simp only [setObj, Sem.run, h]; rfl

theorem mkmap_fine (h : Rel P σ s w) {t : TypeId} : Fine P σ s w (doMkmap s) (Instr.makeMap t none) := by
  obtain ⟨hh, nx⟩ := s
  unfold doMkmap
  refine Fine.new rfl fun hf => ?_
  refine Fine.st (cv := .map (some w.heap.size)) ?_ ?_ (Rel.new h hf (.map #[] 0) 0 0 (a := .map []) ⟨#[], 0, by rw [Sg.ext_blk]; exact alloc_new w _, rfl⟩) (Goes.new h hf _ 0 0 _)
  · unfold Instr.makeMap; simp
  · simp only [RV]; exact ⟨Sg.ext_live _ _ _ _ _, by simp⟩

/-- The kind of a map's keys. -/
def KeyOK (P : Program) (kt : TypeId) (ks : Bool) : Prop := match ks with | true => P.underlying kt = some .string | false => ∃ k, P.underlying kt = some (.int k)
theorem keyKind_ok {kt : TypeId} {ks : Bool} (h : keyKind P kt = some ks) : KeyOK P kt ks := by
  unfold keyKind at h
  cases hu : P.underlying kt with
  | none => simp [hu] at h
  | some d =>
    cases d <;> simp [hu] at h
    · subst h; exact ⟨_, hu⟩
    · subst h; exact hu

/-- Does a value fit as a key of that kind? -/
def isKey (ks : Bool) (v : Value) : Prop := match ks with | true => ∃ b, v = .string b | false => ∃ k i, v = .int k i

theorem okKey_val {ks : Bool} {x : AV} {v : Value} {n : Nat} (h : okKey ks x = true) (hr : RV σ n x v) : isKey ks v := by
  cases ks <;> cases x <;> simp only [okKey] at h <;> try (cases h; done)
  · simp only [RV] at hr; exact ⟨_, _, hr⟩
  · simp only [RV] at hr; obtain ⟨b, rfl, _⟩ := hr; exact ⟨b, rfl⟩

theorem checkKey_ok {kt : TypeId} {ks : Bool} (hk : KeyOK P kt ks) {v : Value} (hv : isKey ks v) (e : Bool) (w : World) : (Instr.checkKey e 10000 kt v).run P w = .ok () w := by
  have key : ∀ m, (Instr.checkKey e (m + 1) kt v).run P w = .ok () w := by
    intro m
    cases ks
    · obtain ⟨q, hk⟩ := hk
      obtain ⟨k, i, rfl⟩ := hv
      simp only [Instr.checkKey, Sem.run_bind, run_underlying' hk, Result.andThen_ok, Sem.run_pure]
    · have hk : P.underlying kt = some .string := hk
      obtain ⟨b, rfl⟩ := hv
      simp only [Instr.checkKey, Sem.run_bind, run_underlying' hk, Result.andThen_ok, Sem.run_pure]
  exact key 9999

theorem bytes_beq {n m : ByteArray} : (n.toList == m.toList) = (n == m) := (beq_toListBytes n m).symm
theorem bytes_eq {n m : ByteArray} (h : (n.toList == m.toList) = true) : n = m := by
  rw [beq_iff_eq, ByteArray.toList_eq, ByteArray.toList_eq] at h
  exact ByteArray.ext (Array.ext' h)

theorem sameNow_ok {ks : Bool} {kt : TypeId} {d : TypeDesc} (hd : P.underlying kt = some d) (hk : KeyOK P kt ks) {x y : AV} {v u : Value} {n : Nat} {b : Bool} (hx : RV σ n x v) (hy : RV σ n y u) (hv : isKey ks v) (h : keyEq x y = some b) :
    Instr.sameNow d v u = some b ∧ (b = true → v = u) := by
  cases x <;> simp only [keyEq] at h <;> try (cases h; done)
  case int k i =>
    cases y <;> simp only at h <;> try (cases h; done)
    rename_i k2 j
    cases hq : Nat.beq (kidx k) (kidx k2) with
    | false => rw [hq] at h; cases h
    | true =>
      rw [hq] at h
      have := kidx_inj hq
      subst this
      simp only [RV] at hx hy
      subst hx; subst hy
      cases h
      cases ks
      · obtain ⟨q, hk⟩ := hk
        rw [hk] at hd; cases hd
        refine ⟨by simp [Instr.sameNow, eqI_eq], fun e => ?_⟩
        rw [eqI_eq, beq_iff_eq] at e
        rw [e]
      · obtain ⟨b, hv⟩ := hv; cases hv
  case str m a =>
    cases y <;> simp only at h <;> try (cases h; done)
    simp only [RV] at hx hy
    obtain ⟨s1, rfl, rfl, rfl⟩ := hx
    obtain ⟨s2, rfl, rfl, rfl⟩ := hy
    cases h
    cases ks
    · obtain ⟨k, i, hv⟩ := hv; cases hv
    · have hk : P.underlying kt = some .string := hk
      rw [hk] at hd; cases hd
      refine ⟨by rw [eqS_eq, bytes_beq]; rfl, fun e => ?_⟩
      rw [eqS_eq] at e
      rw [bytes_eq e]

theorem findM_ok {ks : Bool} {kt : TypeId} {d : TypeDesc} {n : Nat} (hd : P.underlying kt = some d) (hk : KeyOK P kt ks) {x : AV} {v : Value} (hx : RV σ n x v) (hv : isKey ks v) : ∀ (es : List (AV × AV)) (ms : List MapEntry) (i : Nat), RMs σ n es ms →
    (∀ a, findM x es = .yes a → ∃ j u, Instr.findNow d v ms i = some (some (j, u)) ∧ RV σ n a u) ∧ (findM x es = .no → Instr.findNow d v ms i = some none)
  | [], ms, i, h => by
    have : ms = [] := h
    subst this
    exact ⟨fun a h => (by cases h), fun _ => rfl⟩
  | (y, b) :: es, ms, i, ⟨e, r, h1, h2, h3, h4⟩ => by
    subst h1
    obtain ⟨ih1, ih2⟩ := findM_ok hd hk hx hv es r (i + 1) h4
    simp only [findM, Instr.findNow]
    cases hq : keyEq x y with
    | none => exact ⟨fun a h => (by cases h), fun h => (by cases h)⟩
    | some q =>
      have := (sameNow_ok hd hk hx h2 hv hq).1
      rw [this]
      cases q
      · exact ⟨ih1, ih2⟩
      · exact ⟨fun a h => (by cases h; exact ⟨i, e.val, rfl, h3⟩), fun h => (by cases h)⟩

theorem findKey_eq {kt : TypeId} {d : TypeDesc} {v : Value} {ms : List MapEntry} {r : Option (Nat × Value)} (hd : P.underlying kt = some d) (h : Instr.findNow d v ms 0 = some r) (w : World) : (Instr.findKey kt v ms).run P w = .ok r w := by
  unfold Instr.findKey
  simp only [Sem.run_bind, run_underlying' hd, Result.andThen_ok, h, Sem.run_pure]

theorem KeyOK.desc {kt : TypeId} {ks : Bool} (hk : KeyOK P kt ks) : ∃ d, P.underlying kt = some d := by
  cases ks
  · obtain ⟨k, h⟩ := hk; exact ⟨_, h⟩
  · exact ⟨_, hk⟩

theorem lkRes_ok {ok : Bool} {a : AV} {u : Value} {f : Bool} {n : Nat} (hr : RV σ n a u) : ∃ v, lkRes ok a f = .val v ∧ RV σ n v (if ok then .tuple #[u, .bool f] else u) := by
  cases ok
  · exact ⟨a, rfl, hr⟩
  · refine ⟨_, rfl, ?_⟩
    simp only [RV, if_true]
    exact ⟨_, rfl, RVs_cons.2 ⟨hr, RVs_cons.2 ⟨by simp [RV], RVs_nil.2 rfl⟩⟩⟩

theorem lookup_fine (h : Rel P σ s w) {t kt el : TypeId} {i : TypeInfo} {zv : Value} {ks ok : Bool} (hu : P.underlying t = some (.map kt el)) (hk : KeyOK P kt ks) (hi : P.info? el = some i) (hz : i.zero = some zv)
    {m k : AV} {vm vk : Value} (rm : RV σ s.nx.num m vm) (rk : RV σ s.nx.num k vk) : Fine P σ s w (doLookup ks (absV zv) ok m k s) (Instr.lookup t vm vk ok) := by
  unfold doLookup
  cases hok : okKey ks k with
  | false => exact Fine.fail
  | true =>
    have hv := okKey_val hok rk
    obtain ⟨d, hd⟩ := hk.desc
    have hzero : (zeroValue el).run P w = .ok zv w := by unfold zeroValue; simp [run_typeInfo' hi, hz]
    simp only
    cases m <;> simp only <;> try exact Fine.fail
    case nilm =>
      simp only [RV] at rm
      subst rm
      obtain ⟨v, e1, e2⟩ := lkRes_ok (ok := ok) (f := false) (absV_ok (σ := σ) (n := s.nx.num) zv)
      rw [e1]
      refine Fine.val h (cv := if ok then .tuple #[zv, .bool false] else zv) ?_ e2
      unfold Instr.lookup
      have hf : (Instr.findKey kt vk (#[] : Array MapEntry).toList).run P w = .ok none w := findKey_eq hd rfl w
      simp only [Sem.run_bind, run_underlying' hu, Result.andThen_ok, Sem.run_pure, checkKey_ok hk hv, hf, hzero]
    case map p =>
      simp only [RV] at rm
      obtain ⟨_, rfl⟩ := rm
      cases hp : PT.get s.heap p with
      | none => exact Fine.fail
      | some o =>
        cases o <;> try exact Fine.fail
        rename_i es
        obtain ⟨_, ms, ck, g1, g2⟩ := h.obj p _ hp
        obtain ⟨f1, f2⟩ := findM_ok hd hk rk hv es ms.toList 0 g2
        simp only
        cases hf : findM k es with
        | bad => exact Fine.fail
        | no =>
          obtain ⟨v, e1, e2⟩ := lkRes_ok (ok := ok) (f := false) (absV_ok (σ := σ) (n := s.nx.num) zv)
          simp only [e1]
          refine Fine.val h (cv := if ok then .tuple #[zv, .bool false] else zv) ?_ e2
          unfold Instr.lookup
          simp only [Sem.run_bind, run_underlying' hu, Result.andThen_ok, Sem.run_pure, run_getObj_map g1, checkKey_ok hk hv, findKey_eq hd (f2 hf), hzero]
        | yes a =>
          obtain ⟨j, u, e3, e4⟩ := f1 a hf
          obtain ⟨v, e1, e2⟩ := lkRes_ok (ok := ok) (f := true) e4
          simp only [e1]
          refine Fine.val h (cv := if ok then .tuple #[u, .bool true] else u) ?_ e2
          unfold Instr.lookup
          simp only [Sem.run_bind, run_underlying' hu, Result.andThen_ok, Sem.run_pure, run_getObj_map g1, checkKey_ok hk hv, findKey_eq hd e3]

end Go.Ev

/- Maps turned, cleared rows, views, and the functions without a body. -/
namespace Go.Ev

variable {P : Program} {σ : Sg} {s : St} {w : World}

theorem RO_map {n : Nat} {p : Pos} {es : List (AV × AV)} {ms : Array MapEntry} {ck : Nat} (hb : σ.blk p < w.heap.size) (h : RMs σ n es ms.toList) : RO P σ n p (up w (σ.blk p) (.map ms ck)) (.map es) :=
  ⟨ms, ck, up_same hb, h⟩

theorem sameBits_key {ks : Bool} {v : Value} (h : isKey ks v) : Instr.sameBits 10000 v v = true := by
  cases ks
  · obtain ⟨k, i, rfl⟩ := h; simp [Instr.sameBits]
  · obtain ⟨b, rfl⟩ := h
    have : (b == b) = true := by rw [← bytes_beq]; simp
    simp only [Instr.sameBits]
    exact this

/-- The entry that a key has, or none, and what a map is behind a store. -/
theorem putM_ok {ks : Bool} {kt : TypeId} {d : TypeDesc} {n : Nat} (hd : P.underlying kt = some d) (hk : KeyOK P kt ks) {x a : AV} {v u : Value} (hx : RV σ n x v) (ha : RV σ n a u) (hv : isKey ks v) : ∀ (es : List (AV × AV)) (ms : List MapEntry) (i : Nat) (l : List (AV × AV)),
    RMs σ n es ms → putM x a es = some l →
    (Instr.findNow d v ms i = some none ∧ ∀ ck, RMs σ n l (ms ++ [{ key := v, val := u, born := ck }])) ∨
    ∃ j e u', Instr.findNow d v ms i = some (some (i + j, u')) ∧ ms[j]? = some e ∧ e.key = v ∧ RMs σ n l (ms.modify j fun e => { e with key := v, val := u })
  | [], ms, i, l, h, hp => by
    have : ms = [] := h
    subst this
    simp only [putM, Option.some.injEq] at hp
    subst hp
    exact .inl ⟨rfl, fun ck => ⟨_, _, rfl, hx, ha, rfl⟩⟩
  | (y, b) :: es, ms, i, l, ⟨e, r, h1, h2, h3, h4⟩, hp => by
    subst h1
    simp only [putM] at hp
    cases hq : keyEq x y with
    | none => rw [hq] at hp; cases hp
    | some q =>
      rw [hq] at hp
      obtain ⟨hs, hs2⟩ := sameNow_ok hd hk hx h2 hv hq
      cases q with
      | true =>
        simp only [Option.some.injEq] at hp
        subst hp
        refine .inr ⟨0, e, e.val, ?_, rfl, (hs2 rfl).symm, ?_⟩
        · simp only [Instr.findNow, hs, Nat.add_zero]
        · simp only [List.modify_zero_cons]
          exact ⟨_, _, rfl, hx, ha, h4⟩
      | false =>
        simp only at hp
        cases hr : putM x a es with
        | none => rw [hr] at hp; cases hp
        | some l' =>
          rw [hr] at hp
          simp only [Option.some.injEq] at hp
          subst hp
          rcases putM_ok hd hk hx ha hv es r (i + 1) l' h4 hr with ⟨e1, e2⟩ | ⟨j, e', u', e1, e2, e3, e4⟩
          · refine .inl ⟨by simp only [Instr.findNow, hs, e1], fun ck => ⟨e, _, rfl, h2, h3, e2 ck⟩⟩
          · refine .inr ⟨j + 1, e', u', by simp only [Instr.findNow, hs, e1]; rw [show i + 1 + j = i + (j + 1) by omega], by simpa using e2, e3, ?_⟩
            simp only [List.modify_succ_cons]
            exact ⟨e, _, rfl, h2, h3, e4⟩

theorem mapup_fine (h : Rel P σ s w) {t kt el : TypeId} {ks : Bool} (hu : P.underlying t = some (.map kt el)) (hk : KeyOK P kt ks)
    {m k a : AV} {vm vk va : Value} (rm : RV σ s.nx.num m vm) (rk : RV σ s.nx.num k vk) (ra : RV σ s.nx.num a va) : Fine P σ s w (doMapup ks m k a s) (do Instr.mapUpdate t vm vk va; pure undef) := by
  obtain ⟨hh, nx⟩ := s
  unfold doMapup
  cases hok : okKey ks k with
  | false => exact Fine.fail
  | true =>
    have hv := okKey_val hok rk
    obtain ⟨d, hd⟩ := hk.desc
    simp only
    cases m <;> simp only <;> try exact Fine.fail
    rename_i p
    simp only [RV] at rm
    obtain ⟨_, rfl⟩ := rm
    cases hp : PT.get hh p with
    | none => exact Fine.fail
    | some o =>
      cases o <;> try exact Fine.fail
      rename_i es
      obtain ⟨_, ms, ck, g1, g2⟩ := h.obj p _ hp
      simp only
      cases hl : putM k a es with
      | none => exact Fine.fail
      | some l =>
        simp only
        have hb := h.lt hp
        have und : RV σ nx.num (.tup []) undef := by simp only [RV]; exact ⟨#[], rfl, RVs_nil.2 rfl⟩
        rcases putM_ok hd hk rk ra hv es ms.toList 0 l g2 hl with ⟨e1, e2⟩ | ⟨j, e, u', e1, e2, e3, e4⟩
        · refine Fine.st (cv := undef) (w' := up w (σ.blk p) (.map (ms.push { key := vk, val := va, born := ck }) (ck + 1))) ?_ und
            (Rel.put h hp (RO_map hb (by simpa using e2 ck))) (Goes.put (s := .mk hh nx) hp rfl _)
          unfold Instr.mapUpdate
          simp only [Sem.run_bind, run_underlying' hu, Result.andThen_ok, run_getObj_map g1, checkKey_ok hk hv, findKey_eq hd e1, run_setObj_map g1, Sem.run_pure]
        · have hm : ms[j]? = some e := by rw [← Array.getElem?_toList]; exact e2
          rw [Nat.zero_add] at e1
          refine Fine.st (cv := undef) (w' := up w (σ.blk p) (.map (ms.modify j fun e => { e with key := vk, val := va }) ck)) ?_ und
            (Rel.put h hp (RO_map hb (by rw [Array.toList_modify]; exact e4))) (Goes.put (s := .mk hh nx) hp rfl _)
          unfold Instr.mapUpdate
          have hstay : ∀ w', (Instr.keyThatStays vk vk).run P w' = .ok vk w' := fun w' => by unfold Instr.keyThatStays; rw [if_pos (sameBits_key hv)]; rfl
          simp only [Sem.run_bind, run_underlying' hu, Result.andThen_ok, run_getObj_map g1, checkKey_ok hk hv, findKey_eq hd e1, hm, Option.map_some, Option.getD_some, e3, hstay, run_setObj_map g1, Sem.run_pure]

theorem delM_ok {ks : Bool} {kt : TypeId} {d : TypeDesc} {n : Nat} (hd : P.underlying kt = some d) (hk : KeyOK P kt ks) {x : AV} {v : Value} (hx : RV σ n x v) (hv : isKey ks v) : ∀ (es : List (AV × AV)) (ms : List MapEntry) (i : Nat) (l : List (AV × AV)),
    RMs σ n es ms → delM x es = some l →
    (Instr.findNow d v ms i = some none ∧ RMs σ n l ms) ∨ ∃ j u', Instr.findNow d v ms i = some (some (i + j, u')) ∧ j < ms.length ∧ RMs σ n l (ms.eraseIdx j)
  | [], ms, i, l, h, hp => by
    have : ms = [] := h
    subst this
    simp only [delM, Option.some.injEq] at hp
    subst hp
    exact .inl ⟨rfl, rfl⟩
  | (y, b) :: es, ms, i, l, ⟨e, r, h1, h2, h3, h4⟩, hp => by
    subst h1
    simp only [delM] at hp
    cases hq : keyEq x y with
    | none => rw [hq] at hp; cases hp
    | some q =>
      rw [hq] at hp
      obtain ⟨hs, hs2⟩ := sameNow_ok hd hk hx h2 hv hq
      cases q with
      | true =>
        simp only [Option.some.injEq] at hp
        subst hp
        exact .inr ⟨0, e.val, by simp only [Instr.findNow, hs, Nat.add_zero], by simp, by simpa using h4⟩
      | false =>
        simp only at hp
        cases hr : delM x es with
        | none => rw [hr] at hp; cases hp
        | some l' =>
          rw [hr] at hp
          simp only [Option.some.injEq] at hp
          subst hp
          rcases delM_ok hd hk hx hv es r (i + 1) l' h4 hr with ⟨e1, e2⟩ | ⟨j, u', e1, e2, e3⟩
          · exact .inl ⟨by simp only [Instr.findNow, hs, e1], e, r, rfl, h2, h3, e2⟩
          · refine .inr ⟨j + 1, u', by simp only [Instr.findNow, hs, e1]; rw [show i + 1 + j = i + (j + 1) by omega], by simp; omega, ?_⟩
            rw [List.eraseIdx_cons_succ]
            exact ⟨e, _, rfl, h2, h3, e3⟩

theorem del_fine (h : Rel P σ s w) {argTypes : Array TypeId} {ty t kt el : TypeId} {ks : Bool} (h0 : argTypes[0]? = some t) (hu : P.underlying t = some (.map kt el)) (hk : KeyOK P kt ks)
    {m k : AV} {vm vk : Value} (rm : RV σ s.nx.num m vm) (rk : RV σ s.nx.num k vk) : Fine P σ s w (doDel ks m k s) (Builtin.delete_ argTypes ty #[vm, vk]) := by
  obtain ⟨hh, nx⟩ := s
  unfold doDel
  cases hok : okKey ks k with
  | false => exact Fine.fail
  | true =>
    have hv := okKey_val hok rk
    obtain ⟨d, hd⟩ := hk.desc
    have und : RV σ nx.num (.tup []) (.tuple #[]) := by simp only [RV]; exact ⟨#[], rfl, RVs_nil.2 rfl⟩
    simp only
    cases m <;> simp only <;> try exact Fine.fail
    case nilm =>
      simp only [RV] at rm
      subst rm
      refine Fine.val h (cv := .tuple #[]) ?_ und
      unfold Builtin.delete_
      simp only [h0, List.getElem?_toArray, List.getElem?_cons_zero, List.getElem?_cons_succ, Sem.run_bind, run_underlying' hu, Result.andThen_ok, checkKey_ok hk hv, Sem.run_pure]
    case map p =>
      simp only [RV] at rm
      obtain ⟨_, rfl⟩ := rm
      cases hp : PT.get hh p with
      | none => exact Fine.fail
      | some o =>
        cases o <;> try exact Fine.fail
        rename_i es
        obtain ⟨_, ms, ck, g1, g2⟩ := h.obj p _ hp
        simp only
        cases hl : delM k es with
        | none => exact Fine.fail
        | some l =>
          simp only
          have hb := h.lt hp
          rcases delM_ok hd hk rk hv es ms.toList 0 l g2 hl with ⟨e1, e2⟩ | ⟨j, u', e1, e2, e3⟩
          · refine Fine.st (cv := .tuple #[]) (w' := up w (σ.blk p) (.map ms ck)) ?_ und (Rel.put h hp (RO_map hb e2)) (Goes.put (s := .mk hh nx) hp rfl _)
            unfold Builtin.delete_
            simp only [h0, List.getElem?_toArray, List.getElem?_cons_zero, List.getElem?_cons_succ, Sem.run_bind, run_underlying' hu, Result.andThen_ok, run_getObj_map g1, checkKey_ok hk hv, findKey_eq hd e1, run_setObj_map g1, Sem.run_pure]
          · rw [Nat.zero_add] at e1
            have hj : j < ms.size := by simpa using e2
            refine Fine.st (cv := .tuple #[]) (w' := up w (σ.blk p) (.map (ms.eraseIdxIfInBounds j) ck)) ?_ und (Rel.put h hp (RO_map hb (by rw [Array.eraseIdxIfInBounds, dif_pos hj, Array.toList_eraseIdx]; exact e3))) (Goes.put (s := .mk hh nx) hp rfl _)
            unfold Builtin.delete_
            simp only [h0, List.getElem?_toArray, List.getElem?_cons_zero, List.getElem?_cons_succ, Sem.run_bind, run_underlying' hu, Result.andThen_ok, run_getObj_map g1, checkKey_ok hk hv, findKey_eq hd e1, run_setObj_map g1, Sem.run_pure]

theorem RMs_length {n : Nat} : ∀ {es : List (AV × AV)} {ms : List MapEntry}, RMs σ n es ms → ms.length = lenM es
  | [], ms, h => by have : ms = [] := h; subst this; rfl
  | (_, _) :: es, ms, ⟨e, r, h1, _, _, h4⟩ => by subst h1; simp [lenM, RMs_length h4]

theorem lenm_fine (h : Rel P σ s w) {ts : Array TypeId} {ty t kt el : TypeId} (h0 : ts[0]? = some t) (hu : P.underlying t = some (.map kt el)) {x : AV} {v : Value} (rx : RV σ s.nx.num x v) :
    Fine P σ s w (doLenm x s) (Builtin.len_ ts ty #[v]) := by
  cases x <;> simp only [doLenm] <;> try exact Fine.fail
  case nilm =>
    simp only [RV] at rx
    subst rx
    refine Fine.val h (cv := .int .i64 0) ?_ (by simp [RV])
    unfold Builtin.len_
    simp only [h0, List.getElem?_toArray, List.getElem?_cons_zero, Sem.run_bind, run_underlying' hu, Result.andThen_ok, Sem.run_pure]
    rfl
  case map p =>
    simp only [RV] at rx
    obtain ⟨_, rfl⟩ := rx
    cases hp : PT.get s.heap p with
    | none => exact Fine.fail
    | some o =>
      cases o <;> try exact Fine.fail
      rename_i es
      obtain ⟨_, ms, ck, g1, g2⟩ := h.obj p _ hp
      have hl := RMs_length g2
      refine Fine.val h (cv := .int .i64 (lenM es : Nat)) ?_ (by simp only [RV]; rfl)
      unfold Builtin.len_
      simp only [h0, List.getElem?_toArray, List.getElem?_cons_zero, Sem.run_bind, run_underlying' hu, Result.andThen_ok, run_getObj_map g1, Sem.run_pure]
      simp [goInt, ← hl]

theorem clr_fine (h : Rel P σ s w) {ts : Array TypeId} {ty t el : TypeId} {i : TypeInfo} {z : List AV} (h0 : ts[0]? = some t) (hu : P.underlying t = some (.slice el)) (hi : P.info? el = some i) (hz : zeroOf P el = some z)
    {x : AV} {v : Value} (rx : RV σ s.nx.num x v) : Fine P σ s w (doClr i.size z x s) (Builtin.clear_ ts ty #[v]) := by
  obtain ⟨i', zv, e1, e2, e3⟩ := zeroOf_some hz
  rw [hi] at e1; cases e1
  have und : ∀ {σ : Sg} {n : Nat}, RV σ n (.tup []) (.tuple #[]) := by intro σ n; simp only [RV]; exact ⟨#[], rfl, RVs_nil.2 rfl⟩
  cases x <;> simp only [doClr] <;> try exact Fine.fail
  case nils =>
    simp only [RV] at rx
    subst rx
    refine Fine.val h (cv := .tuple #[]) ?_ und
    unfold Builtin.clear_
    simp only [h0, List.getElem?_toArray, List.getElem?_cons_zero, Sem.run_bind, run_underlying' hu, Result.andThen_ok, Sem.run_pure]
  case nilm =>
    simp only [RV] at rx
    subst rx
    refine Fine.val h (cv := .tuple #[]) ?_ und
    unfold Builtin.clear_
    simp only [h0, List.getElem?_toArray, List.getElem?_cons_zero, Sem.run_bind, run_underlying' hu, Result.andThen_ok, Sem.run_pure]
  case map p =>
    obtain ⟨hh, nx⟩ := s
    simp only [RV] at rx
    obtain ⟨_, rfl⟩ := rx
    simp only
    cases hp : PT.get hh p with
    | none => exact Fine.fail
    | some o =>
      cases o <;> try exact Fine.fail
      rename_i es
      obtain ⟨_, ms, ck, g1, g2⟩ := h.obj p _ hp
      refine Fine.st (cv := .tuple #[]) (w' := up w (σ.blk p) (.map #[] ck)) ?_ und (Rel.put h hp (RO_map (h.lt hp) rfl)) (Goes.put (s := .mk hh nx) hp rfl _)
      unfold Builtin.clear_
      simp only [h0, List.getElem?_toArray, List.getElem?_cons_zero, Sem.run_bind, run_underlying' hu, Result.andThen_ok, run_getObj_map g1, run_setObj_map g1, Sem.run_pure]
  case slice p o n c ex sz =>
    rw [RV_slice] at rx
    obtain ⟨h1, a, k, rfl, h3, h4, h5, h6, h7⟩ := rx
    cases hb : Nat.beq i.size sz && Nat.beq (lenL z) i.size with
    | false => exact Fine.fail
    | true =>
      rw [Bool.and_eq_true] at hb
      have hs1 := Nat.eq_of_beq_eq_true hb.1
      have hs2 := Nat.eq_of_beq_eq_true hb.2
      subst hs1
      rw [lenL_eq] at hs2
      simp only
      cases n with
      | zero =>
        refine Fine.val h (cv := .tuple #[]) ?_ und
        unfold Builtin.clear_
        simp only [h0, List.getElem?_toArray, List.getElem?_cons_zero, Sem.run_bind, run_underlying' hu, Result.andThen_ok, Sem.run_pure]
      | succ n =>
        simp only
        cases hs : stCells p o (rep (n + 1) z) s with
        | none => exact Fine.fail
        | some s' =>
          have hr := rep_ok (e3 σ s.nx.num) (n + 1)
          have hzl := RVs_length (e3 σ s.nx.num)
          simp at hzl
          obtain ⟨w', g1, g2, g3⟩ := h.storeCells hs hr
          refine Fine.st (cv := .tuple #[]) ?_ und g2 g3
          have ha := h6 (by omega)
          subst ha
          have hzc : (Builtin.zeroCells zv.cells (n + 1)).toList = ((Array.range ((n + 1) * z.length)).map (zv.cells[· % zv.cells.size]!)).toList := by
            unfold Builtin.zeroCells; rw [hzl]
          unfold Builtin.clear_ zeroValue
          simp only [h0, List.getElem?_toArray, List.getElem?_cons_zero, Sem.run_bind, run_underlying' hu, Result.andThen_ok, run_typeInfo' hi, e2, Sem.run_pure, hzc, g1]

theorem getC_wr {p : Pos} {r : AV} {out : AV × St} (h : (OC.rec (motive := fun _ => OR) .fail (fun _ _ _ wr _ => Bool.rec (motive := fun _ => OR) .fail (.val r) wr) (getC s p) : OR).out s = some out) :
    ∃ t len el ex, PT.get s.heap p = some (.cells t len el true ex) ∧ out = (r, s) := by
  cases hc : getC s p with
  | no => rw [hc] at h; cases h
  | yes t len el wr ex =>
    rw [hc] at h
    cases wr with
    | false => cases h
    | true => cases h; exact ⟨t, len, el, ex, getC_yes hc, rfl⟩

/-- Bytes as they are, seen as bytes again: their block is marked. -/
theorem s2s_fine (h : Rel P σ s w) {t e : TypeId} (hu : P.underlying t = some (.slice e)) (he : P.underlying e = some (.int .u8)) {x : AV} {v : Value} (rx : RV σ s.nx.num x v) : Fine P σ s w (doS2s x s) (convert t t v) := by
  cases x <;> simp only [doS2s] <;> try exact Fine.fail
  rename_i p o n c ex sz
  cases n with
  | zero => exact Fine.fail
  | succ n =>
    intro u s' hv
    obtain ⟨tr, len, el, ex', hp, hout⟩ := getC_wr hv
    cases hout
    have rx' := rx
    rw [RV_slice] at rx
    obtain ⟨h1, a, k, rfl, h3, h4, h5, h6, h7⟩ := rx
    have ha := h6 (by omega)
    subst ha
    obtain ⟨hpn, cc, fz, g1, g2, g3, g4, g5, g6⟩ := h.obj p _ hp
    let fz' : Nat × Nat := if fz.1 == fz.2 then (cc.size, cc.size + 1) else (min fz.1 cc.size, max fz.2 (cc.size + 1))
    have hlt := h.lt hp
    have hrun : (markStringish ⟨σ.blk p, σ.base p + o, none⟩).run P w = .ok () (up w (σ.blk p) (.cells cc el fz')) := by
      unfold markStringish
      have hsh : w.shape? (σ.blk p) = some (el, cc.size) := by unfold World.shape?; rw [g1]
      simp only [Sem.run_bind, run_shape, Result.andThen_ok, hsh, run_freeze]
      congr 1
      unfold World.freeze
      rw [if_neg (by omega)]
      show World.mk (w.heap.modify (σ.blk p) _) _ _ _ _ = World.mk (w.heap.setIfInBounds (σ.blk p) _) _ _ _ _
      congr 1
      apply Array.ext_getElem?
      intro j
      rw [Array.getElem?_modify, Array.getElem?_setIfInBounds]
      by_cases hj : σ.blk p = j
      · subst hj
        rw [if_pos rfl, if_pos rfl, if_pos hlt, g1]
        obtain ⟨lo, hi⟩ := fz
        rfl
      · rw [if_neg hj, if_neg hj]
    have R : Rel P σ (putC s p (some (.cells tr len el true ex'))) (up w (σ.blk p) (.cells cc el fz')) := Rel.put h hp ⟨cc, fz', up_same hlt, g2, g3, g4, fun _ => by
      rcases g5 rfl with e | e
      · have : fz' = (cc.size, cc.size + 1) := by show (if fz.1 == fz.2 then _ else _) = _; rw [if_pos (by simpa using e)]
        rw [this]; exact .inr (Nat.le_refl _)
      · by_cases e2 : fz.1 = fz.2
        · have : fz' = (cc.size, cc.size + 1) := by show (if fz.1 == fz.2 then _ else _) = _; rw [if_pos (by simpa using e2)]
          rw [this]; exact .inr (Nat.le_refl _)
        · have : fz' = (min fz.1 cc.size, max fz.2 (cc.size + 1)) := by show (if fz.1 == fz.2 then _ else _) = _; rw [if_neg (by simpa using e2)]
          rw [this]; exact .inr (by simp; omega), g6⟩
    have G := Goes.put (σ := σ) (s := s) (w := w) (o' := .cells tr len el true ex') hp rfl (.cells cc el fz')
    -- the state's tree says the same
    have same : ∀ q, PT.get (putC s p (some (.cells tr len el true ex'))).heap q = PT.get s.heap q := fun q => by
      rw [putC_heap, PT.get_set]
      split
      · rename_i e; rw [e, hp]
      · rfl
    intro _
    refine ⟨.slice (some ⟨σ.blk p, σ.base p + o, none⟩) (n + 1) k, σ, _, ?_, rx', ⟨fun q ob hq => ?_, fun q r ob ob' hq hr => R.inj q r ob ob' (by rw [same]; exact hq) (by rw [same]; exact hr)⟩,
      ⟨Sg.le_refl _ _, G.size, G.same, fun b hb => ?_, fun _ h => .inl h, fun _ h => .inl h, G.tape, G.os, G.output⟩⟩
    · unfold convert
      simp only [Sem.run_bind, run_underlying' hu, Result.andThen_ok, run_underlying' he, beq_self_eq_true, hrun, Sem.run_pure]
    · have := R.obj q ob (by rw [same]; exact hq)
      rwa [putC_nx] at this
    · obtain ⟨q, ob, hq, ho, hb⟩ := hb
      exact .inl ⟨q, ob, hq, ho, hb⟩

theorem p2u_fine (h : Rel P σ s w) {t t' u : TypeId} {i : TypeInfo} (hu : P.underlying t = some (.pointer u)) (hu' : P.underlying t' = some .unsafePointer) (hi : P.info? u = some i) {x : AV} {v : Value} (rx : RV σ s.nx.num x v) :
    Fine P σ s w (doP2u i.size x s) (convert t t' v) := by
  cases x <;> simp only [doP2u] <;> try exact Fine.fail
  case nilp =>
    simp only [RV] at rx
    subst rx
    refine Fine.val h (cv := .pointer none) ?_ (by simp [RV])
    unfold convert Conv.unsafePointer
    simp only [Sem.run_bind, run_underlying' hu, run_underlying' hu', Result.andThen_ok, Sem.run_pure]
  case ptr p o =>
    have rx' := rx
    simp only [RV] at rx
    obtain ⟨h1, rfl⟩ := rx
    cases hp : PT.get s.heap p with
    | none => exact Fine.fail
    | some ob =>
      cases ob <;> try exact Fine.fail
      rename_i tr len el wr ex
      simp only
      cases hb : Nat.blt o len && Nat.ble 1 i.size with
      | false => exact Fine.fail
      | true =>
        rw [Bool.and_eq_true, blt_eq, Nat.ble_eq] at hb
        obtain ⟨_, cc, fz, g1, g2, g3, g4, g5, g6⟩ := h.obj p _ hp
        refine Fine.val h (cv := .pointer (some ⟨σ.blk p, σ.base p + o, none⟩)) ?_ rx'
        have hsh : w.shape? (σ.blk p) = some (el, cc.size) := by unfold World.shape?; rw [g1]
        have hview : (viewAt (σ.blk p)).run P w = .ok none w := by unfold viewAt; simp [hsh]
        have hseen : (Conv.seenAt ⟨σ.blk p, σ.base p + o, none⟩).run P w = .ok ⟨σ.blk p, σ.base p + o, none⟩ w := by
          unfold Conv.seenAt; simp [hview]
        have hin : (cellsIn (σ.blk p)).run P w = .ok (some cc.size) w := by unfold cellsIn; simp [hsh]
        have q1 : ¬ (i.size = 0) := by omega
        have q2 : ¬ (σ.base p + o ≥ cc.size) := by omega
        unfold convert Conv.unsafePointer
        simp only [Sem.run_bind, run_underlying' hu, run_underlying' hu', Result.andThen_ok, hseen, hin, run_sizeOf' hi, q1, decide_false, q2, Bool.false_and, Bool.or_false, Bool.false_eq_true, if_false, Sem.run_pure]

/-- A whole variable of a type lies at its own beginning. -/
theorem lies_self {u : TypeId} {n : Nat} {i : TypeInfo} (hi : P.info? u = some i) (hz : i.size ≠ 0) (hn : n = i.size) (hd : 0 < P.depth) : liesAt P P.depth u (n / P.cellsOf u) 0 u 1 = true := by
  have hc : P.cellsOf u = i.size := by unfold Program.cellsOf; rw [hi]; rfl
  obtain ⟨d, hd'⟩ : ∃ d, P.depth = d + 1 := ⟨P.depth - 1, by omega⟩
  rw [hd', liesAt]
  have : rowAt P (sameLayout P P.depth · u) P.depth u (n / P.cellsOf u) 0 1 = true := by
    rw [hd', rowAt]
    have hs : sameLayout P (d + 1) u u = true := by rw [sameLayout]; simp
    have h1 : n / i.size = 1 := by rw [hn]; exact Nat.div_self (by omega)
    simp only [hc, h1, hz, if_false, Nat.zero_div, Nat.zero_mod, hs]
    simp
  rw [this]; rfl

theorem depth_pos : 0 < P.depth := by unfold Program.depth; omega

theorem u2p_fine (h : Rel P σ s w) {t t' u : TypeId} {i : TypeInfo} (hu : P.underlying t = some .unsafePointer) (hu' : P.underlying t' = some (.pointer u)) (hi : P.info? u = some i) {x : AV} {v : Value} (rx : RV σ s.nx.num x v) :
    Fine P σ s w (doU2p u i.size x s) (convert t t' v) := by
  cases x <;> simp only [doU2p] <;> try exact Fine.fail
  case nilp =>
    simp only [RV] at rx
    subst rx
    refine Fine.val h (cv := .pointer none) ?_ (by simp [RV])
    unfold convert Conv.unsafePointer
    simp only [Sem.run_bind, run_underlying' hu, run_underlying' hu', Result.andThen_ok, Sem.run_pure]
  case ptr p o =>
    have rx' := rx
    simp only [RV] at rx
    obtain ⟨h1, rfl⟩ := rx
    cases o with
    | succ o => exact Fine.fail
    | zero =>
      simp only
      cases hp : PT.get s.heap p with
      | none => exact Fine.fail
      | some ob =>
        cases ob <;> try exact Fine.fail
        rename_i tr len el wr ex
        simp only
        cases hb : ex && Nat.beq el u && Nat.beq len i.size && Nat.ble 1 i.size with
        | false => exact Fine.fail
        | true =>
          simp only [Bool.and_eq_true, Nat.ble_eq] at hb
          obtain ⟨⟨⟨b1, b2⟩, b3⟩, b4⟩ := hb
          have b2 := Nat.eq_of_beq_eq_true b2
          have b3 := Nat.eq_of_beq_eq_true b3
          subst b2
          obtain ⟨_, cc, fz, g1, g2, g3, g4, g5, g6⟩ := h.obj p _ hp
          obtain ⟨k1, k2⟩ := g6 b1
          refine Fine.val h (cv := .pointer (some ⟨σ.blk p, σ.base p + 0, none⟩)) ?_ rx'
          have hsh : w.shape? (σ.blk p) = some (el, cc.size) := by unfold World.shape?; rw [g1]
          have hview : (viewAt (σ.blk p)).run P w = .ok none w := by unfold viewAt; simp [hsh]
          have hseen : (Conv.seenAt ⟨σ.blk p, σ.base p + 0, none⟩).run P w = .ok ⟨σ.blk p, σ.base p + 0, none⟩ w := by
            unfold Conv.seenAt; simp [hview]
          have hva : (variablesAt ⟨σ.blk p, σ.base p + 0, none⟩ el 1).run P w = .ok true w := by
            unfold variablesAt
            simp only [Sem.run_bind, run_program, Result.andThen_ok, run_shape, hsh, k1, Nat.zero_add, Sem.run_pure]
            rw [lies_self hi (by omega) (by omega) depth_pos]
          unfold convert Conv.unsafePointer
          simp only [Sem.run_bind, run_underlying' hu, run_underlying' hu', Result.andThen_ok, hseen, run_sizeOf' hi, hva, Bool.or_true, if_true, Sem.run_pure]


theorem lies_bytes {u : TypeId} {n o m : Nat} {i : TypeInfo} (hi : P.info? u = some i) (hz : i.size = 1) (hn : o + m ≤ n) : liesAt P P.depth u (n / P.cellsOf u) o u m = true := by
  have hc : P.cellsOf u = 1 := by unfold Program.cellsOf; rw [hi]; exact hz
  have hd := depth_pos (P := P)
  obtain ⟨d, hd'⟩ : ∃ d, P.depth = d + 1 := ⟨P.depth - 1, by omega⟩
  rw [hd', liesAt]
  have : rowAt P (sameLayout P P.depth · u) P.depth u (n / P.cellsOf u) o m = true := by
    rw [hd', rowAt]
    have hs : sameLayout P (d + 1) u u = true := by rw [sameLayout]; simp
    simp only [hc, Nat.div_one, Nat.mod_one, hs]
    simp [hn]
  rw [this]; rfl

theorem run_loadBytes : ∀ (b : List Nat) (a : Addr) (acc : ByteArray), (∀ j x, b[j]? = some x → w.cell? (a.add j) = some (.int .u8 ((x : Nat) : Int))) →
    (loadBytes a acc b.length).run P w = .ok (b.foldl (fun a x => a.push (UInt8.ofNat x)) acc) w
  | [], a, acc, _ => rfl
  | x :: b, a, acc, h => by
    rw [List.length_cons, loadBytes]
    have h0 := h 0 x (by simp)
    have ha : a.add 0 = a := by unfold Addr.add; split <;> simp_all
    rw [ha] at h0
    have hadd : ∀ j, (a.add 1).add j = a.add (j + 1) := fun j => by
      unfold Addr.add
      cases a with
      | mk bl of sp => cases sp <;> simp [Addr.mk.injEq, Nat.add_assoc, Nat.add_comm 1]
    simp only [Sem.run_bind, run_load, h0, Result.andThen_ok]
    rw [run_loadBytes b (a.add 1) _ fun j y hj => by rw [hadd]; exact h (j + 1) y (by simpa using hj)]
    rfl

theorem freeze_up {p : Pos} {a n : Nat} {cc : Array Value} {el : TypeId} {fz : Nat × Nat} (hn : n ≠ 0) (hc : w.heap[σ.blk p]? = some (.cells cc el fz)) :
    ∃ fz', w.freeze ⟨σ.blk p, a, none⟩ n = up w (σ.blk p) (.cells cc el fz') := by
  obtain ⟨lo, hi⟩ := fz
  refine ⟨if lo == hi then (a, a + n) else (min lo a, max hi (a + n)), ?_⟩
  unfold World.freeze up
  rw [if_neg hn]
  congr 1
  apply Array.ext_getElem?
  intro j
  rw [Array.getElem?_modify]
  by_cases hj : σ.blk p = j
  · subst hj
    have hlt := (Array.getElem?_eq_some_iff.1 hc).1
    rw [if_pos rfl, hc, Array.getElem?_setIfInBounds_self_of_lt hlt]
    rfl
  · rw [if_neg hj, Array.getElem?_setIfInBounds_ne hj]

theorem ustr_eq {ats : Array TypeId} {ty t : TypeId} (h0 : ats[0]? = some t) (q : Option Addr) (k : IntKind) (n : Int) : (Builtin.unsafeString_ ats ty #[.pointer q, .int k n]).run P w =
    ((do
      if n < 0 then runtimePanic (.error "unsafe.String: len out of range")
      if n > IntKind.i64.max then unsupported (.unsafePointer "String: a length above the largest int")
      match q with
      | none =>
        if n = 0 then pure (.string .empty)
        else runtimePanic (.error "unsafe.String: ptr is nil and len is not zero")
      | some a =>
        if n = 0 then pure (.string .empty)
        else if ← variablesAt a (← elemOf t) n.toNat then do
          let s ← loadBytes a .empty n.toNat
          freeze a n.toNat
          pure (.string s)
        else unsupported (.unsafePointer "String: not so many bytes at ptr") : Sem Value)).run P w := by
  unfold Builtin.unsafeString_
  rw [h0]
  rfl

theorem ustr_fine (h : Rel P σ s w) {ats : Array TypeId} {ty t e : TypeId} {i : TypeInfo} (h0 : ats[0]? = some t) (hu : P.underlying t = some (.pointer e)) (hi : P.info? e = some i) (hz : i.size = 1)
    {x n : AV} {v u : Value} (rx : RV σ s.nx.num x v) (rn : RV σ s.nx.num n u) : Fine P σ s w (doUstr e x n s) (Builtin.unsafeString_ ats ty #[v, u]) := by
  cases n <;> simp only [doUstr] <;> try exact Fine.fail
  rename_i k m
  cases k <;> try exact Fine.fail
  cases m <;> try exact Fine.fail
  rename_i m
  simp only [RV] at rn
  subst rn
  cases m with
  | zero =>
    cases x <;> try exact Fine.fail
    · simp only [RV] at rx
      subst rx
      refine Fine.val h (cv := .string .empty) ?_ (by simp only [RV]; exact ⟨_, rfl, rfl, rfl⟩)
      rw [ustr_eq h0]
      simp [IntKind.max, IntKind.bits, IntKind.signed]
    · simp only [RV] at rx
      obtain ⟨h1, rfl⟩ := rx
      refine Fine.val h (cv := .string .empty) ?_ (by simp only [RV]; exact ⟨_, rfl, rfl, rfl⟩)
      rw [ustr_eq h0]
      simp [IntKind.max, IntKind.bits, IntKind.signed]
  | succ m =>
    cases x <;> try exact Fine.fail
    rename_i p o
    simp only
    simp only [RV] at rx
    obtain ⟨h1, rfl⟩ := rx
    cases hp : PT.get s.heap p with
    | none => exact Fine.fail
    | some ob =>
      cases ob <;> try exact Fine.fail
      rename_i tr len el wr ex
      simp only
      cases hb : wr && Nat.ble (Nat.add o (m + 1)) len && Nat.beq el e && Nat.ble (m + 1) 9223372036854775807 with
      | false => exact Fine.fail
      | true =>
        simp only [Bool.and_eq_true, Nat.ble_eq] at hb
        obtain ⟨⟨⟨b1, b2⟩, b3⟩, b4⟩ := hb
        have b3 := Nat.eq_of_beq_eq_true b3
        subst b3
        subst b1
        simp only
        cases hl : rd tr (m + 1) o with
        | none => exact Fine.fail
        | some l =>
          simp only
          cases hbt : toBytes l with
          | none => exact Fine.fail
          | some b =>
            simp only
            have hld : ldCells p o (m + 1) s = some l := by
              rw [ldCells_eq]
              have : getC s p = .yes tr len el true ex := by unfold getC; rw [hp]
              rw [this]
              simp only
              rw [if_pos (show o + (m + 1) ≤ len from b2)]; exact hl
            obtain ⟨cs, g1, g2, _, _, g3⟩ := h.cells hld
            obtain ⟨e1, e2, e3⟩ := toBytes_ok l cs b g1 hbt
            obtain ⟨_, cc, fz, k1, k2, k3, k4, k5, k6⟩ := h.obj p _ hp
            obtain ⟨fz', hfz⟩ := freeze_up (a := σ.base p + o) (n := m + 1) (by omega) k1
            have hlen : b.length = m + 1 := by omega
            refine Fine.st (cv := .string (b.foldl (fun a x => a.push (UInt8.ofNat x)) .empty)) (σ' := σ) (w' := up w (σ.blk p) (.cells cc el fz')) ?_ ?_
              (h.put hp ⟨cc, fz', up_same (h.lt hp), k2, k3, k4, (fun hh => by cases hh), k6⟩) (Goes.put hp rfl _)
            · have hsh : w.shape? (σ.blk p) = some (el, cc.size) := by unfold World.shape?; rw [k1]
              have hva : (variablesAt ⟨σ.blk p, σ.base p + o, none⟩ el (m + 1)).run P w = .ok true w := by
                unfold variablesAt
                simp only [Sem.run_bind, run_program, Result.andThen_ok, run_shape, hsh, Sem.run_pure]
                rw [lies_bytes hi hz]
                rw [k2]
                have : o + (m + 1) ≤ len := b2
                omega
              have hel : (elemOf t).run P w = .ok el w := by
                unfold elemOf
                simp only [Sem.run_bind, run_underlying' hu, Result.andThen_ok, Sem.run_pure]
              have hlb := run_loadBytes (P := P) (w := w) b ⟨σ.blk p, σ.base p + o, none⟩ .empty (fun j y hj => by
                rw [addr_add]
                refine g3 j _ ?_
                rw [e3]
                simp [hj])
              rw [hlen] at hlb
              have q1 : ¬ (Int.ofNat (m + 1) < 0) := by simp only [Int.ofNat_eq_natCast]; omega
              have q2 : ¬ (Int.ofNat (m + 1) > IntKind.i64.max) := by simp [IntKind.max, IntKind.bits, IntKind.signed]; omega
              have q3 : ¬ (Int.ofNat (m + 1) = 0) := by simp only [Int.ofNat_eq_natCast]; omega
              rw [ustr_eq h0]
              simp only [Sem.run_bind, Sem.run_pure, Result.andThen_ok, q1, q2, q3, if_false, hel, hva, if_true]
              rw [show (Int.ofNat (m + 1)).toNat = m + 1 from rfl]
              simp only [Sem.run_bind, Sem.run_pure, Result.andThen_ok, hel, hva, if_true, hlb, run_freeze, hfz]
            · simp only [RV]
              refine ⟨_, rfl, ?_, by rw [push_bytes _ _ e2]; rfl⟩
              rw [← bytesL_length, push_bytes _ _ e2]
              simp [bytesL, hlen]

end Go.Ev

/- One operation of the model's code, told by the abstract one that stands for it. -/
namespace Go.Ev

variable {P : Program} {σ : Sg} {s : St} {w : World}

/-- An operation's answer, as a region takes it. -/
def FineN (P : Program) (σ : Sg) (s : St) (w : World) (r : OR) (sem : Sem Next) : Prop :=
  ∀ v s', r.out s = some (v, s') → Fresh σ s.nx.num s'.nx.num → ∃ cv σ' w', (sem.run P w = .ok (.value cv) w' ∨ (cv = undef ∧ sem.run P w = .ok .skip w')) ∧ RV σ' s'.nx.num v cv ∧ Rel P σ' s' w' ∧ Goes σ s w σ' s' w'

theorem FineN.v {r : OR} {sem : Sem Value} (h : Fine P σ s w r sem) : FineN P σ s w r (do pure (.value (← sem))) := fun v s' hv hf => by
  obtain ⟨cv, σ', w', h1, h2⟩ := h v s' hv hf
  exact ⟨cv, σ', w', .inl (by simp only [Sem.run_bind, h1, Result.andThen_ok, Sem.run_pure]), h2⟩

theorem FineN.u {r : OR} {sem : Sem Unit} (h : Fine P σ s w r (do sem; pure undef)) : FineN P σ s w r (do sem; pure .skip) := fun v s' hv hf => by
  obtain ⟨cv, σ', w', h1, h2⟩ := h v s' hv hf
  simp only [Sem.run_bind, Sem.run_pure] at h1
  cases hr : sem.run P w with
  | ok a w1 =>
    rw [hr] at h1
    simp only [Result.andThen_ok] at h1
    cases h1
    exact ⟨undef, σ', w', .inr ⟨rfl, by simp only [Sem.run_bind, hr, Result.andThen_ok, Sem.run_pure]⟩, h2⟩
  | _ => rw [hr] at h1; cases h1

theorem FineN.pv (h : Rel P σ s w) {r : OR} {sem : Sem Value} (hp : Pure P σ s.nx.num r sem) : FineN P σ s w r (do pure (.value (← sem))) := .v (Fine.of_pure h hp)
theorem FineN.val (h : Rel P σ s w) {v : AV} {cv : Value} (hr : RV σ s.nx.num v cv) : FineN P σ s w (.val v) (pure (.value cv)) := fun u s' hu _ => by
  cases hu
  exact ⟨cv, σ, w, .inl rfl, hr, h, Goes.refl _ _ _⟩

theorem RVs_consR {n : Nat} {vs : List AV} {v : Value} {r : List Value} (h : RVs σ n vs (v :: r)) : ∃ a l, vs = a :: l ∧ RV σ n a v ∧ RVs σ n l r := by
  cases vs with
  | nil => rw [RVs_nil] at h; cases h
  | cons a l => rw [RVs_cons] at h; exact ⟨a, l, rfl, h⟩
theorem RVs_nilR {n : Nat} {vs : List AV} (h : RVs σ n vs []) : vs = [] := by
  cases vs with
  | nil => rfl
  | cons a l => simp [RVs] at h
theorem RVs1 {n : Nat} {vs : List AV} {a : Value} (h : RVs σ n vs [a]) : ∃ x, vs = [x] ∧ RV σ n x a := by
  obtain ⟨x, l, rfl, h1, h2⟩ := RVs_consR h
  rw [RVs_nilR h2]; exact ⟨x, rfl, h1⟩
theorem RVs2 {n : Nat} {vs : List AV} {a b : Value} (h : RVs σ n vs [a, b]) : ∃ x y, vs = [x, y] ∧ RV σ n x a ∧ RV σ n y b := by
  obtain ⟨x, l, rfl, h1, h2⟩ := RVs_consR h
  obtain ⟨y, rfl, h3⟩ := RVs1 h2
  exact ⟨x, y, rfl, h1, h3⟩
theorem RVs3 {n : Nat} {vs : List AV} {a b c : Value} (h : RVs σ n vs [a, b, c]) : ∃ x y z, vs = [x, y, z] ∧ RV σ n x a ∧ RV σ n y b ∧ RV σ n z c := by
  obtain ⟨x, l, rfl, h1, h2⟩ := RVs_consR h
  obtain ⟨y, z, rfl, h3, h4⟩ := RVs2 h2
  exact ⟨x, y, z, rfl, h1, h3, h4⟩

/-- Parts and what is known of them. -/
theorem zipP_ok {n : Nat} {ρ : Operand → Value} : ∀ (ps : List (Nat × Operand)) (vs : List AV), RVs σ n vs ((ps.map (·.2)).map ρ) →
    (ps.map fun q => (q.1, ρ q.2)).length = (zipP ps vs).length ∧ ∀ (j : Nat) i a, (zipP ps vs)[j]? = some (i, a) → ∃ v, (ps.map fun q => (q.1, ρ q.2))[j]? = some (i, v) ∧ RV σ n a v
  | [], vs, h => by
    rw [RVs_nilR h]; exact ⟨rfl, fun j i a hj => by simp [zipP] at hj⟩
  | (i, x) :: ps, vs, h => by
    simp only [List.map_cons] at h
    obtain ⟨a, l, rfl, h1, h2⟩ := RVs_consR h
    obtain ⟨e1, e2⟩ := zipP_ok ps l h2
    refine ⟨by simp only [List.map_cons, List.length_cons, zipP, e1], fun j i' a' hj => ?_⟩
    cases j with
    | zero => simp only [zipP, List.getElem?_cons_zero, Option.some.injEq, Prod.mk.injEq] at hj; obtain ⟨rfl, rfl⟩ := hj; exact ⟨ρ x, rfl, h1⟩
    | succ j =>
      simp only [zipP, List.getElem?_cons_succ] at hj
      obtain ⟨v, g1, g2⟩ := e2 j i' a' hj
      exact ⟨v, by simpa using g1, g2⟩

theorem allInt_min {ats : List TypeId} (_ : allInt P ats = true) : True := trivial

/-- What a builtin is called with: its name, its arguments' types. -/
theorem builtin_fine (h : Rel P σ s w) {b : Builtin} {ats : Array TypeId} {ty : TypeId} {cs : Array Bool} {vs : List AV} {as : List Value} {ro : ROp}
    (hm : mkBuiltin P b ats.toList vs = some ro) (hv : RVs σ s.nx.num vs as) : FineN P σ s w (evOp ro s) (builtin b ats ty cs as.toArray) := by
  have gi : ∀ {i t}, ats.toList[i]? = some t → ats[i]? = some t := fun h => by rw [← Array.getElem?_toList]; exact h
  have len1 : ∀ {l : List AV} {x : AV}, l = [x] → l.length = 1 := fun h => by rw [h]; rfl
  revert gi hm
  generalize ats.toList = ts
  intro hm gi
  have wrong : ∀ {o : Option ROp}, o = some ro → o = none → False := fun a b => by rw [a] at b; cases b
  cases b <;> first | (simp only [mkBuiltin] at hm; cases hm; done) | skip
  case append =>
    rcases ts with _ | ⟨t, _ | ⟨u, ts⟩⟩ <;> rcases vs with _ | ⟨y, _ | ⟨x, _ | ⟨_, _⟩⟩⟩ <;> try (simp [mkBuiltin] at hm; done)
    simp only [mkBuiltin] at hm
    have hl := RVs_length hv
    obtain ⟨vy, vx, rfl⟩ : ∃ a b, as = [a, b] := by
      match as, hl with
      | [a, b], _ => exact ⟨a, b, rfl⟩
    rw [RVs_cons, RVs_cons] at hv
    obtain ⟨ry, rx, -⟩ := hv
    cases hu : P.underlying t with
    | none => rw [hu] at hm; cases hm
    | some d0 =>
      rw [hu] at hm
      cases d0 <;> try (cases hm; done)
      rename_i el
      simp only at hm
      cases hi : P.info? el with
      | none => rw [hi] at hm; cases hm
      | some i =>
        cases hx : P.underlying u with
        | none => rw [hi, hx] at hm; cases hm
        | some d =>
          rw [hi, hx] at hm
          simp only at hm
          cases hz : zeroOf P el with
          | none => rw [hz] at hm; cases hm
          | some z =>
            rw [hz] at hm
            simp only at hm
            cases hsz : Nat.beq (lenL z) i.size with
            | false => rw [hsz] at hm; cases d <;> cases hm
            | true =>
              rw [hsz] at hm
              have hsz := Nat.eq_of_beq_eq_true hsz
              have h0 := gi (i := 0) (t := t) rfl
              have h1 := gi (i := 1) (t := u) rfl
              by_cases hd : ∃ k, d = .int k
              · obtain ⟨k, rfl⟩ := hd
                cases hm
                exact FineN.v (appz_fine h h0 h1 hu hi hz hsz hx ry rx)
              · have : ro = .app el i.size i.bytes y x := by
                  cases d <;> first | (cases hm; rfl) | exact absurd ⟨_, rfl⟩ hd
                subst this
                exact FineN.v (app_fine h h0 h1 hu hi hz hsz hx (fun k e => hd ⟨k, e⟩) ry rx)
  case cap =>
    rcases ts with _ | ⟨t, ts⟩ <;> rcases vs with _ | ⟨x, _ | ⟨_, _⟩⟩ <;> try (simp [mkBuiltin] at hm; done)
    simp only [mkBuiltin] at hm
    have hl := RVs_length hv
    obtain ⟨v, rfl⟩ : ∃ a, as = [a] := by
      match as, hl with
      | [a], _ => exact ⟨a, rfl⟩
    rw [RVs_cons] at hv
    obtain ⟨rx, -⟩ := hv
    have h0 := gi (i := 0) (t := t) rfl
    cases hu : P.underlying t with
    | none => rw [hu] at hm; cases hm
    | some d0 =>
      rw [hu] at hm
      cases d0 <;> cases hm
      exact FineN.pv h (doCap_pure h0 hu rx)
  case clear =>
    rcases ts with _ | ⟨t, ts⟩ <;> rcases vs with _ | ⟨x, _ | ⟨_, _⟩⟩ <;> try (simp [mkBuiltin] at hm; done)
    simp only [mkBuiltin] at hm
    have hl := RVs_length hv
    obtain ⟨v, rfl⟩ : ∃ a, as = [a] := by
      match as, hl with
      | [a], _ => exact ⟨a, rfl⟩
    rw [RVs_cons] at hv
    obtain ⟨rx, -⟩ := hv
    have h0 := gi (i := 0) (t := t) rfl
    cases hu : P.underlying t with
    | none => rw [hu] at hm; cases hm
    | some d0 =>
      rw [hu] at hm
      cases d0 <;> try (cases hm; done)
      rename_i el
      simp only at hm
      cases hi : P.info? el with
      | none => rw [hi] at hm; cases hm
      | some i =>
        rw [hi] at hm
        cases hz : zeroOf P el with
        | none => rw [hz] at hm; cases hm
        | some z =>
          rw [hz] at hm
          cases hm
          exact FineN.v (clr_fine h h0 hu hi hz rx)
  case copy =>
    rcases ts with _ | ⟨t, ts⟩ <;> rcases vs with _ | ⟨y, _ | ⟨x, _ | ⟨_, _⟩⟩⟩ <;> try (simp [mkBuiltin] at hm; done)
    simp only [mkBuiltin] at hm
    have hl := RVs_length hv
    obtain ⟨vy, vx, rfl⟩ : ∃ a b, as = [a, b] := by
      match as, hl with
      | [a, b], _ => exact ⟨a, b, rfl⟩
    rw [RVs_cons, RVs_cons] at hv
    obtain ⟨ry, rx, -⟩ := hv
    have h0 := gi (i := 0) (t := t) rfl
    cases hu : P.underlying t with
    | none => rw [hu] at hm; cases hm
    | some d0 =>
      rw [hu] at hm
      cases d0 <;> try (cases hm; done)
      rename_i el
      simp only at hm
      cases hi : P.info? el with
      | none => rw [hi] at hm; cases hm
      | some i =>
        rw [hi] at hm
        cases hm
        exact FineN.v (copy_fine h h0 hu hi ry rx)
  case delete =>
    rcases ts with _ | ⟨t, ts⟩ <;> rcases vs with _ | ⟨y, _ | ⟨x, _ | ⟨_, _⟩⟩⟩ <;> try (simp [mkBuiltin] at hm; done)
    simp only [mkBuiltin] at hm
    have hl := RVs_length hv
    obtain ⟨vy, vx, rfl⟩ : ∃ a b, as = [a, b] := by
      match as, hl with
      | [a, b], _ => exact ⟨a, b, rfl⟩
    rw [RVs_cons, RVs_cons] at hv
    obtain ⟨ry, rx, -⟩ := hv
    have h0 := gi (i := 0) (t := t) rfl
    cases hu : P.underlying t with
    | none => rw [hu] at hm; cases hm
    | some d0 =>
      rw [hu] at hm
      cases d0 <;> try (cases hm; done)
      rename_i kt el
      simp only at hm
      cases hk : keyKind P kt with
      | none => rw [hk] at hm; cases hm
      | some ks =>
        rw [hk] at hm
        cases hm
        exact FineN.v (del_fine h h0 hu (keyKind_ok hk) ry rx)
  case len =>
    rcases ts with _ | ⟨t, ts⟩ <;> rcases vs with _ | ⟨x, _ | ⟨_, _⟩⟩ <;> try (simp [mkBuiltin] at hm; done)
    simp only [mkBuiltin] at hm
    have hl := RVs_length hv
    obtain ⟨v, rfl⟩ : ∃ a, as = [a] := by
      match as, hl with
      | [a], _ => exact ⟨a, rfl⟩
    rw [RVs_cons] at hv
    obtain ⟨rx, -⟩ := hv
    have h0 := gi (i := 0) (t := t) rfl
    cases hu : P.underlying t with
    | none => rw [hu] at hm; cases hm
    | some d0 =>
      rw [hu] at hm
      cases d0 <;> try (cases hm; done)
      case string => cases hm; exact FineN.pv h (doLen_pure (st := true) h0 hu rx)
      case slice e => cases hm; exact FineN.pv h (doLen_pure (st := false) h0 ⟨e, hu⟩ rx)
      case map kt el => cases hm; exact FineN.v (lenm_fine h h0 hu rx)
      case array n e => cases hm; exact FineN.pv h (doLenc_pure h0 (.inl ⟨e, hu⟩))
      case pointer a =>
        simp only at hm
        cases hua : P.underlying a with
        | none => rw [hua] at hm; cases hm
        | some d1 =>
          rw [hua] at hm
          cases d1 <;> cases hm
          exact FineN.pv h (doLenc_pure h0 (.inr ⟨a, _, hu, hua⟩))
  case max =>
    have : mkBuiltin P .max ts vs = match allInt P ts with
      | true => some (.mx vs)
      | false => none := by unfold mkBuiltin; rfl
    rw [this] at hm
    cases ha : allInt P ts with
    | false => rw [ha] at hm; cases hm
    | true => rw [ha] at hm; cases hm; exact FineN.pv h (doMx_pure (by simpa using hv))
  case min =>
    have : mkBuiltin P .min ts vs = match allInt P ts with
      | true => some (.mn vs)
      | false => none := by unfold mkBuiltin; rfl
    rw [this] at hm
    cases ha : allInt P ts with
    | false => rw [ha] at hm; cases hm
    | true => rw [ha] at hm; cases hm; exact FineN.pv h (doMn_pure (by simpa using hv))
  case unsafeSliceData =>
    rcases vs with _ | ⟨x, _ | ⟨_, _⟩⟩ <;> try (simp [mkBuiltin] at hm; done)
    simp only [mkBuiltin] at hm
    have hl := RVs_length hv
    obtain ⟨v, rfl⟩ : ∃ a, as = [a] := by
      match as, hl with
      | [a], _ => exact ⟨a, rfl⟩
    rw [RVs_cons] at hv
    obtain ⟨rx, -⟩ := hv
    cases hm
    exact FineN.pv h (doSdata_pure rx)
  case unsafeString =>
    rcases ts with _ | ⟨t, ts⟩ <;> rcases vs with _ | ⟨y, _ | ⟨x, _ | ⟨_, _⟩⟩⟩ <;> try (simp [mkBuiltin] at hm; done)
    simp only [mkBuiltin] at hm
    have hl := RVs_length hv
    obtain ⟨vy, vx, rfl⟩ : ∃ a b, as = [a, b] := by
      match as, hl with
      | [a, b], _ => exact ⟨a, b, rfl⟩
    rw [RVs_cons, RVs_cons] at hv
    obtain ⟨ry, rx, -⟩ := hv
    have h0 := gi (i := 0) (t := t) rfl
    cases hu : P.underlying t with
    | none => rw [hu] at hm; cases hm
    | some d0 =>
      rw [hu] at hm
      cases d0 <;> try (cases hm; done)
      rename_i e
      simp only at hm
      cases he : P.underlying e with
      | none => rw [he] at hm; cases hm
      | some d1 =>
        cases hi : P.info? e with
        | none => rw [he, hi] at hm; cases d1 <;> first | (cases hm; done) | (rename_i k; cases k <;> cases hm)
        | some i =>
          rw [he, hi] at hm
          cases d1 <;> try (cases hm; done)
          rename_i k
          cases k <;> try (cases hm; done)
          simp only at hm
          have hz : i.size = 1 := by
            match hs : i.size with
            | 0 => rw [hs] at hm; cases hm
            | 1 => rfl
            | n + 2 => rw [hs] at hm; cases hm
          rw [hz] at hm
          cases hm
          exact FineN.v (ustr_fine h h0 hu hi hz ry rx)


/-- Where two types must be the same. -/
theorem conv_fine (h : Rel P σ s w) {a b : TypeId} {x : AV} {v : Value} {ro : ROp} (hm : mkConv P a b x = some ro) (rx : RV σ s.nx.num x v) : FineN P σ s w (evOp ro s) (do pure (.value (← convert a b v))) := by
  unfold mkConv at hm
  cases ha : P.underlying a with
  | none => rw [ha] at hm; cases hm
  | some da =>
    cases hb : P.underlying b with
    | none => rw [ha, hb] at hm; cases da <;> cases hm
    | some db =>
      rw [ha, hb] at hm
      cases da <;> cases db <;> simp only at hm <;> try (cases hm; done)
      case int.int q k => cases hm; exact FineN.pv h (doConv_pure rx ⟨q, ha⟩ hb)
      case string.string =>
        cases hm
        show FineN P σ s w (doSstr x none none) _
        cases x <;> try exact fun _ _ h => by cases h
        rename_i n l
        have hd : doSstr (.str n l) none none = .val (.str n l) := by
          simp only [doSstr, bnd]
          have : (Nat.ble n n && Nat.ble 0 n) = true := by simp
          rw [this]
          simp only [show Nat.beq n n = true from by simp]
          rfl
        rw [hd]
        have rx' := rx
        simp only [RV] at rx
        obtain ⟨b, rfl, _⟩ := rx
        refine FineN.v (Fine.val h ?_ rx')
        unfold convert
        simp only [Sem.run_bind, run_underlying' ha, run_underlying' hb, Result.andThen_ok, Sem.run_pure]
      case string.slice e =>
        cases he : P.underlying e with
        | none => rw [he] at hm; cases hm
        | some d1 =>
          rw [he] at hm
          cases hi : P.info? e with
          | none => rw [hi] at hm; cases d1 <;> first | (cases hm; done) | (rename_i k; cases k <;> cases hm)
          | some i =>
            rw [hi] at hm
            cases d1 <;> try (cases hm; done)
            rename_i k
            cases k <;> try (cases hm; done)
            simp only at hm
            have hz : i.size = 1 := by
              match hs : i.size with
              | 0 => rw [hs] at hm; cases hm
              | 1 => rfl
              | n + 2 => rw [hs] at hm; cases hm
            rw [hz] at hm
            cases hm
            exact FineN.v (s2b_fine (i := i) h ha hb he rx)
      case slice.string e =>
        cases he : P.underlying e with
        | none => rw [he] at hm; cases hm
        | some d1 =>
          rw [he] at hm
          cases d1 <;> try (cases hm; done)
          rename_i k
          cases k <;> try (cases hm; done)
          cases hm
          exact FineN.v (b2s_fine h ha hb he rx)
      case slice.slice e1 e =>
        cases hq : a == b with
        | false => rw [hq] at hm; cases hm
        | true =>
          have hq' : a = b := by simpa using hq
          subst hq'
          rw [ha] at hb
          cases hb
          cases he : P.underlying e1 with
          | none => rw [hq, he] at hm; cases hm
          | some d1 =>
            rw [hq, he] at hm
            cases d1 <;> try (cases hm; done)
            rename_i k
            cases k <;> try (cases hm; done)
            cases hm
            exact FineN.v (s2s_fine h ha he rx)
      case pointer.unsafePointer t =>
        cases hi : P.info? t with
        | none => rw [hi] at hm; cases hm
        | some i => rw [hi] at hm; cases hm; exact FineN.v (p2u_fine h ha hb hi rx)
      case unsafePointer.pointer t =>
        cases hi : P.info? t with
        | none => rw [hi] at hm; cases hm
        | some i => rw [hi] at hm; cases hm; exact FineN.v (u2p_fine h ha hb hi rx)


theorem optAV_ok {n : Nat} {ρ : Operand → Value} {o : Option Operand} {vs : List AV} {r : List Value} (h : RVs σ n vs ((o.toArray.toList.map ρ) ++ r)) :
    RO? σ n (optAV o vs).1 (o.map ρ) ∧ RVs σ n (optAV o vs).2 r := by
  cases o with
  | none => exact ⟨by simp [optAV, RO?], by simpa [optAV] using h⟩
  | some a =>
    simp only [Option.toArray_some, List.map_cons, List.map_nil, List.cons_append, List.nil_append] at h
    obtain ⟨x, l, rfl, h1, h2⟩ := RVs_consR h
    exact ⟨by simpa [optAV, RO?] using h1, by simpa [optAV] using h2⟩

theorem op_move (h : Rel P σ s w) {a : Operand} {ρ : Operand → Value} {dst : Option Tmp} {type : TypeId} {pos : String} {after : Array Edge} {guard : Option (Nat × Bool)} {vs : List AV} {ro : ROp}
    (hv : RVs σ s.nx.num vs ((Op.move a).operands.toList.map ρ)) (hm : mkROp P (Op.move a) vs = some ro) : FineN P σ s w (evOp ro s) (execOp ρ ⟨dst, Op.move a, type, pos, after, guard⟩) := by
  obtain ⟨x, rfl, rx⟩ := RVs1 hv
  cases hm
  exact FineN.val h rx

theorem op_assign (h : Rel P σ s w) {a : Operand} {ρ : Operand → Value} {dst : Option Tmp} {type : TypeId} {pos : String} {after : Array Edge} {guard : Option (Nat × Bool)} {vs : List AV} {ro : ROp}
    (hv : RVs σ s.nx.num vs ((Op.assign a).operands.toList.map ρ)) (hm : mkROp P (Op.assign a) vs = some ro) : FineN P σ s w (evOp ro s) (execOp ρ ⟨dst, Op.assign a, type, pos, after, guard⟩) := by
  obtain ⟨x, rfl, rx⟩ := RVs1 hv
  cases hm
  exact FineN.val h rx

theorem op_pick (h : Rel P σ s w) {c : Operand} {a : Operand} {b : Operand} {ρ : Operand → Value} {dst : Option Tmp} {type : TypeId} {pos : String} {after : Array Edge} {guard : Option (Nat × Bool)} {vs : List AV} {ro : ROp}
    (hv : RVs σ s.nx.num vs ((Op.pick c a b).operands.toList.map ρ)) (hm : mkROp P (Op.pick c a b) vs = some ro) : FineN P σ s w (evOp ro s) (execOp ρ ⟨dst, Op.pick c a b, type, pos, after, guard⟩) := by
  obtain ⟨z, x, y, rfl, rz, rx, ry⟩ := RVs3 hv
  cases hm
  have := FineN.pv h (doPick_pure rz rx ry)
  intro v s' hv hf
  obtain ⟨cv, σ', w', h1, h2⟩ := this v s' hv hf
  refine ⟨cv, σ', w', ?_, h2⟩
  rcases h1 with h1 | ⟨h0, h1⟩
  · left
    rw [← h1]
    show Sem.run P (do pure (Next.value (if ← asBool (ρ c) then ρ a else ρ b))) w = _
    simp only [Sem.run_bind]
    cases (asBool (ρ c)).run P w <;> rfl
  · exfalso
    simp only [Sem.run_bind] at h1
    cases hb : (asBool (ρ c)).run P w <;> rw [hb] at h1 <;> cases h1

theorem op_alloc (h : Rel P σ s w) {el : TypeId} {ρ : Operand → Value} {dst : Option Tmp} {type : TypeId} {pos : String} {after : Array Edge} {guard : Option (Nat × Bool)} {vs : List AV} {ro : ROp}
    (hv : RVs σ s.nx.num vs ((Op.alloc el).operands.toList.map ρ)) (hm : mkROp P (Op.alloc el) vs = some ro) : FineN P σ s w (evOp ro s) (execOp ρ ⟨dst, Op.alloc el, type, pos, after, guard⟩) := by
  obtain rfl := RVs_nilR hv
  simp only [mkROp] at hm
  cases hz : zeroOf P el with
  | none => rw [hz] at hm; cases hm
  | some z => rw [hz] at hm; cases hm; exact FineN.v (alloc_fine h hz)

theorem op_box (h : Rel P σ s w) {el : TypeId} {a : Operand} {ρ : Operand → Value} {dst : Option Tmp} {type : TypeId} {pos : String} {after : Array Edge} {guard : Option (Nat × Bool)} {vs : List AV} {ro : ROp}
    (hv : RVs σ s.nx.num vs ((Op.box el a).operands.toList.map ρ)) (hm : mkROp P (Op.box el a) vs = some ro) : FineN P σ s w (evOp ro s) (execOp ρ ⟨dst, Op.box el a, type, pos, after, guard⟩) := by
  obtain ⟨x, rfl, rx⟩ := RVs1 hv
  cases hm
  exact FineN.v (box_fine h rx)

theorem op_build (h : Rel P σ s w) {t : TypeId} {ps : Array (Nat × Operand)} {ρ : Operand → Value} {dst : Option Tmp} {type : TypeId} {pos : String} {after : Array Edge} {guard : Option (Nat × Bool)} {vs : List AV} {ro : ROp}
    (hv : RVs σ s.nx.num vs ((Op.build t ps).operands.toList.map ρ)) (hm : mkROp P (Op.build t ps) vs = some ro) : FineN P σ s w (evOp ro s) (execOp ρ ⟨dst, Op.build t ps, type, pos, after, guard⟩) := by
  have hm' : (match zeroOf P t, places P t (zipP ps.toList vs) with
    | some z, some l => (match partsOk P t with
      | true => some (ROp.build z l)
      | false => none)
    | _, _ => none) = some ro := by
    rw [← hm]; cases vs <;> rfl
  cases hz : zeroOf P t with
  | none => rw [hz] at hm'; cases hm'
  | some z =>
    cases hl : places P t (zipP ps.toList vs) with
    | none => rw [hz, hl] at hm'; cases hm'
    | some l =>
      rw [hz, hl] at hm'
      simp only at hm'
      cases hp : partsOk P t with
      | false => rw [hp] at hm'; cases hm'
      | true =>
        rw [hp] at hm'
        cases hm'
        obtain ⟨e1, e2⟩ := zipP_ok (ρ := ρ) ps.toList vs hv
        refine FineN.pv h (build_pure hz hl hp (qs := ps.map fun q => (q.1, ρ q.2)) (by simpa using e1) fun j i a hj => by simpa using e2 j i a hj)

theorem op_buildSlice (h : Rel P σ s w) {t : TypeId} {n : Nat} {ps : Array (Nat × Operand)} {ρ : Operand → Value} {dst : Option Tmp} {type : TypeId} {pos : String} {after : Array Edge} {guard : Option (Nat × Bool)} {vs : List AV} {ro : ROp}
    (hv : RVs σ s.nx.num vs ((Op.buildSlice t n ps).operands.toList.map ρ)) (hm : mkROp P (Op.buildSlice t n ps) vs = some ro) : FineN P σ s w (evOp ro s) (execOp ρ ⟨dst, Op.buildSlice t n ps, type, pos, after, guard⟩) := by
  have hm' : (match P.underlying t with
    | some (.slice el) => (match P.info? el, zeroOf P el with
      | some i, some z => (match Nat.ble (n * i.size) 16777216 && Nat.beq (lenL z) i.size with
        | true => some (ROp.bslice el i.size n z (zipP ps.toList vs))
        | false => none)
      | _, _ => none)
    | _ => none) = some ro := by
    rw [← hm]; cases vs <;> rfl
  cases hu : P.underlying t with
  | none => rw [hu] at hm'; cases hm'
  | some d =>
    rw [hu] at hm'
    cases d <;> try (cases hm'; done)
    rename_i el
    simp only at hm'
    cases hi : P.info? el with
    | none => rw [hi] at hm'; cases hm'
    | some i =>
      cases hz : zeroOf P el with
      | none => rw [hi, hz] at hm'; cases hm'
      | some z =>
        rw [hi, hz] at hm'
        simp only at hm'
        cases hb : Nat.ble (n * i.size) 16777216 && Nat.beq (lenL z) i.size with
        | false => rw [hb] at hm'; cases hm'
        | true =>
          rw [hb] at hm'
          cases hm'
          rw [Bool.and_eq_true, Nat.ble_eq] at hb
          obtain ⟨e1, e2⟩ := zipP_ok (ρ := ρ) ps.toList vs hv
          have hB := bslice_fine h hu hi hz (Nat.eq_of_beq_eq_true hb.2) hb.1 (qs := ps.map fun q => (q.1, ρ q.2)) (by rw [Array.toList_map]; exact e1) (fun j i a hj => by rw [Array.toList_map]; exact e2 j i a hj)
          exact FineN.v hB

theorem op_load (h : Rel P σ s w) {t : TypeId} {a : Operand} {ρ : Operand → Value} {dst : Option Tmp} {type : TypeId} {pos : String} {after : Array Edge} {guard : Option (Nat × Bool)} {vs : List AV} {ro : ROp}
    (hv : RVs σ s.nx.num vs ((Op.load t a).operands.toList.map ρ)) (hm : mkROp P (Op.load t a) vs = some ro) : FineN P σ s w (evOp ro s) (execOp ρ ⟨dst, Op.load t a, type, pos, after, guard⟩) := by
  obtain ⟨x, rfl, rx⟩ := RVs1 hv
  simp only [mkROp] at hm
  cases ha : aggOf P t with
  | none => rw [ha] at hm; cases hm
  | some q => obtain ⟨ag, n⟩ := q; rw [ha] at hm; cases hm; exact FineN.v (load_fine h ha rx)

theorem op_store (h : Rel P σ s w) {t : TypeId} {a : Operand} {b : Operand} {ρ : Operand → Value} {dst : Option Tmp} {type : TypeId} {pos : String} {after : Array Edge} {guard : Option (Nat × Bool)} {vs : List AV} {ro : ROp}
    (hv : RVs σ s.nx.num vs ((Op.store t a b).operands.toList.map ρ)) (hm : mkROp P (Op.store t a b) vs = some ro) : FineN P σ s w (evOp ro s) (execOp ρ ⟨dst, Op.store t a b, type, pos, after, guard⟩) := by
  obtain ⟨x, y, rfl, rx, ry⟩ := RVs2 hv
  simp only [mkROp] at hm
  cases hi : P.info? t with
  | none => rw [hi] at hm; cases hm
  | some i => rw [hi] at hm; cases hm; exact FineN.u (store_fine h hi rx ry)

theorem op_nilCheck (h : Rel P σ s w) {a : Operand} {ρ : Operand → Value} {dst : Option Tmp} {type : TypeId} {pos : String} {after : Array Edge} {guard : Option (Nat × Bool)} {vs : List AV} {ro : ROp}
    (hv : RVs σ s.nx.num vs ((Op.nilCheck a).operands.toList.map ρ)) (hm : mkROp P (Op.nilCheck a) vs = some ro) : FineN P σ s w (evOp ro s) (execOp ρ ⟨dst, Op.nilCheck a, type, pos, after, guard⟩) := by
  obtain ⟨x, rfl, rx⟩ := RVs1 hv
  cases hm
  obtain ⟨e1, e2⟩ := doNilck_pure rx (ρ := ρ) (o := a) rfl
  intro v s' hv _
  change (doNilck x).out s = some (v, s') at hv
  cases hd : doNilck x with
  | fail => rw [hd] at hv; cases hv
  | st u t => exact absurd hd (e1 u t)
  | val u =>
    rw [hd] at hv
    cases hv
    obtain ⟨g1, g2⟩ := e2 _ hd
    exact ⟨_, σ, w, .inl (g1 w dst type pos after guard), g2, h, Goes.refl _ _ _⟩

theorem op_binOp (h : Rel P σ s w) {op : BinOp} {t : TypeId} {a : Operand} {b : Operand} {yt : TypeId} {ρ : Operand → Value} {dst : Option Tmp} {type : TypeId} {pos : String} {after : Array Edge} {guard : Option (Nat × Bool)} {vs : List AV} {ro : ROp}
    (hv : RVs σ s.nx.num vs ((Op.binOp op t a b yt).operands.toList.map ρ)) (hm : mkROp P (Op.binOp op t a b yt) vs = some ro) : FineN P σ s w (evOp ro s) (execOp ρ ⟨dst, Op.binOp op t a b yt, type, pos, after, guard⟩) := by
  obtain ⟨x, y, rfl, rx, ry⟩ := RVs2 hv
  cases hm
  exact FineN.pv h (doBin_pure rx ry a b)

theorem op_unOp (h : Rel P σ s w) {op : UnOp} {t : TypeId} {a : Operand} {ρ : Operand → Value} {dst : Option Tmp} {type : TypeId} {pos : String} {after : Array Edge} {guard : Option (Nat × Bool)} {vs : List AV} {ro : ROp}
    (hv : RVs σ s.nx.num vs ((Op.unOp op t a).operands.toList.map ρ)) (hm : mkROp P (Op.unOp op t a) vs = some ro) : FineN P σ s w (evOp ro s) (execOp ρ ⟨dst, Op.unOp op t a, type, pos, after, guard⟩) := by
  obtain ⟨x, rfl, rx⟩ := RVs1 hv
  cases hm
  exact FineN.pv h (doUn_pure rx)

theorem op_convert (h : Rel P σ s w) {a : TypeId} {b : TypeId} {c : Operand} {ρ : Operand → Value} {dst : Option Tmp} {type : TypeId} {pos : String} {after : Array Edge} {guard : Option (Nat × Bool)} {vs : List AV} {ro : ROp}
    (hv : RVs σ s.nx.num vs ((Op.convert a b c).operands.toList.map ρ)) (hm : mkROp P (Op.convert a b c) vs = some ro) : FineN P σ s w (evOp ro s) (execOp ρ ⟨dst, Op.convert a b c, type, pos, after, guard⟩) := by
  obtain ⟨x, rfl, rx⟩ := RVs1 hv
  exact conv_fine h hm rx

theorem op_makeFunc (h : Rel P σ s w) {f : Fn} {a : Array Operand} {b : Array Operand} {ρ : Operand → Value} {dst : Option Tmp} {type : TypeId} {pos : String} {after : Array Edge} {guard : Option (Nat × Bool)} {vs : List AV} {ro : ROp}
    (hv : RVs σ s.nx.num vs ((Op.makeFunc f a b).operands.toList.map ρ)) (hm : mkROp P (Op.makeFunc f a b) vs = some ro) : FineN P σ s w (evOp ro s) (execOp ρ ⟨dst, Op.makeFunc f a b, type, pos, after, guard⟩) := by
  have hm' : (match afn f with
    | some g => some (ROp.mkfn g (tkV a.size vs) (dpV a.size vs))
    | none => none) = some ro := by
    rw [← hm]; cases vs <;> rfl
  cases f <;> simp only [afn] at hm' <;> try (cases hm'; done)
  rename_i f
  cases hm'
  have hv' : RVs σ s.nx.num vs (a.toList.map ρ ++ b.toList.map ρ) := by
    have : (Op.makeFunc (.func f) a b).operands.toList.map ρ = a.toList.map ρ ++ b.toList.map ρ := by simp [Op.operands]
    rw [← this]; exact hv
  have t1 := RVs_take hv' a.size
  have t2 := RVs_drop hv' a.size
  have q1 : List.take a.size (a.toList.map ρ ++ b.toList.map ρ) = a.toList.map ρ := List.take_left' (by simp)
  have q2 : List.drop a.size (a.toList.map ρ ++ b.toList.map ρ) = b.toList.map ρ := List.drop_left' (by simp)
  rw [q1] at t1
  rw [q2] at t2
  refine FineN.v (Fine.val h (cv := .func (.func f) (a.map ρ) (b.map ρ)) rfl ?_)
  simp only [RV]
  refine ⟨_, _, _, rfl, ?_, by rw [tkV_eq]; simpa using t1, by rw [dpV_eq]; simpa using t2⟩
  simp [RF, n2p_num]

theorem op_makeMap (h : Rel P σ s w) {t : TypeId} {r : Option Operand} {ρ : Operand → Value} {dst : Option Tmp} {type : TypeId} {pos : String} {after : Array Edge} {guard : Option (Nat × Bool)} {vs : List AV} {ro : ROp}
    (hv : RVs σ s.nx.num vs ((Op.makeMap t r).operands.toList.map ρ)) (hm : mkROp P (Op.makeMap t r) vs = some ro) : FineN P σ s w (evOp ro s) (execOp ρ ⟨dst, Op.makeMap t r, type, pos, after, guard⟩) := by
  cases r with
  | some a =>
    obtain ⟨x, rfl, rx⟩ := RVs1 hv
    cases hm
  | none =>
    obtain rfl := RVs_nilR hv
    simp only [mkROp] at hm
    cases hu : P.underlying t with
    | none => rw [hu] at hm; cases hm
    | some d =>
      rw [hu] at hm
      cases d <;> cases hm
      exact FineN.v (mkmap_fine h)

theorem op_makeSlice (h : Rel P σ s w) {t : TypeId} {a : Operand} {b : Operand} {ρ : Operand → Value} {dst : Option Tmp} {type : TypeId} {pos : String} {after : Array Edge} {guard : Option (Nat × Bool)} {vs : List AV} {ro : ROp}
    (hv : RVs σ s.nx.num vs ((Op.makeSlice t a b).operands.toList.map ρ)) (hm : mkROp P (Op.makeSlice t a b) vs = some ro) : FineN P σ s w (evOp ro s) (execOp ρ ⟨dst, Op.makeSlice t a b, type, pos, after, guard⟩) := by
  obtain ⟨x, y, rfl, rx, ry⟩ := RVs2 hv
  simp only [mkROp] at hm
  cases hu : P.underlying t with
  | none => rw [hu] at hm; cases hm
  | some d =>
    rw [hu] at hm
    cases d <;> try (cases hm; done)
    rename_i el
    simp only at hm
    cases hi : P.info? el with
    | none => rw [hi] at hm; cases hm
    | some i =>
      cases hz : zeroOf P el with
      | none => rw [hi, hz] at hm; cases hm
      | some z =>
        rw [hi, hz] at hm
        simp only at hm
        cases hb : Nat.beq (lenL z) i.size with
        | false => rw [hb] at hm; cases hm
        | true => rw [hb] at hm; cases hm; exact FineN.v (mkslice_fine h hu hi hz (Nat.eq_of_beq_eq_true hb) rx ry)

theorem op_slice (h : Rel P σ s w) {t : TypeId} {a : Operand} {lo : Option Operand} {hi : Option Operand} {mx : Option Operand} {ρ : Operand → Value} {dst : Option Tmp} {type : TypeId} {pos : String} {after : Array Edge} {guard : Option (Nat × Bool)} {vs : List AV} {ro : ROp}
    (hv : RVs σ s.nx.num vs ((Op.slice t a lo hi mx).operands.toList.map ρ)) (hm : mkROp P (Op.slice t a lo hi mx) vs = some ro) : FineN P σ s w (evOp ro s) (execOp ρ ⟨dst, Op.slice t a lo hi mx, type, pos, after, guard⟩) := by
  have hv' : RVs σ s.nx.num vs (ρ a :: (lo.toArray.toList.map ρ ++ (hi.toArray.toList.map ρ ++ (mx.toArray.toList.map ρ ++ [])))) := by
    have : (Op.slice t a lo hi mx).operands.toList.map ρ = ρ a :: (lo.toArray.toList.map ρ ++ (hi.toArray.toList.map ρ ++ (mx.toArray.toList.map ρ ++ []))) := by simp [Op.operands]
    rw [← this]; exact hv
  obtain ⟨x, vs, rfl, rx, hv1⟩ := RVs_consR hv'
  obtain ⟨r1, hv2⟩ := optAV_ok hv1
  obtain ⟨r2, hv3⟩ := optAV_ok hv2
  obtain ⟨r3, _⟩ := optAV_ok hv3
  have hm' : mkSlice P t x (optAV lo vs).1 (optAV hi (optAV lo vs).2).1 (optAV mx (optAV hi (optAV lo vs).2).2).1 = some ro := by
    rw [← hm]; cases vs <;> rfl
  unfold mkSlice at hm'
  cases hu : P.underlying t with
  | none => rw [hu] at hm'; cases hm'
  | some d =>
    rw [hu] at hm'
    have hsl : (∀ n e, d ≠ .array n e) → ∀ w, (Instr.sliceAt t (ρ a) (lo.map ρ) (hi.map ρ) (mx.map ρ)).run P w = (Instr.slice t (ρ a) (lo.map ρ) (hi.map ρ) (mx.map ρ)).run P w := fun hne w => by
      unfold Instr.sliceAt
      simp only [Sem.run_bind, run_underlying' hu, Result.andThen_ok]
      all_goals (cases d <;> first | rfl | exact absurd rfl (hne _ _))
    cases d <;> simp only at hm' <;> try (cases hm'; done)
    case string =>
      have r3' := r3
      revert hm' r3'
      generalize (optAV mx (optAV hi (optAV lo vs).2).2).1 = ox
      intro hm' r3'
      cases ox with
      | some _ => cases hm'
      | none =>
        cases hm'
        cases mx with
        | some _ => simp [RO?] at r3'
        | none => exact FineN.pv h ((doSstr_pure hu rx r1 r2).congr (hsl (fun _ _ h => by cases h)))
    case slice el =>
      cases hi' : P.info? el with
      | none => rw [hi'] at hm'; cases hm'
      | some i =>
        rw [hi'] at hm'; cases hm'
        exact FineN.pv h ((doSslc_pure hu hi' rx r1 r2 r3).congr (hsl (fun _ _ h => by cases h)))
    case array n el =>
      cases hi' : P.info? el with
      | none => rw [hi'] at hm'; cases hm'
      | some i => rw [hi'] at hm'; cases hm'; exact FineN.pv h (doSarr_pure hu hi' rx r1 r2 r3)

theorem op_fieldAddr (h : Rel P σ s w) {t : TypeId} {a : Operand} {f : Nat} {ρ : Operand → Value} {dst : Option Tmp} {type : TypeId} {pos : String} {after : Array Edge} {guard : Option (Nat × Bool)} {vs : List AV} {ro : ROp}
    (hv : RVs σ s.nx.num vs ((Op.fieldAddr t a f).operands.toList.map ρ)) (hm : mkROp P (Op.fieldAddr t a f) vs = some ro) : FineN P σ s w (evOp ro s) (execOp ρ ⟨dst, Op.fieldAddr t a f, type, pos, after, guard⟩) := by
  obtain ⟨x, rfl, rx⟩ := RVs1 hv
  simp only [mkROp] at hm
  cases hf : fieldAt? P t f with
  | none => rw [hf] at hm; cases hm
  | some fd =>
    rw [hf] at hm
    simp only at hm
    cases hi : P.info? fd.type with
    | none => rw [hi] at hm; cases hm
    | some i =>
      rw [hi] at hm
      simp only at hm
      cases hz : i.size with
      | zero => rw [hz] at hm; cases hm
      | succ n => rw [hz] at hm; cases hm; exact FineN.pv h (doFaddr_pure hf hi (by omega) rx)

theorem op_field (h : Rel P σ s w) {t : TypeId} {a : Operand} {f : Nat} {ρ : Operand → Value} {dst : Option Tmp} {type : TypeId} {pos : String} {after : Array Edge} {guard : Option (Nat × Bool)} {vs : List AV} {ro : ROp}
    (hv : RVs σ s.nx.num vs ((Op.field t a f).operands.toList.map ρ)) (hm : mkROp P (Op.field t a f) vs = some ro) : FineN P σ s w (evOp ro s) (execOp ρ ⟨dst, Op.field t a f, type, pos, after, guard⟩) := by
  obtain ⟨x, rfl, rx⟩ := RVs1 hv
  simp only [mkROp] at hm
  cases hf : fieldAt? P t f with
  | none => rw [hf] at hm; cases hm
  | some fd =>
    rw [hf] at hm
    simp only at hm
    cases ha : aggOf P fd.type with
    | none => rw [ha] at hm; cases hm
    | some q => obtain ⟨ag, n⟩ := q; rw [ha] at hm; cases hm; exact FineN.pv h (doField_pure hf ha rx)

theorem op_indexAddr (h : Rel P σ s w) {t : TypeId} {a : Operand} {b : Operand} {ρ : Operand → Value} {dst : Option Tmp} {type : TypeId} {pos : String} {after : Array Edge} {guard : Option (Nat × Bool)} {vs : List AV} {ro : ROp}
    (hv : RVs σ s.nx.num vs ((Op.indexAddr t a b).operands.toList.map ρ)) (hm : mkROp P (Op.indexAddr t a b) vs = some ro) : FineN P σ s w (evOp ro s) (execOp ρ ⟨dst, Op.indexAddr t a b, type, pos, after, guard⟩) := by
  obtain ⟨x, y, rfl, rx, ry⟩ := RVs2 hv
  simp only [mkROp] at hm
  cases hu : P.underlying t with
  | none => rw [hu] at hm; cases hm
  | some d =>
    rw [hu] at hm
    cases d <;> try (cases hm; done)
    case array n el =>
      simp only at hm
      cases hi : P.info? el with
      | none => rw [hi] at hm; cases hm
      | some i => rw [hi] at hm; cases hm; exact FineN.pv h (doIarr_pure hu hi rx ry)
    case slice el =>
      simp only at hm
      cases hi : P.info? el with
      | none => rw [hi] at hm; cases hm
      | some i => rw [hi] at hm; cases hm; exact FineN.pv h (doIslc_pure hu hi rx ry)

theorem op_index (h : Rel P σ s w) {t : TypeId} {a : Operand} {b : Operand} {ρ : Operand → Value} {dst : Option Tmp} {type : TypeId} {pos : String} {after : Array Edge} {guard : Option (Nat × Bool)} {vs : List AV} {ro : ROp}
    (hv : RVs σ s.nx.num vs ((Op.index t a b).operands.toList.map ρ)) (hm : mkROp P (Op.index t a b) vs = some ro) : FineN P σ s w (evOp ro s) (execOp ρ ⟨dst, Op.index t a b, type, pos, after, guard⟩) := by
  obtain ⟨x, y, rfl, rx, ry⟩ := RVs2 hv
  simp only [mkROp] at hm
  cases hu : P.underlying t with
  | none => rw [hu] at hm; cases hm
  | some d =>
    rw [hu] at hm
    cases d <;> try (cases hm; done)
    case array n el =>
      simp only at hm
      cases ha : aggOf P el with
      | none => rw [ha] at hm; cases hm
      | some q => obtain ⟨ag, m⟩ := q; rw [ha] at hm; cases hm; exact FineN.pv h (doIxarr_pure hu ha rx ry)
    case string =>
      cases hm
      exact FineN.pv h (doIxstr_pure hu rx ry)

theorem op_lookup (h : Rel P σ s w) {t : TypeId} {a : Operand} {b : Operand} {ok : Bool} {ρ : Operand → Value} {dst : Option Tmp} {type : TypeId} {pos : String} {after : Array Edge} {guard : Option (Nat × Bool)} {vs : List AV} {ro : ROp}
    (hv : RVs σ s.nx.num vs ((Op.lookup t a b ok).operands.toList.map ρ)) (hm : mkROp P (Op.lookup t a b ok) vs = some ro) : FineN P σ s w (evOp ro s) (execOp ρ ⟨dst, Op.lookup t a b ok, type, pos, after, guard⟩) := by
  obtain ⟨x, y, rfl, rx, ry⟩ := RVs2 hv
  simp only [mkROp] at hm
  cases hu : P.underlying t with
  | none => rw [hu] at hm; cases hm
  | some d =>
    rw [hu] at hm
    cases d <;> try (cases hm; done)
    rename_i kt el
    simp only at hm
    cases hk : keyKind P kt with
    | none => rw [hk] at hm; cases hm
    | some ks =>
      cases hi : P.info? el with
      | none => rw [hk, hi] at hm; cases hm
      | some i =>
        rw [hk, hi] at hm
        simp only at hm
        cases hz : i.zero with
        | none => rw [hz] at hm; cases hm
        | some z => rw [hz] at hm; cases hm; exact FineN.v (lookup_fine h hu (keyKind_ok hk) hi hz rx ry)

theorem op_mapUpdate (h : Rel P σ s w) {t : TypeId} {a : Operand} {b : Operand} {c : Operand} {ρ : Operand → Value} {dst : Option Tmp} {type : TypeId} {pos : String} {after : Array Edge} {guard : Option (Nat × Bool)} {vs : List AV} {ro : ROp}
    (hv : RVs σ s.nx.num vs ((Op.mapUpdate t a b c).operands.toList.map ρ)) (hm : mkROp P (Op.mapUpdate t a b c) vs = some ro) : FineN P σ s w (evOp ro s) (execOp ρ ⟨dst, Op.mapUpdate t a b c, type, pos, after, guard⟩) := by
  obtain ⟨x, y, z, rfl, rx, ry, rz⟩ := RVs3 hv
  simp only [mkROp] at hm
  cases hu : P.underlying t with
  | none => rw [hu] at hm; cases hm
  | some d =>
    rw [hu] at hm
    cases d <;> try (cases hm; done)
    rename_i kt el
    simp only at hm
    cases hk : keyKind P kt with
    | none => rw [hk] at hm; cases hm
    | some ks => rw [hk] at hm; cases hm; exact FineN.u (mapup_fine h hu (keyKind_ok hk) rx ry rz)

theorem op_extract (h : Rel P σ s w) {a : Operand} {i : Nat} {ρ : Operand → Value} {dst : Option Tmp} {type : TypeId} {pos : String} {after : Array Edge} {guard : Option (Nat × Bool)} {vs : List AV} {ro : ROp}
    (hv : RVs σ s.nx.num vs ((Op.extract a i).operands.toList.map ρ)) (hm : mkROp P (Op.extract a i) vs = some ro) : FineN P σ s w (evOp ro s) (execOp ρ ⟨dst, Op.extract a i, type, pos, after, guard⟩) := by
  obtain ⟨x, rfl, rx⟩ := RVs1 hv
  cases hm
  exact FineN.pv h (doExt_pure rx)

theorem op_call (h : Rel P σ s w) {c : Call} {ρ : Operand → Value} {dst : Option Tmp} {type : TypeId} {pos : String} {after : Array Edge} {guard : Option (Nat × Bool)} {vs : List AV} {ro : ROp}
    (hv : RVs σ s.nx.num vs ((Op.call c).operands.toList.map ρ)) (hm : mkROp P (Op.call c) vs = some ro) : FineN P σ s w (evOp ro s) (execOp ρ ⟨dst, Op.call c, type, pos, after, guard⟩) := by
  obtain ⟨cl, args, ats⟩ := c
  cases cl with
  | value f => cases vs <;> cases hm
  | invoke r n => cases vs <;> cases hm
  | builtin b =>
    have hm' : mkBuiltin P b ats.toList vs = some ro := by rw [← hm]; cases vs <;> rfl
    have hv' : RVs σ s.nx.num vs (args.toList.map ρ) := by
      have : (Op.call ⟨.builtin b, args, ats⟩).operands.toList.map ρ = args.toList.map ρ := by simp [Op.operands, Call.operands]
      rw [← this]; exact hv
    have := builtin_fine h (ty := type) (cs := args.map fun | .const _ => true | _ => false) hm' hv'
    have e : (args.toList.map ρ).toArray = args.map ρ := by rw [← Array.toList_map]
    rw [e] at this
    exact this

/-- An operation that is no call of a Go function. -/
theorem op_fine (h : Rel P σ s w) {ρ : Operand → Value} {o : Oper} {vs : List AV} {ro : ROp} (hv : RVs σ s.nx.num vs (o.op.operands.toList.map ρ)) (hm : mkROp P o.op vs = some ro) :
    FineN P σ s w (evOp ro s) (execOp ρ o) := by
  obtain ⟨dst, op, type, pos, after, guard⟩ := o
  simp only at hv hm
  cases op
  case move a => exact op_move h hv hm
  case assign a => exact op_assign h hv hm
  case pick c a b => exact op_pick h hv hm
  case alloc el => exact op_alloc h hv hm
  case box el a => exact op_box h hv hm
  case build t ps => exact op_build h hv hm
  case buildSlice t n ps => exact op_buildSlice h hv hm
  case load t a => exact op_load h hv hm
  case store t a b => exact op_store h hv hm
  case nilCheck a => exact op_nilCheck h hv hm
  case binOp op t a b yt => exact op_binOp h hv hm
  case unOp op t a => exact op_unOp h hv hm
  case convert a b c => exact op_convert h hv hm
  case makeFunc f a b => exact op_makeFunc h hv hm
  case makeMap t r => exact op_makeMap h hv hm
  case makeSlice t a b => exact op_makeSlice h hv hm
  case slice t a lo hi mx => exact op_slice h hv hm
  case fieldAddr t a f => exact op_fieldAddr h hv hm
  case field t a f => exact op_field h hv hm
  case indexAddr t a b => exact op_indexAddr h hv hm
  case index t a b => exact op_index h hv hm
  case lookup t a b ok => exact op_lookup h hv hm
  case mapUpdate t a b c => exact op_mapUpdate h hv hm
  case extract a i => exact op_extract h hv hm
  case call c => exact op_call h hv hm
  all_goals cases hm

end Go.Ev

/- Keys are only ever added: a run's next key never goes back. -/
namespace Go.Ev

structure NoSt (r : OR) : Prop where
  out : ∀ u t, r ≠ .st u t
structure Up (s : St) (r : OR) : Prop where
  out : ∀ v s1, r.out s = some (v, s1) → s.nx.num ≤ s1.nx.num

theorem NoSt.up {s : St} {r : OR} (h : NoSt r) : Up s r := ⟨fun v s1 hv => by
  cases r with
  | fail => cases hv
  | val u => cases hv; exact Nat.le_refl _
  | st u t => exact absurd rfl (h.out u t)⟩
theorem NoSt.fail : NoSt .fail := ⟨fun _ _ h => by cases h⟩
theorem NoSt.val {v : AV} : NoSt (.val v) := ⟨fun _ _ h => by cases h⟩
theorem NoSt.brec {a b : OR} {c : Bool} (ha : NoSt a) (hb : NoSt b) : NoSt (Bool.rec (motive := fun _ => OR) a b c) := by cases c <;> assumption
theorem NoSt.orec {α : Type} {a : OR} {f : α → OR} {c : Option α} (ha : NoSt a) (hb : ∀ x, NoSt (f x)) : NoSt (Option.rec (motive := fun _ => OR) a f c) := by
  cases c with
  | none => exact ha
  | some x => exact hb x
theorem Up.st {s s1 : St} {v : AV} (h : s.nx.num ≤ s1.nx.num) : Up s (.st v s1) := ⟨fun u t hu => by cases hu; exact h⟩


theorem noSt_pick (c x y : AV) : NoSt (doPick c x y) := by
  unfold doPick
  cases asB c with
  | no => exact .fail
  | yes b => exact .brec .val .val

theorem noSt_natI {f : Nat → Nat → OR} {a b : Int} (h : ∀ x y, NoSt (f x y)) : NoSt (natI f a b) := by
  unfold natI
  cases a with
  | negSucc _ => exact .fail
  | ofNat x => cases b with
    | negSucc _ => exact .fail
    | ofNat y => exact h x y

theorem noSt_binI (op : BinOp) (k k2 : IntKind) (a b : Int) : NoSt (binI op k k2 a b) := by
  have hI : NoSt (binII op k a b) := by
    unfold binII
    cases op <;> first
      | exact NoSt.val
      | (refine noSt_natI fun x y => ?_; first | exact NoSt.val | exact .brec .fail (.brec .fail .val) | (cases y <;> first | exact .fail | exact .brec .fail .val))
  unfold binI
  exact .brec (.brec .fail hI) hI

theorem noSt_binS (op : BinOp) (n : Nat) (a : List Nat) (m : Nat) (b : List Nat) : NoSt (binS op n a m b) := by
  unfold binS
  cases op <;> first | exact NoSt.val | exact NoSt.fail | (simp only; split <;> first | exact NoSt.val | exact NoSt.fail)

theorem noSt_bin (op : BinOp) (q : EqK) (x y : AV) : NoSt (doBin op q x y) := by
  unfold doBin
  cases asI x with
  | yes k a => cases asI y with
    | yes k2 b => exact noSt_binI op k k2 a b
    | no => exact .fail
  | no => cases asT x with
    | yes n l => cases asT y with
      | yes m b => exact noSt_binS op n l m b
      | no => exact .fail
    | no =>
      show NoSt (binE op q x y)
      unfold binE
      split <;> first | exact .fail | (split <;> first | exact .fail | exact NoSt.val)

theorem newCells_up {el : Nat} {ex : Bool} {l : List AV} {s : St} {k : Pos → St → OR} (h : ∀ s1 : St, s.nx.num ≤ s1.nx.num → Up s (k s.nx s1)) : Up s (newCells el ex l s k) := by
  rw [newCells_eq]
  exact h _ (by show s.nx.num ≤ s.nx.succ.num; rw [Pos.num_succ]; omega)

theorem stCells_up {p : Pos} {o : Nat} {l : List AV} {s s1 : St} (h : stCells p o l s = some s1) : s.nx.num ≤ s1.nx.num := by
  rw [stCells_nx h]; exact Nat.le_refl _

theorem noSt_ldOne (p : Pos) (o : Nat) (s : St) : NoSt (ldOne p o s) := ⟨fun _ _ => ldOne_nst _ _⟩
theorem noSt_load (ag : Bool) (n : Nat) (x : AV) (s : St) : NoSt (doLoad ag n x s) := by
  unfold doLoad
  cases asP x with
  | no => exact .fail
  | yes p o => exact .brec (.brec .fail (noSt_ldOne p o s)) (.orec .fail fun _ => .val)

theorem noSt_part (ag : Bool) (o n : Nat) (l : List AV) : NoSt (partA ag o n l) := by
  unfold partA
  split <;> (split <;> first | exact .fail | exact NoSt.val)

theorem slc3_noSt (p : Pos) (o sz cap : Nat) (ex : Bool) (h : Nat) (lo mx : Option AV) : NoSt (slc3 p o sz cap ex h lo mx) := by
  unfold slc3
  split
  · exact .fail
  · split
    · split <;> first | exact .fail | exact NoSt.val
    · split <;> first | exact .fail | exact NoSt.val
    · exact .fail

theorem noSt_mnI : ∀ (l : List AV) (k : IntKind) (a : Int), NoSt (mnI k a l)
  | [], k, a => NoSt.val
  | x :: l, k, a => by
    cases x <;> simp only [mnI] <;> try exact .fail
    split
    · exact noSt_mnI l _ _
    · exact .fail
theorem noSt_mxI : ∀ (l : List AV) (k : IntKind) (a : Int), NoSt (mxI k a l)
  | [], k, a => NoSt.val
  | x :: l, k, a => by
    cases x <;> simp only [mxI] <;> try exact .fail
    split
    · exact noSt_mxI l _ _
    · exact .fail

theorem lkRes_noSt (ok : Bool) (v : AV) (f : Bool) : NoSt (lkRes ok v f) := by cases ok <;> exact NoSt.val

theorem appMove_up (el sz by' : Nat) (p : Pos) (o n need : Nat) (l : List AV) (s : St) : Up s (appMove el sz by' p o n need l s) := by
  cases s with
  | mk h nx =>
    unfold appMove
    simp only
    split
    · split
      · split
        · exact Up.st (by rw [mk_nx, mk_nx, Pos.num_succ]; omega)
        · split
          · exact Up.st (by rw [mk_nx, mk_nx, Pos.num_succ]; omega)
          · exact NoSt.fail.up
      · exact NoSt.fail.up
    · exact NoSt.fail.up

theorem appNew_up (el sz by' need : Nat) (l : List AV) (s : St) : Up s (appNew el sz by' need l s) := by
  unfold appNew
  split
  · exact newCells_up (k := fun p s' => OR.st _ s') fun s1 h => Up.st h
  · exact NoSt.fail.up

theorem appAt_up (el sz by' : Nat) (y : AV) (m : Nat) (l : List AV) (s : St) : Up s (appAt el sz by' y m l s) := by
  unfold appAt
  split
  · split
    · exact NoSt.val.up
    · exact appNew_up ..
  · split
    · exact NoSt.fail.up
    · split
      · exact NoSt.val.up
      · split
        · split
          · rename_i h; exact Up.st (stCells_up h)
          · exact NoSt.fail.up
        · split
          · split
            · exact appNew_up ..
            · exact NoSt.fail.up
          · exact appMove_up ..
  · exact NoSt.fail.up

theorem evOp_up (x : ROp) (s : St) : Up s (evOp x s) := by
  cases x
  case mv x => exact NoSt.val.up
  case pick c x y => exact (noSt_pick c x y).up
  case alloc z el => exact newCells_up (k := fun p s' => OR.st _ s') fun s1 h => Up.st h
  case box el x =>
    show Up s (doBox el x s)
    unfold doBox
    cases known x with
    | false => exact NoSt.fail.up
    | true => exact newCells_up (k := fun p s' => OR.st _ s') fun s1 h => Up.st h
  case build z ps =>
    show Up s (doBuild z ps)
    unfold doBuild
    split <;> first | exact NoSt.fail.up | exact NoSt.val.up
  case bslice el sz n z ps =>
    show Up s (doBslice el sz n z ps s)
    unfold doBslice
    split
    · exact newCells_up (k := fun p s' => OR.st _ s') fun s1 h => Up.st h
    · exact NoSt.fail.up
  case load ag n x => exact (noSt_load ag n x s).up
  case store n x v =>
    show Up s (doStore n x v s)
    unfold doStore
    cases asP x with
    | no => exact NoSt.fail.up
    | yes p o =>
      simp only [brec]
      split
      · cases hs : stCells p o (cellsOf v) s with
        | none => exact NoSt.fail.up
        | some s1 => exact Up.st (stCells_up hs)
      · exact NoSt.fail.up
  case nilck x => 
    show Up s (doNilck x)
    unfold doNilck
    split <;> first | exact NoSt.fail.up | exact NoSt.val.up
  case bin op q x y => exact (noSt_bin op q x y).up
  case un op x =>
    show Up s (doUn op x)
    unfold doUn
    split
    · split <;> first | exact NoSt.fail.up | exact NoSt.val.up
    · split <;> first | exact NoSt.fail.up | exact NoSt.val.up
    · split
      · split
        · exact NoSt.fail.up
        · split <;> first | exact NoSt.fail.up | exact NoSt.val.up
      · exact NoSt.fail.up
    · exact NoSt.fail.up
  case conv k x =>
    show Up s (doConv k x)
    unfold doConv
    cases asI x with
    | no => exact NoSt.fail.up
    | yes a b => exact NoSt.val.up
  case b2s x =>
    show Up s (doB2s x s)
    unfold doB2s
    split
    · exact NoSt.val.up
    · split
      · split
        · split <;> first | exact NoSt.fail.up | exact NoSt.val.up
        · exact NoSt.fail.up
      · exact NoSt.fail.up
    · exact NoSt.fail.up
  case s2b el x =>
    show Up s (doS2b el x s)
    unfold doS2b
    split
    · exact newCells_up (k := fun p s' => OR.st _ s') fun s1 h => Up.st h
    · exact NoSt.fail.up
  case s2s x =>
    show Up s (doS2s x s)
    unfold doS2s
    split
    · cases getC s _ with
      | no => exact NoSt.fail.up
      | yes t len el wr ex => exact (NoSt.brec .fail .val).up
    · exact NoSt.fail.up
  case mkfn f a b => exact NoSt.val.up
  case mkmap =>
    show Up s (doMkmap s)
    cases s with
    | mk h n => exact Up.st (by rw [mk_nx, mk_nx, Pos.num_succ]; omega)
  case mkslice el sz by' z l c =>
    show Up s (doMkslice el sz by' z l c s)
    unfold doMkslice
    split
    · split
      · split
        · exact newCells_up (k := fun p s' => OR.st _ s') fun s1 h => Up.st h
        · exact NoSt.fail.up
      · exact NoSt.fail.up
    · exact NoSt.fail.up
  case sstr x lo hi =>
    show Up s (doSstr x lo hi)
    unfold doSstr
    split
    · split
      · split
        · split <;> first | exact NoSt.fail.up | exact NoSt.val.up
        · exact NoSt.fail.up
      · exact NoSt.fail.up
    · exact NoSt.fail.up
  case sslc sz x lo hi mx =>
    show Up s (doSslc sz x lo hi mx)
    unfold doSslc
    split
    · split
      · split
        · exact (slc3_noSt ..).up
        · exact NoSt.fail.up
      · exact NoSt.fail.up
    · split
      · split
        · split
          · split <;> first | exact NoSt.fail.up | exact NoSt.val.up
          · exact NoSt.fail.up
        · exact NoSt.fail.up
      · exact NoSt.fail.up
    · exact NoSt.fail.up
  case sarr n sz x lo hi mx =>
    show Up s (doSarr n sz x lo hi mx)
    unfold doSarr
    split
    · split
      · split
        · exact (slc3_noSt ..).up
        · exact NoSt.fail.up
      · exact NoSt.fail.up
    · exact NoSt.fail.up
  case faddr o x =>
    show Up s (doFaddr o x)
    unfold doFaddr
    cases asP x with
    | no => exact NoSt.fail.up
    | yes p a => exact NoSt.val.up
  case field ag o n x =>
    show Up s (doField ag o n x)
    unfold doField
    split
    · exact (noSt_part ..).up
    · exact NoSt.fail.up
  case iarr n sz x i =>
    show Up s (doIarr n sz x i)
    unfold doIarr
    cases asP x with
    | no => exact NoSt.fail.up
    | yes p o => exact (NoSt.orec .fail fun j => .brec .fail .val).up
  case islc sz x i =>
    show Up s (doIslc sz x i)
    unfold doIslc
    cases asS x with
    | no => exact NoSt.fail.up
    | nl => exact NoSt.fail.up
    | yes p o n c ex sz2 => exact (NoSt.orec .fail fun j => .brec .fail (.brec .fail .val)).up
  case ixarr n ag sz x i =>
    show Up s (doIxarr n ag sz x i)
    unfold doIxarr
    split
    · split
      · split
        · exact (noSt_part ..).up
        · exact NoSt.fail.up
      · exact NoSt.fail.up
    · exact NoSt.fail.up
  case ixstr x i =>
    show Up s (doIxstr x i)
    unfold doIxstr
    cases asT x with
    | no => exact NoSt.fail.up
    | yes n l =>
      refine (NoSt.orec .fail fun j => ?_).up
      cases dp j l with
      | nil => exact .fail
      | cons b r => exact NoSt.val
  case lookup ks z ok m k =>
    show Up s (doLookup ks z ok m k s)
    unfold doLookup
    split
    · exact NoSt.fail.up
    · split
      · exact (lkRes_noSt ..).up
      · split
        · split
          · exact (lkRes_noSt ..).up
          · exact (lkRes_noSt ..).up
          · exact NoSt.fail.up
        · exact NoSt.fail.up
      · exact NoSt.fail.up
  case mapup ks m k v =>
    show Up s (doMapup ks m k v s)
    unfold doMapup
    cases s with
    | mk h nx =>
      split
      · exact NoSt.fail.up
      · split
        · simp only
          split
          · split
            · exact Up.st (Nat.le_refl _)
            · exact NoSt.fail.up
          · exact NoSt.fail.up
        · exact NoSt.fail.up
  case del ks m k =>
    show Up s (doDel ks m k s)
    unfold doDel
    cases s with
    | mk h nx =>
      split
      · exact NoSt.fail.up
      · split
        · exact NoSt.val.up
        · simp only
          split
          · split
            · exact Up.st (Nat.le_refl _)
            · exact NoSt.fail.up
          · exact NoSt.fail.up
        · exact NoSt.fail.up
  case ext x i =>
    show Up s (doExt x i)
    unfold doExt
    cases asTup x with
    | no => exact NoSt.fail.up
    | yes l =>
      show Up s (List.rec (motive := fun _ => OR) .fail (fun v _ _ => .val v) (dpV i l))
      cases dpV i l with
      | nil => exact NoSt.fail.up
      | cons a b => exact NoSt.val.up
  case len st x =>
    show Up s (doLen st x)
    unfold doLen
    cases st with
    | false => cases asS x <;> first | exact NoSt.fail.up | exact NoSt.val.up
    | true => cases asT x <;> first | exact NoSt.fail.up | exact NoSt.val.up
  case lenm x =>
    show Up s (doLenm x s)
    unfold doLenm
    split
    · exact NoSt.val.up
    · split <;> first | exact NoSt.fail.up | exact NoSt.val.up
    · exact NoSt.fail.up
  case lenc n => exact NoSt.val.up
  case cap x =>
    show Up s (doCap x)
    unfold doCap
    split
    · exact NoSt.val.up
    · split <;> exact NoSt.val.up
    · exact NoSt.fail.up
  case app el sz by' y x =>
    show Up s (doApp el sz by' y x s)
    unfold doApp
    split
    · exact appAt_up ..
    · exact NoSt.fail.up
  case appz el sz by' z y x =>
    show Up s (doAppz el sz by' z y x s)
    unfold doAppz
    split
    · split
      · exact appAt_up ..
      · exact NoSt.fail.up
    · exact NoSt.fail.up
  case copy sz d x =>
    show Up s (doCopy sz d x s)
    unfold doCopy
    split
    · split <;> first | exact NoSt.fail.up | exact NoSt.val.up
    · split
      · exact NoSt.fail.up
      · split
        · exact NoSt.val.up
        · split
          · split
            · rename_i h; exact Up.st (stCells_up h)
            · exact NoSt.fail.up
          · exact NoSt.fail.up
        · split
          · split
            · split
              · rename_i h; exact Up.st (stCells_up h)
              · exact NoSt.fail.up
            · exact NoSt.fail.up
          · exact NoSt.fail.up
        · exact NoSt.fail.up
    · exact NoSt.fail.up
  case clr sz z x =>
    show Up s (doClr sz z x s)
    unfold doClr
    cases s with
    | mk h nx =>
      split
      · exact NoSt.val.up
      · exact NoSt.val.up
      · split
        · split
          · exact NoSt.val.up
          · split
            · rename_i h; exact Up.st (stCells_up h)
            · exact NoSt.fail.up
        · exact NoSt.fail.up
      · simp only
        split
        · exact Up.st (Nat.le_refl _)
        · exact NoSt.fail.up
      · exact NoSt.fail.up
  case mn l =>
    show Up s (doMn l)
    unfold doMn
    split
    · exact (noSt_mnI ..).up
    · exact NoSt.fail.up
  case mx l =>
    show Up s (doMx l)
    unfold doMx
    split
    · exact (noSt_mxI ..).up
    · exact NoSt.fail.up
  case sdata x =>
    show Up s (doSdata x)
    unfold doSdata
    split <;> first | exact NoSt.fail.up | exact NoSt.val.up
  case ustr b x n =>
    show Up s (doUstr b x n s)
    unfold doUstr
    split
    · split
      · split <;> first | exact NoSt.fail.up | exact NoSt.val.up
      · split
        · split
          · split
            · split
              · split
                · exact Up.st (by rw [putC_nx]; exact Nat.le_refl _)
                · exact NoSt.fail.up
              · exact NoSt.fail.up
            · exact NoSt.fail.up
          · exact NoSt.fail.up
        · exact NoSt.fail.up
    · exact NoSt.fail.up
  case p2u n x =>
    show Up s (doP2u n x s)
    unfold doP2u
    split
    · exact NoSt.val.up
    · split
      · split <;> first | exact NoSt.fail.up | exact NoSt.val.up
      · exact NoSt.fail.up
    · exact NoSt.fail.up
  case u2p u n x =>
    show Up s (doU2p u n x s)
    unfold doU2p
    split
    · exact NoSt.val.up
    · split
      · split <;> first | exact NoSt.fail.up | exact NoSt.val.up
      · exact NoSt.fail.up
    · exact NoSt.fail.up


section eqs
variable {T : PT FnE} {n : Nat} {s : St} {r : Option Pos} {a : List AV} {g : PT AV}
theorem runS_getv {p : Pos} {k : AV → S} : runS T (n + 1) (.getv p k) r a g s = rget (PT.get g p) fun v => runS T (n + 1) (k v) r a g s := rfl
theorem runS_setv {p : Pos} {v : AV} {t : S} : runS T (n + 1) (.setv p v t) r a g s = runS T (n + 1) t r a (PT.set (some v) p g) s := rfl
theorem runS_op {x : ROp} {k : AV → S} : runS T (n + 1) (.op x k) r a g s = ror (evOp x s) s fun v s => runS T (n + 1) (k v) r a g s := rfl
theorem runS_gop {b : AV} {t : Bool} {x : ROp} {k : AV → S} : runS T (n + 1) (.gop b t x k) r a g s =
    guardR (wantG b t) (fun _ => ror (evOp x s) s fun v s => runS T (n + 1) (k v) r a g s) (fun _ => runS T (n + 1) (k (.tup [])) r a g s) := rfl
theorem runS_callf {f : Pos} {b : List AV} {k : AV → S} : runS T (n + 1) (.callf f b k) r a g s = rcr (callF T (runS T n) f b s) fun v s => runS T (n + 1) (k v) r a g s := rfl
theorem runS_gcallf {c : AV} {t : Bool} {f : Pos} {b : List AV} {k : AV → S} : runS T (n + 1) (.gcallf c t f b k) r a g s =
    guardR (wantG c t) (fun _ => rcr (callF T (runS T n) f b s) fun v s => runS T (n + 1) (k v) r a g s) (fun _ => runS T (n + 1) (k (.tup [])) r a g s) := rfl
theorem runS_callv {x : AV} {b : List AV} {k : AV → S} : runS T (n + 1) (.callv x b k) r a g s = rcr (callV T (runS T n) x b s) fun v s => runS T (n + 1) (k v) r a g s := rfl
theorem runS_gcallv {c : AV} {t : Bool} {x : AV} {b : List AV} {k : AV → S} : runS T (n + 1) (.gcallv c t x b k) r a g s =
    guardR (wantG c t) (fun _ => rcr (callV T (runS T n) x b s) fun v s => runS T (n + 1) (k v) r a g s) (fun _ => runS T (n + 1) (k (.tup [])) r a g s) := rfl
theorem runS_bad : runS T n .bad r a g s = .fail := by cases n <;> rfl

theorem runS_fall : runS T (n + 1) .fall r a g s = .mk .fall g s := rfl
theorem runS_ret : runS T (n + 1) .ret r a g s = .mk .ret g s := rfl
theorem runS_exit {id : Nat} : runS T (n + 1) (.exit id) r a g s = .mk (.exit id) g s := rfl
theorem runS_arg {i : Nat} {k : AV → S} : runS T (n + 1) (.arg i k) r a g s = runS T (n + 1) (k (getAv a i)) r a g s := rfl
theorem runS_chk {ag : Bool} {m : Nat} {x v : AV} {t : S} : runS T (n + 1) (.chk ag m x v t) r a g s = guardR (some (rchk (doLoad ag m x s) v)) (fun _ => runS T (n + 1) t r a g s) (fun _ => .fail) := rfl
theorem runS_gchk {c : AV} {w : Bool} {ag : Bool} {m : Nat} {x v : AV} {t : S} : runS T (n + 1) (.gchk c w ag m x v t) r a g s =
    guardR (wantG c w) (fun _ => guardR (some (rchk (doLoad ag m x s) v)) (fun _ => runS T (n + 1) t r a g s) (fun _ => .fail)) (fun _ => runS T (n + 1) t r a g s) := rfl
theorem runS_brnd {t : S} : runS T (n + 1) (.brnd t) r a g s = beginR r s fun s => runS T (n + 1) t r a g s := rfl
theorem runS_seq {x y : S} : runS T (n + 1) (.seq x y) r a g s = thenR (runS T (n + 1) x r a g s) fun g s => runS T (n + 1) y r a g s := rfl
theorem runS_cond {c : AV} {x y : S} : runS T (n + 1) (.cond c x y) r a g s = condR c (fun _ => runS T (n + 1) x r a g s) (fun _ => runS T (n + 1) y r a g s) := rfl
theorem runS_block {id : Nat} {x : S} : runS T (n + 1) (.block id x) r a g s = blockR id (runS T (n + 1) x r a g s) := rfl
theorem runS_loop {x : S} : runS T (n + 1) (.loop x) r a g s = thenR (runS T (n + 1) x r a g s) fun g s => runS T n (.loop x) r a g s := rfl
theorem runS_rfun {f : AV} {b : S} : runS T (n + 1) (.rfun f b) r a g s = runR T (runS T n) f b r g s := rfl

end eqs

theorem outRet_mk {o : Out} {k : Unit → CR} {v : AV} {s : St} (h : outRet o k = .mk v s) : (∀ id, o ≠ .exit id) ∧ k () = .mk v s := by
  cases o with
  | fall => exact ⟨(fun _ h => by cases h), h⟩
  | ret => exact ⟨(fun _ h => by cases h), h⟩
  | exit id => cases h
theorem readRes_mk {g : PT AV} {s : St} {l : List ResD} {v : AV} {s1 : St} (h : readRes g s l = .mk v s1) : s1 = s ∧ ∃ m, readAll g s l = some m ∧ v = (match m with | [x] => x | m => .tup m) := by
  unfold readRes at h
  cases hr : readAll g s l with
  | none => rw [hr] at h; cases h
  | some m =>
    rw [hr] at h
    match m, h with
    | [], h => cases h; exact ⟨rfl, _, rfl, rfl⟩
    | [x], h => cases h; exact ⟨rfl, _, rfl, rfl⟩
    | x :: y :: l, h => cases h; exact ⟨rfl, _, rfl, rfl⟩
theorem rret_mk {res : List ResD} {r : Res} {v : AV} {s1 : St} (h : rret res r = .mk v s1) : ∃ o g, r = .mk o g s1 ∧ (∀ id, o ≠ .exit id) ∧ readRes g s1 res = .mk v s1 := by
  cases r with
  | fail => cases h
  | mk o g s =>
    obtain ⟨h1, h2⟩ := outRet_mk h
    obtain ⟨rfl, _⟩ := readRes_mk h2
    exact ⟨o, g, rfl, h1, h2⟩
theorem callF_mk {T : PT FnE} {ih : S → RT} {f : Pos} {a : List AV} {s s1 : St} {v : AV} (h : callF T ih f a s = .mk v s1) :
    (∃ b res, PT.get T f = some (.body b res) ∧ rret res (ih b none a .lf s) = .mk v s1) ∨ ∃ g, PT.get T f = some (.prim g) ∧ g a s = .mk v s1 := by
  unfold callF at h
  cases hf : PT.get T f with
  | none => rw [hf] at h; cases h
  | some e =>
    rw [hf] at h
    cases e with
    | body b res => exact .inl ⟨b, res, rfl, h⟩
    | prim g => exact .inr ⟨g, rfl, h⟩
theorem endY_mk {l : Pos} {r : Res} {v : AV} {s1 : St} (h : endY l r = .mk v s1) : ∃ o g2 hh nx j g b, r = .mk o g2 (.mk hh nx) ∧ PT.get hh l = some (.loop .busy j g b) ∧
    ((o = .fall ∧ v = .bool true ∧ s1 = .mk (PT.set (some (.loop .ready .none g b)) l hh) nx) ∨ (o = .ret ∧ v = .bool false ∧ s1 = .mk (PT.set (some (.loop .done .ret g b)) l hh) nx) ∨
     ∃ id, o = .exit id ∧ v = .bool false ∧ s1 = .mk (PT.set (some (.loop .done (.exit id) g b)) l hh) nx) := by
  cases r with
  | fail => cases h
  | mk o g2 s =>
    cases s with
    | mk hh nx =>
      simp only [endY] at h
      cases hl : PT.get hh l with
      | none => rw [hl] at h; cases h
      | some ob =>
        rw [hl] at h
        cases ob with
        | cells _ _ _ _ _ => cases h
        | map _ => cases h
        | loop st j g b =>
          cases st <;> try (cases h; done)
          cases o with
          | fall => cases h; exact ⟨_, _, _, _, _, _, _, rfl, hl, .inl ⟨rfl, rfl, rfl⟩⟩
          | ret => cases h; exact ⟨_, _, _, _, _, _, _, rfl, hl, .inr (.inl ⟨rfl, rfl, rfl⟩)⟩
          | exit id => cases h; exact ⟨_, _, _, _, _, _, _, rfl, hl, .inr (.inr ⟨id, rfl, rfl, rfl⟩)⟩
theorem callY_mk {ih : S → RT} {l : Pos} {a : List AV} {s s1 : St} {v : AV} (h : callY ih l a s = .mk v s1) : ∃ hh nx j g x, s = .mk hh nx ∧ PT.get hh l = some (.loop .ready j g (.block a.length x)) ∧ endY l (ih x (some l) a g (.mk hh nx)) = .mk v s1 := by
  cases s with
  | mk hh nx =>
    simp only [callY] at h
    cases hl : PT.get hh l with
    | none => rw [hl] at h; cases h
    | some ob =>
      rw [hl] at h
      cases ob with
      | cells _ _ _ _ _ => cases h
      | map _ => cases h
      | loop st j g b =>
        cases st <;> try (cases h; done)
        cases b <;> try (cases h; done)
        rename_i k x
        simp only at h
        cases hk : Nat.beq k (lenL a) with
        | false => rw [hk] at h; cases h
        | true =>
          rw [hk] at h
          have hk := Nat.eq_of_beq_eq_true hk
          rw [lenL_eq] at hk
          subst hk
          exact ⟨hh, nx, j, g, x, rfl, hl, h⟩
theorem endL_mk {l : Pos} {g : PT AV} {r : CR} {o : Out} {g' : PT AV} {s' : St} (h : endL l g r = .mk o g' s') : ∃ v hh nx st j g2 b, r = .mk v (.mk hh nx) ∧ PT.get hh l = some (.loop st j g2 b) ∧ st ≠ .busy ∧ g' = g ∧
    s' = .mk (PT.set (some (.loop .exhausted j g2 b)) l hh) nx ∧ o = (match j with | .none => .fall | .ret => .ret | .exit id => .exit id) := by
  cases r with
  | fail => cases h
  | mk v s =>
    cases s with
    | mk hh nx =>
      simp only [endL] at h
      cases hl : PT.get hh l with
      | none => rw [hl] at h; cases h
      | some ob =>
        rw [hl] at h
        cases ob with
        | cells _ _ _ _ _ => cases h
        | map _ => cases h
        | loop st j g2 b =>
          cases st <;> simp only at h <;> try (cases h; done)
          all_goals (cases j <;> cases h <;> exact ⟨_, _, _, _, _, _, _, rfl, hl, (fun h => by cases h), rfl, rfl, rfl⟩)
theorem runR_mk {T : PT FnE} {ih : S → RT} {f : AV} {b : S} {r : Option Pos} {g : PT AV} {s : St} {o : Out} {g' : PT AV} {s' : St} (h : runR T ih f b r g s = .mk o g' s') : ∃ hh nx, s = .mk hh nx ∧ rndOk r hh = true ∧
    endL nx g (callV T ih f [.func (.yd nx) [] []] (.mk (PT.set (some (.loop .ready .none g b)) nx hh) nx.succ)) = .mk o g' s' := by
  cases s with
  | mk hh nx =>
    simp only [runR] at h
    cases hr : rndOk r hh with
    | false => rw [hr] at h; cases h
    | true => rw [hr] at h; exact ⟨hh, nx, rfl, hr, h⟩
theorem thenR_mk {r : Res} {k : PT AV → St → Res} {o : Out} {g' : PT AV} {s' : St} (h : thenR r k = .mk o g' s') :
    (∃ g s, r = .mk .fall g s ∧ k g s = .mk o g' s') ∨ (o ≠ .fall ∧ r = .mk o g' s') := by
  cases r with
  | fail => cases h
  | mk o1 g s =>
    cases o1 with
    | fall => exact .inl ⟨g, s, rfl, h⟩
    | ret => cases h; exact .inr ⟨(fun h => by cases h), rfl⟩
    | exit id => cases h; exact .inr ⟨(fun h => by cases h), rfl⟩
theorem blockR_mk {id : Nat} {r : Res} {o : Out} {g' : PT AV} {s' : St} (h : blockR id r = .mk o g' s') :
    (r = .mk .fall g' s' ∧ o = .fall) ∨ (r = .mk .ret g' s' ∧ o = .ret) ∨ (r = .mk (.exit id) g' s' ∧ o = .fall) ∨ ∃ j, j ≠ id ∧ r = .mk (.exit j) g' s' ∧ o = .exit j := by
  cases r with
  | fail => cases h
  | mk o1 g s =>
    cases o1 with
    | fall => cases h; exact .inl ⟨rfl, rfl⟩
    | ret => cases h; exact .inr (.inl ⟨rfl, rfl⟩)
    | exit j =>
      change (Bool.rec (motive := fun _ => Res) (.mk (.exit j) g s) (.mk .fall g s) (Nat.beq j id) : Res) = _ at h
      cases hb : Nat.beq j id with
      | true => rw [hb] at h; cases h; rw [Nat.eq_of_beq_eq_true hb]; exact .inr (.inr (.inl ⟨rfl, rfl⟩))
      | false => rw [hb] at h; cases h; exact .inr (.inr (.inr ⟨j, (Nat.ne_of_beq_eq_false hb), rfl, rfl⟩))
theorem condR_mk {c : AV} {x y : Unit → Res} {o : Out} {g' : PT AV} {s' : St} (h : condR c x y = .mk o g' s') : ∃ b, c = .bool b ∧ (if b then x () else y ()) = .mk o g' s' := by
  unfold condR at h
  cases hc : asB c with
  | no => rw [hc] at h; cases h
  | yes b => rw [hc] at h; cases b <;> exact ⟨_, asB_yes hc, h⟩
theorem beginR_mk {r : Option Pos} {s : St} {k : St → Res} {o : Out} {g' : PT AV} {s' : St} (h : beginR r s k = .mk o g' s') : ∃ l hh nx j g b, r = some l ∧ s = .mk hh nx ∧ PT.get hh l = some (.loop .ready j g b) ∧
    k (.mk (PT.set (some (.loop .busy j g b)) l hh) nx) = .mk o g' s' := by
  cases r with
  | none => cases h
  | some l =>
    cases s with
    | mk hh nx =>
      simp only [beginR] at h
      cases hl : PT.get hh l with
      | none => rw [hl] at h; cases h
      | some ob =>
        rw [hl] at h
        cases ob with
        | cells _ _ _ _ _ => cases h
        | map _ => cases h
        | loop st j g b =>
          cases st <;> try (cases h; done)
          exact ⟨l, hh, nx, j, g, b, rfl, rfl, hl, h⟩

/-- What stands for functions without a body only adds keys, too. -/
def PrimUp (T : PT FnE) : Prop := ∀ f g, PT.get T f = some (.prim g) → ∀ a s v s1, g a s = .mk v s1 → s.nx.num ≤ s1.nx.num

def RunUp (ih : S → RT) : Prop := ∀ t r a g s o g' s', ih t r a g s = .mk o g' s' → s.nx.num ≤ s'.nx.num

theorem callF_up {T : PT FnE} (hT : PrimUp T) {ih : S → RT} (h : RunUp ih) {f : Pos} {a : List AV} {s s1 : St} {v : AV} (hc : callF T ih f a s = .mk v s1) : s.nx.num ≤ s1.nx.num := by
  rcases callF_mk hc with ⟨b, res, _, hr⟩ | ⟨g, hg, hr⟩
  · obtain ⟨o, g, hm, _⟩ := rret_mk hr
    exact h _ _ _ _ _ _ _ _ hm
  · exact hT f g hg _ _ _ _ hr
theorem callY_up {ih : S → RT} (h : RunUp ih) {l : Pos} {a : List AV} {s s1 : St} {v : AV} (hc : callY ih l a s = .mk v s1) : s.nx.num ≤ s1.nx.num := by
  obtain ⟨hh, nx, j, g, b, rfl, _, hy⟩ := callY_mk hc
  obtain ⟨o, g2, hh2, nx2, j2, g3, b2, hm, _, hs⟩ := endY_mk hy
  have := h _ _ _ _ _ _ _ _ hm
  rcases hs with ⟨_, _, rfl⟩ | ⟨_, _, rfl⟩ | ⟨id, _, _, rfl⟩ <;> exact this
theorem callV_up {T : PT FnE} (hT : PrimUp T) {ih : S → RT} (h : RunUp ih) {x : AV} {a : List AV} {s s1 : St} {v : AV} (hc : callV T ih x a s = .mk v s1) : s.nx.num ≤ s1.nx.num := by
  unfold callV at hc
  cases x <;> try (cases hc; done)
  rename_i f p c
  cases f with
  | fn q => exact callF_up hT h hc
  | yd l => exact callY_up h hc

theorem runS_up {T : PT FnE} (hT : PrimUp T) : ∀ n, RunUp (runS T n)
  | 0 => fun t r a g s o g' s' h => by cases h
  | n + 1 => by
    have ih := runS_up hT n
    have hop : ∀ {x : OR} {s : St} {k : AV → St → Res} {o g' s'}, Up s x → ror x s k = .mk o g' s' → (∀ v s1, k v s1 = .mk o g' s' → s1.nx.num ≤ s'.nx.num) → s.nx.num ≤ s'.nx.num := by
      intro x s k o g' s' hu h hk
      cases x with
      | fail => cases h
      | val v => exact hk v s h
      | st v s1 => exact Nat.le_trans (hu.out v s1 rfl) (hk v s1 h)
    have hcr : ∀ {x : CR} {s : St} {k : AV → St → Res} {o g' s'}, (∀ v s1, x = .mk v s1 → s.nx.num ≤ s1.nx.num) → rcr x k = .mk o g' s' → (∀ v s1, k v s1 = .mk o g' s' → s1.nx.num ≤ s'.nx.num) → s.nx.num ≤ s'.nx.num := by
      intro x s k o g' s' hu h hk
      cases x with
      | fail => cases h
      | mk v s1 => exact Nat.le_trans (hu v s1 rfl) (hk v s1 h)
    have hgd : ∀ {x : Option Bool} {k l : Unit → Res} {o g' s'} {m : Nat}, guardR x k l = .mk o g' s' → (k () = .mk o g' s' → m ≤ s'.nx.num) → (l () = .mk o g' s' → m ≤ s'.nx.num) → m ≤ s'.nx.num := by
      intro x k l o g' s' m h h1 h2
      cases x with
      | none => cases h
      | some b => cases b with
        | true => exact h1 h
        | false => exact h2 h
    intro t
    induction t with
    | fall => intro r a g s o g' s' h; cases h; exact Nat.le_refl _
    | ret => intro r a g s o g' s' h; cases h; exact Nat.le_refl _
    | exit id => intro r a g s o g' s' h; cases h; exact Nat.le_refl _
    | bad => intro r a g s o g' s' h; cases h
    | arg i k ihk => intro r a g s o g' s' h; exact ihk _ r a g s o g' s' h
    | getv p k ihk =>
      intro r a g s o g' s' h
      change rget (PT.get g p) (fun v => runS T (n + 1) (k v) r a g s) = _ at h
      cases hp : PT.get g p with
      | none => rw [hp] at h; cases h
      | some v => rw [hp] at h; exact ihk v r a g s o g' s' h
    | setv p v t iht => intro r a g s o g' s' h; exact iht r a _ s o g' s' h
    | op x k ihk => intro r a g s o g' s' h; exact hop (evOp_up x s) h fun v s1 h1 => ihk v r a g s1 o g' s' h1
    | gop c w x k ihk => intro r a g s o g' s' h; exact hgd h (fun h => hop (evOp_up x s) h fun v s1 h1 => ihk v r a g s1 o g' s' h1) fun h => ihk _ r a g s o g' s' h
    | callf f b k ihk => intro r a g s o g' s' h; exact hcr (fun v s1 h => callF_up hT ih h) h fun v s1 h1 => ihk v r a g s1 o g' s' h1
    | gcallf c w f b k ihk => intro r a g s o g' s' h; exact hgd h (fun h => hcr (fun v s1 h => callF_up hT ih h) h fun v s1 h1 => ihk v r a g s1 o g' s' h1) fun h => ihk _ r a g s o g' s' h
    | callv x b k ihk => intro r a g s o g' s' h; exact hcr (fun v s1 h => callV_up hT ih h) h fun v s1 h1 => ihk v r a g s1 o g' s' h1
    | gcallv c w x b k ihk => intro r a g s o g' s' h; exact hgd h (fun h => hcr (fun v s1 h => callV_up hT ih h) h fun v s1 h1 => ihk v r a g s1 o g' s' h1) fun h => ihk _ r a g s o g' s' h
    | chk ag m x v t iht =>
      intro r a g s o g' s' h
      rw [runS_chk] at h
      exact hgd h (fun h => iht r a g s o g' s' h) (fun h => by cases h)
    | gchk c w ag m x v t iht =>
      intro r a g s o g' s' h
      rw [runS_gchk] at h
      exact hgd h (fun h => hgd h (fun h => iht r a g s o g' s' h) (fun h => by cases h)) fun h => iht r a g s o g' s' h
    | brnd t iht =>
      intro r a g s o g' s' h
      rw [runS_brnd] at h
      obtain ⟨l, hh, nx, j, g1, b, rfl, rfl, _, h⟩ := beginR_mk h
      exact iht (some l) a g (St.mk (PT.set (some (AObj.loop LSt.busy j g1 b)) l hh) nx) o g' s' h
    | seq x y ihx ihy =>
      intro r a g s o g' s' h
      rw [runS_seq] at h
      rcases thenR_mk h with ⟨g1, s1, h1, h2⟩ | ⟨_, h1⟩
      · exact Nat.le_trans (ihx r a g s _ g1 s1 h1) (ihy r a g1 s1 o g' s' h2)
      · exact ihx r a g s o g' s' h1
    | cond c x y ihx ihy =>
      intro r a g s o g' s' h
      rw [runS_cond] at h
      obtain ⟨b, _, h⟩ := condR_mk h
      cases b
      · exact ihy r a g s o g' s' h
      · exact ihx r a g s o g' s' h
    | block id x ihx =>
      intro r a g s o g' s' h
      rw [runS_block] at h
      rcases blockR_mk h with ⟨h, _⟩ | ⟨h, _⟩ | ⟨h, _⟩ | ⟨j, _, h, _⟩ <;> exact ihx r a g s _ g' s' h
    | loop x ihx =>
      intro r a g s o g' s' h
      rw [runS_loop] at h
      rcases thenR_mk h with ⟨g1, s1, h1, h2⟩ | ⟨_, h1⟩
      · exact Nat.le_trans (ihx r a g s _ g1 s1 h1) (ih _ r a g1 s1 o g' s' h2)
      · exact ihx r a g s o g' s' h1
    | rfun f b _ =>
      intro r a g s o g' s' h
      rw [runS_rfun] at h
      obtain ⟨hh, nx, rfl, _, h⟩ := runR_mk h
      obtain ⟨v, hh2, nx2, st, j, g2, b2, hc, _, _, _, rfl, _⟩ := endL_mk h
      have := callV_up hT ih hc
      simp only [mk_nx, Pos.num_succ] at this ⊢
      omega

end Go.Ev

/- Where the machine stands: frames of a lone goroutine, their steps, and what one operation does from there. -/
namespace Go.Ev

/-- What a frame keeps: its function and its round. -/
structure Ctx where
  fn : FuncId
  ro : Option Nat

def frm (c : Ctx) (tm : Array Value) (df : List Deferred) (todo : List Item) : Frame :=
  { fn := c.fn, tmps := tm, todo, defers := df, mode := .run, kind := .normal, roundOf := c.ro }

def ev (tm : Array Value) : Operand → Value
  | .tmp t => tm.getD t undef
  | .const v => v
  | .global g => .pointer (some ⟨g, 0, none⟩)
  | .func f => .func (.func f) #[] #[]

variable {P : Program} {c : Ctx} {tm : Array Value} {df : List Deferred} {k : List Item} {cs : List Frame} {w : World}

theorem eval_frm (todo : List Item) : (frm c tm df todo).eval = ev tm := by
  funext x; cases x <;> rfl

def putV (tm : Array Value) (d : Option Tmp) (v : Value) : Array Value :=
  match d with
  | some t => tm.setIfInBounds t v
  | none => tm

theorem finish_frm (ops : Array Oper) (i : Nat) (rest : List Nat) (v : Value) :
    (frm c tm df (.inRegion ops (i :: rest) :: k)).finish v = frm c (putV tm ((ops[i]?).bind (·.dst)) v) df (.inRegion ops rest :: k) := by
  cases h : (ops[i]?).bind (·.dst) <;> simp [Frame.finish, frm, putV, h]

section moves
theorem go_skip : step P (lone (frm c tm df (.code .skip :: k)) cs w) = .next (lone (frm c tm df k) cs w) := step_lone_go (by simp [stepG, stepG.exec, frm])
theorem go_label {l : Nat} : step P (lone (frm c tm df (.code (.label l) :: k)) cs w) = .next (lone (frm c tm df k) cs w) := step_lone_go (by simp [stepG, stepG.exec, frm])
theorem go_inBlock {id : Nat} : step P (lone (frm c tm df (.inBlock id :: k)) cs w) = .next (lone (frm c tm df k) cs w) := step_lone_go (by simp [stepG, stepG.exec, frm])
theorem go_inScope {x : Code} : step P (lone (frm c tm df (.inScope x :: k)) cs w) = .next (lone (frm c tm df k) cs w) := step_lone_go (by simp [stepG, stepG.exec, frm])
theorem go_seq {x y : Code} : step P (lone (frm c tm df (.code (.seq x y) :: k)) cs w) = .next (lone (frm c tm df (.code x :: .code y :: k)) cs w) := step_lone_go (by simp [stepG, stepG.exec, frm])
theorem go_cond {o : Operand} {x y : Code} {t : Bool} (h : ev tm o = .bool t) :
    step P (lone (frm c tm df (.code (.cond o x y) :: k)) cs w) = .next (lone (frm c tm df (.code (if t then x else y) :: k)) cs w) :=
  step_lone_go (by
    have := congrFun (eval_frm (c := c) (tm := tm) (df := df) (.code (.cond o x y) :: k)) o
    simp only [frm] at this
    simp [stepG, stepG.exec, frm, this, h])
theorem go_block {id : Nat} {x : Code} : step P (lone (frm c tm df (.code (.block id x) :: k)) cs w) = .next (lone (frm c tm df (.code x :: .inBlock id :: k)) cs w) := step_lone_go (by simp [stepG, stepG.exec, frm])
theorem go_loop {x : Code} : step P (lone (frm c tm df (.code (.loop x) :: k)) cs w) = .next (lone (frm c tm df (.code x :: .inLoop x :: k)) cs w) := step_lone_go (by simp [stepG, stepG.exec, frm])
theorem go_inLoop {x : Code} : step P (lone (frm c tm df (.inLoop x :: k)) cs w) = .next (lone (frm c tm df (.code x :: .inLoop x :: k)) cs w) := step_lone_go (by simp [stepG, stepG.exec, frm])
theorem go_scope {x : Code} : step P (lone (frm c tm df (.code (.scope x) :: k)) cs w) = .next (lone (frm c tm df (.code x :: .inScope x :: k)) cs w) := step_lone_go (by simp [stepG, stepG.exec, frm])
theorem go_exit {id : Nat} {k' : List Item} (h : exitTo id k = some k') : step P (lone (frm c tm df (.code (.exit id) :: k)) cs w) = .next (lone (frm c tm df k') cs w) := step_lone_go (by simp [stepG, stepG.exec, frm, h])
theorem go_ret (h : c.ro = none) : step P (lone (frm c tm df (.code .ret :: k)) cs w) = .next (lone { frm c tm df (.code .ret :: k) with mode := .returning } cs w) := step_lone_go (by simp [stepG, stepG.exec, frm, h])
theorem go_end (h : c.ro = none) : step P (lone (frm c tm df []) cs w) = .next (lone { frm c tm df [] with mode := .returning } cs w) := step_lone_go (by simp [stepG, stepG.exec, frm, h])
theorem go_region {ops : Array Oper} {id : Nat} : step P (lone (frm c tm df (.code (.region id ops false) :: k)) cs w) = .next (lone (frm c tm df (.inRegion ops (List.range ops.size) :: k)) cs w) := step_lone_go (by simp [stepG, stepG.exec, frm])
theorem go_region_draw {ops : Array Oper} {id : Nat} : step P (lone (frm c tm df (.code (.region id ops true) :: k)) cs w) =
    .next (lone (frm c tm df (.inRegion ops (Region.schedule (P.follows .mixedOrders) ops (w.tape w.drawn (.order c.fn id))) :: k)) cs (dr w (w.drawn + 1))) :=
  step_lone_go (by simp [stepG, stepG.exec, frm, choose, Sem.run, Question.forced, Question.cut, dr])
theorem go_region_end {ops : Array Oper} : step P (lone (frm c tm df (.inRegion ops [] :: k)) cs w) = .next (lone (frm c tm df k) cs w) := step_lone_go (by simp [stepG, stepG.exec, frm])
theorem go_op_skip {ops : Array Oper} {i : Nat} {rest : List Nat} (h : ((ops[i]?).map (Region.wanted · (yielded ops tm))).getD false = false) :
    step P (lone (frm c tm df (.inRegion ops (i :: rest) :: k)) cs w) = .next (lone (frm c (putV tm ((ops[i]?).bind (·.dst)) undef) df (.inRegion ops rest :: k)) cs w) := by
  rw [← finish_frm]
  exact step_lone_go (by
    have h' := h
    simp only [frm] at *
    simp [stepG, stepG.exec, h'])

/-- An operation that is no defer statement. -/
theorem stepG_op' {ops : Array Oper} {i : Nat} {rest : List Nat} {o : Oper} (ho : ops[i]? = some o) (hw : Region.wanted o (yielded ops tm) = true) (hd : ∀ d, o.op ≠ .defer d) :
    stepG P true { frame := frm c tm df (.inRegion ops (i :: rest) :: k), callers := cs, status := .running, dying := none } w =
      stepG.apply P true (frm c tm df (.inRegion ops (i :: rest) :: k)) cs none (execOp (ev tm) o) w := by
  have he := eval_frm (c := c) (tm := tm) (df := df) (.inRegion ops (i :: rest) :: k)
  simp only [frm] at he
  have : stepG P true { frame := frm c tm df (.inRegion ops (i :: rest) :: k), callers := cs, status := .running, dying := none } w =
      stepG.oper P true (frm c tm df (.inRegion ops (i :: rest) :: k)) cs none w := by
    simp [stepG, stepG.exec, frm, ho, hw]
  rw [this]
  unfold stepG.oper
  simp only [Frame.oper?, frm, ho]
  rw [he]
  cases hc : c.ro with
  | none => rfl
  | some l =>
    cases hop : o.op with
    | «defer» d => exact absurd hop (hd d)
    | _ => rfl
end moves

/-- What stands at the head takes an answer as it comes. -/
def Takes (fr : Frame) : Prop := (∀ d b r s k, fr.todo ≠ .call d b r s :: k) ∧ ∀ r a k, fr.todo ≠ .extern r a :: k

/-- What a frame asks for is done, and it goes on with the answer. -/
def Does (P : Program) (sem : Sem Next) (w : World) (R : Value → World → Prop) : Prop :=
  ∀ (fr : Frame) (cs : List Frame), Takes fr → ∃ fr1 cs1 w1 v w', (stepG.apply P true fr cs none sem w).bare = .go { frame := fr1, callers := cs1, status := .running, dying := none } w1 ∧
    Steps P (lone fr1 cs1 w1) (lone (fr.finish v) cs w') ∧ R v w'

theorem Does.value {sem : Sem Next} {R : Value → World → Prop} {v : Value} {w' : World} (h : sem.run P w = .ok (.value v) w') (hr : R v w') : Does P sem w R := fun fr cs _ =>
  ⟨fr.finish v, cs, w', v, w', by simp [stepG.apply, h], .refl _ _, hr⟩
theorem Does.skip {sem : Sem Next} {R : Value → World → Prop} {w' : World} (h : sem.run P w = .ok .skip w') (hr : R undef w') : Does P sem w R := fun fr cs _ =>
  ⟨fr.finish undef, cs, w', undef, w', by simp [stepG.apply, h], .refl _ _, hr⟩

theorem Does.enter {sem : Sem Next} {R : Value → World → Prop} {f : FuncId} {args : Array Value} {w1 : World} (h : sem.run P w = .ok (.enter f args) w1)
    (hc : Calls P f args w1 fun e w' => ∃ v, e = .returned v ∧ R v w') : Does P sem w R := fun fr cs ht => by
  obtain ⟨e, w', fr', ⟨v, rfl, hr⟩, hs, _, hl⟩ := hc (fr :: cs)
  refine ⟨Frame.enter P f args .normal, fr :: cs, w1, v, w', ?_, Steps.trans hs (.one (step_leave_returned hl)), hr⟩
  simp only [stepG.apply, Sem.runT_eq, h, if_true, GStep.bare_after]
  split
  · rename_i h; exact absurd h (ht.1 _ _ _ _ _)
  · rfl

theorem Does.round {sem : Sem Next} {R : Value → World → Prop} {l : Nat} {f : FuncId} {tmps : Array Value} {x y : Code} {w1 : World} (h : sem.run P w = .ok (.round l f tmps x y) w1)
    (hc : ∀ (d : Frame) (cs : List Frame), ∃ v w', Steps P (lone (Frame.round l f tmps x y .normal) (d :: cs) w1) (lone (d.finish v) cs w') ∧ R v w') : Does P sem w R := fun fr cs ht => by
  obtain ⟨v, w', hs, hr⟩ := hc fr cs
  exact ⟨Frame.round l f tmps x y .normal, fr :: cs, w1, v, w', by simp [stepG.apply, h], hs, hr⟩

theorem Does.mono {sem : Sem Next} {R R' : Value → World → Prop} (h : Does P sem w R) (hr : ∀ v w', R v w' → R' v w') : Does P sem w R' := fun fr cs ht =>
  let ⟨a, b, c, d, e, x, y, z⟩ := h fr cs ht; ⟨a, b, c, d, e, x, y, hr _ _ z⟩

/-- What is known behind an operation. -/
def After (P : Program) (σ : Sg) (s : St) (w : World) (v : AV) (s' : St) : Value → World → Prop := fun cv w' =>
  ∃ σ', RV σ' s'.nx.num v cv ∧ Rel P σ' s' w' ∧ Goes σ s w σ' s' w'

theorem FineN.does {σ : Sg} {s : St} {r : OR} {sem : Sem Next} (h : FineN P σ s w r sem) {v : AV} {s' : St} (hv : r.out s = some (v, s')) (hf : Fresh σ s.nx.num s'.nx.num) : Does P sem w (After P σ s w v s') := by
  obtain ⟨cv, σ', w', h1, h2, h3, h4⟩ := h v s' hv hf
  rcases h1 with h1 | ⟨rfl, h1⟩
  · exact Does.value h1 ⟨σ', h2, h3, h4⟩
  · exact Does.skip h1 ⟨σ', h2, h3, h4⟩

/-- An operation of a region, done. -/
theorem Does.op {ops : Array Oper} {i : Nat} {rest : List Nat} {o : Oper} {R : Value → World → Prop} (ho : ops[i]? = some o) (hw : Region.wanted o (yielded ops tm) = true) (hd : ∀ d, o.op ≠ .defer d)
    (h : Does P (execOp (ev tm) o) w R) : ∃ v w', Steps P (lone (frm c tm df (.inRegion ops (i :: rest) :: k)) cs w) (lone (frm c (putV tm o.dst v) df (.inRegion ops rest :: k)) cs w') ∧ R v w' := by
  obtain ⟨fr1, cs1, w1, v, w', h1, h2, h3⟩ := h (frm c tm df (.inRegion ops (i :: rest) :: k)) cs ⟨fun _ _ _ _ _ h => by simp [frm] at h, fun _ _ _ h => by simp [frm] at h⟩
  refine ⟨v, w', ?_, h3⟩
  rw [finish_frm, ho] at h2
  refine Steps.head (step_lone_go ?_) h2
  rw [stepG_op' ho hw hd, h1]

end Go.Ev

/- Regions whose order is the text's: each operation, looked up, carried out, laid down. -/
namespace Go.Ev

variable {hi : Nat} {P : Program} {T : PT FnE} {n : Nat} {σ : Sg} {s : St} {w : World} {cf : Cf} {ctx : Ctx} {tm : Array Value} {r : Option Pos} {a : List AV} {e : Env} {g : PT AV} {o : Out} {g' : PT AV} {s' : St}

theorem rget_mk {x : Option AV} {k : AV → Res} (h : rget x k = .mk o g' s') : ∃ v, x = some v ∧ k v = .mk o g' s' := by
  cases x with
  | none => cases h
  | some v => exact ⟨v, rfl, h⟩
theorem ror_mk {x : OR} {k : AV → St → Res} (h : ror x s k = .mk o g' s') : ∃ v s1, x.out s = some (v, s1) ∧ k v s1 = .mk o g' s' := by
  cases x with
  | fail => cases h
  | val v => exact ⟨v, s, rfl, h⟩
  | st v t => exact ⟨v, t, rfl, h⟩
theorem rcr_mk {x : CR} {k : AV → St → Res} (h : rcr x k = .mk o g' s') : ∃ v s1, x = .mk v s1 ∧ k v s1 = .mk o g' s' := by
  cases x with
  | fail => cases h
  | mk v t => exact ⟨v, t, rfl, h⟩
theorem guardR_mk {x : Option Bool} {k l : Unit → Res} (h : guardR x k l = .mk o g' s') : (x = some true ∧ k () = .mk o g' s') ∨ (x = some false ∧ l () = .mk o g' s') := by
  cases x with
  | none => cases h
  | some b => cases b with
    | true => exact .inl ⟨rfl, h⟩
    | false => exact .inr ⟨rfl, h⟩

/-- The program's variables lie where their keys say. -/
def GlobOK (P : Program) (σ : Sg) (nx : Nat) : Prop := ∀ g, g < P.globals.size → σ.live (n2p g) ∧ σ.blk (n2p g) = g ∧ σ.base (n2p g) = 0
theorem GlobOK.mono {σ' : Sg} {a b : Nat} (h : σ.le a σ' b) (hg : GlobOK P σ a) : GlobOK P σ' b := fun g hlt => by
  obtain ⟨h1, h2, h3⟩ := hg g hlt
  obtain ⟨e0, e1, e2, _⟩ := h.2 _ h1
  exact ⟨e0, e1.trans h2, e2.trans h3⟩

/-- A frame's round. -/
def RndOK (σ : Sg) (nx : Nat) : Option Pos → Option Nat → Prop
  | none, x => x = none
  | some l, x => σ.live l ∧ x = some (σ.blk l)
theorem RndOK.mono {σ' : Sg} {a b : Nat} (h : σ.le a σ' b) {x : Option Nat} : RndOK σ a r x → RndOK σ' b r x := by
  cases r with
  | none => exact id
  | some l => rintro ⟨h1, h2⟩; exact ⟨(h.2 l h1).1, by rw [h2, (h.2 l h1).2.1]⟩

/-- All that is known at a place of a frame. -/
structure Inv (P : Program) (hi : Nat) (cf : Cf) (ctx : Ctx) (r : Option Pos) (σ : Sg) (s : St) (w : World) (e : Env) (g : PT AV) (tm : Array Value) : Prop where
  rel : Rel P σ s w
  env : EnvOK σ s.nx.num e tm
  gok : GOK σ s.nx.num cf g tm
  nt : cf.nt ≤ tm.size
  glob : GlobOK P σ s.nx.num
  rnd : RndOK σ s.nx.num r ctx.ro
  fresh : Fresh σ s.nx.num hi

theorem EnvOK.set {nx : Nat} {t : Nat} {v : AV} {tm' : Array Value} (he : EnvOK σ nx e tm) (ht : RV σ nx v (tm'.getD t undef)) (hs : ∀ u, u ≠ t → tm'.getD u undef = tm.getD u undef) : EnvOK σ nx (PT.set (some v) (n2p t) e) tm' := by
  intro u x hx
  rw [PT.get_set] at hx
  by_cases hu : u = t
  · subst hu; rw [if_pos rfl] at hx; cases hx; exact ht
  · rw [if_neg (fun h => hu (n2p_inj h))] at hx; rw [hs u hu]; exact he u x hx

theorem Inv.envset (h : Inv P hi cf ctx r σ s w e g tm) {t : Nat} {v : AV} (hv : RV σ s.nx.num v (tm.getD t undef)) : Inv P hi cf ctx r σ s w (PT.set (some v) (n2p t) e) g tm :=
  { h with env := h.env.set hv fun _ _ => rfl }

/-- An operand, looked up. -/
theorem look_run (hP : cf.P = P) {x : Operand} {k : Env → AV → S} (hI : Inv P hi cf ctx r σ s w e g tm) (h : runS T (n + 1) (look cf e x k) r a g s = .mk o g' s') :
    ∃ e1 v, Inv P hi cf ctx r σ s w e1 g tm ∧ RV σ s.nx.num v (ev tm x) ∧ runS T (n + 1) (k e1 v) r a g s = .mk o g' s' := by
  cases x with
  | const v => exact ⟨e, absV v, hI, absV_ok v, h⟩
  | global b =>
    simp only [look] at h
    cases hb : Nat.blt b cf.P.globals.size with
    | false => rw [hb] at h; rw [runS_bad] at h; cases h
    | true =>
      rw [hb] at h
      rw [blt_eq, hP] at hb
      obtain ⟨h1, h2, h3⟩ := hI.glob b hb
      exact ⟨e, _, hI, by simp only [RV]; exact ⟨h1, by rw [h2, h3]; rfl⟩, h⟩
  | func f => exact ⟨e, _, hI, by simp only [RV]; exact ⟨_, _, _, rfl, by simp [RF, n2p_num], by simp [RVs], by simp [RVs]⟩, h⟩
  | tmp t =>
    simp only [look] at h
    cases he : PT.get e (n2p t) with
    | some v => rw [he] at h; exact ⟨e, v, hI, hI.env t v he, h⟩
    | none =>
      rw [he] at h
      simp only at h
      cases hg : isG cf t with
      | false => rw [hg] at h; rw [runS_bad] at h; cases h
      | true =>
        rw [hg] at h
        simp only [runS_getv] at h
        obtain ⟨v, hv, h⟩ := rget_mk h
        have hr := hI.gok t v hg hv
        exact ⟨_, v, hI.envset hr, hr, h⟩

theorem looks_run (hP : cf.P = P) : ∀ (l : List Operand) {e : Env} {k : Env → List AV → S}, Inv P hi cf ctx r σ s w e g tm → runS T (n + 1) (looks cf e l k) r a g s = .mk o g' s' →
    ∃ e1 vs, Inv P hi cf ctx r σ s w e1 g tm ∧ RVs σ s.nx.num vs (l.map (ev tm)) ∧ runS T (n + 1) (k e1 vs) r a g s = .mk o g' s'
  | [], e, k, hI, h => ⟨e, [], hI, by simp [RVs], h⟩
  | x :: l, e, k, hI, h => by
    simp only [looks] at h
    obtain ⟨e1, v, hI1, hv, h⟩ := look_run hP hI h
    obtain ⟨e2, vs, hI2, hvs, h⟩ := looks_run hP l hI1 h
    exact ⟨e2, v :: vs, hI2, RVs_cons.2 ⟨hv, hvs⟩, h⟩

theorem putV_size (tm : Array Value) (d : Option Tmp) (v : Value) : (putV tm d v).size = tm.size := by cases d <;> simp [putV]
theorem putV_other {d : Option Tmp} {v : Value} {u : Nat} (h : d ≠ some u) : (putV tm d v).getD u undef = tm.getD u undef := by
  cases d with
  | none => rfl
  | some t =>
    have : t ≠ u := fun e => h (by rw [e])
    simp [putV, Array.getElem?_setIfInBounds_ne this]
theorem putV_same {t : Nat} {v : Value} (h : t < tm.size) : (putV tm (some t) v).getD t undef = v := by simp [putV, h]

/-- A value, laid down. -/
theorem putT_run {d : Option Tmp} {v : AV} {cv : Value} {k : Env → S} (hI : Inv P hi cf ctx r σ s w e g tm) (hv : RV σ s.nx.num v cv) (h : runS T (n + 1) (putT cf e d v k) r a g s = .mk o g' s') :
    ∃ e1 g1, Inv P hi cf ctx r σ s w e1 g1 (putV tm d cv) ∧ runS T (n + 1) (k e1) r a g1 s = .mk o g' s' := by
  cases d with
  | none => exact ⟨e, g, hI, h⟩
  | some t =>
    simp only [putT] at h
    cases hb : Nat.blt t cf.nt with
    | false => rw [hb] at h; rw [runS_bad] at h; cases h
    | true =>
      rw [hb] at h
      rw [blt_eq] at hb
      have hlt : t < tm.size := Nat.lt_of_lt_of_le hb hI.nt
      have hsz : cf.nt ≤ (putV tm (some t) cv).size := by rw [putV_size]; exact hI.nt
      have hold : ∀ u, u ≠ t → (putV tm (some t) cv).getD u undef = tm.getD u undef := fun u hu => putV_other (fun h => hu (by cases h; rfl))
      have henv : EnvOK σ s.nx.num (PT.set (some v) (n2p t) e) (putV tm (some t) cv) := hI.env.set (by rw [putV_same hlt]; exact hv) hold
      simp only at h
      cases hg : isG cf t with
      | true =>
        rw [hg] at h
        simp only [runS_setv] at h
        refine ⟨_, _, { hI with env := henv, nt := hsz, gok := fun u x hu hx => ?_ }, h⟩
        rw [PT.get_set] at hx
        by_cases hut : u = t
        · subst hut; rw [if_pos rfl] at hx; cases hx; rw [putV_same hlt]; exact hv
        · rw [if_neg (fun h => hut (n2p_inj h))] at hx; rw [hold u hut]; exact hI.gok u x hu hx
      | false =>
        rw [hg] at h
        refine ⟨_, g, { hI with env := henv, nt := hsz, gok := fun u x hu hx => ?_ }, h⟩
        have hut : u ≠ t := fun e => by rw [e, hg] at hu; cases hu
        rw [hold u hut]; exact hI.gok u x hu hx

theorem Inv.goes (h : Inv P hi cf ctx r σ s w e g tm) {σ1 : Sg} {s1 : St} {w1 : World} (hr : Rel P σ1 s1 w1) (hg : Goes σ s w σ1 s1 w1) : Inv P hi cf ctx r σ1 s1 w1 e g tm :=
  ⟨hr, h.env.mono hg.le, h.gok.mono hg.le, h.nt, h.glob.mono hg.le, h.rnd.mono hg.le, hg.fresh h.fresh⟩

/-- What is to be known of calls at a fuel. -/
def CallVs (P : Program) (T : PT FnE) (n : Nat) : Prop := ∀ (σ : Sg) (s : St) (w : World) (x : AV) (fv : Value) (as : List AV) (avs : List Value) (v : AV) (s1 : St),
  Rel P σ s w → GlobOK P σ s.nx.num → RV σ s.nx.num x fv → RVs σ s.nx.num as avs → callV T (runS T n) x as s = .mk v s1 → Fresh σ s.nx.num s1.nx.num →
  Does P (do let d ← Deferred.ofValue fv avs.toArray; invoke d.target d.args) w (After P σ s w v s1)

/-- A guard that was asked. -/
def Asked (gd : Option (AV × Bool)) (b : Bool) : Prop :=
  match gd with
  | none => b = true
  | some (c, t) => wantG c t = some b

theorem emitR_run {gd : Option (AV × Bool)} {ro : Option ROp} {k : AV → S} (h : runS T (n + 1) (emitR gd ro k) r a g s = .mk o g' s') :
    (∃ x v s1, Asked gd true ∧ ro = some x ∧ (evOp x s).out s = some (v, s1) ∧ runS T (n + 1) (k v) r a g s1 = .mk o g' s') ∨ (Asked gd false ∧ runS T (n + 1) (k (.tup [])) r a g s = .mk o g' s') := by
  cases ro with
  | none => simp only [emitR] at h; rw [runS_bad] at h; cases h
  | some x =>
    cases gd with
    | none =>
      simp only [emitR, runS_op] at h
      obtain ⟨v, s1, h1, h2⟩ := ror_mk h
      exact .inl ⟨x, v, s1, rfl, rfl, h1, h2⟩
    | some q =>
      obtain ⟨b, t⟩ := q
      simp only [emitR, runS_gop] at h
      rcases guardR_mk h with ⟨hw, h⟩ | ⟨hw, h⟩
      · obtain ⟨v, s1, h1, h2⟩ := ror_mk h
        exact .inl ⟨x, v, s1, hw, rfl, h1, h2⟩
      · exact .inr ⟨hw, h⟩

noncomputable def callvOf (gd : Option (AV × Bool)) (x : AV) (vs : List AV) (k : AV → S) : S :=
  match gd with
  | none => .callv x vs k
  | some (b, w) => .gcallv b w x vs k

/-- One operation: carried out, or not wanted. -/
theorem emitO_run (hT : PrimUp T) (hle : s'.nx.num ≤ hi) (hF : Fresh σ s.nx.num hi) (hP : cf.P = P) (hC : CallVs P T n) {gd : Option (AV × Bool)} {x : Oper} {vs : List AV} {k : AV → S} (hr : Rel P σ s w) (hG : GlobOK P σ s.nx.num) (hv : RVs σ s.nx.num vs (x.op.operands.toList.map (ev tm)))
    (h : runS T (n + 1) (emitO cf gd x vs k) r a g s = .mk o g' s') :
    (∃ v s1, Asked gd true ∧ Does P (execOp (ev tm) x) w (After P σ s w v s1) ∧ runS T (n + 1) (k v) r a g s1 = .mk o g' s') ∨ (Asked gd false ∧ runS T (n + 1) (k (.tup [])) r a g s = .mk o g' s') := by
  have plain : ∀ {k : AV → S}, runS T (n + 1) (emitR gd (mkROp cf.P x.op vs) k) r a g s = .mk o g' s' →
      (∃ v s1, Asked gd true ∧ Does P (execOp (ev tm) x) w (After P σ s w v s1) ∧ runS T (n + 1) (k v) r a g s1 = .mk o g' s') ∨ (Asked gd false ∧ runS T (n + 1) (k (.tup [])) r a g s = .mk o g' s') := by
    intro k h
    rcases emitR_run h with ⟨ro, v, s1, h1, h2, h3, h4⟩ | h
    · rw [hP] at h2
      exact .inl ⟨v, s1, h1, (op_fine hr hv h2).does h3 (hF.mono (Nat.le_refl _) (Nat.le_trans (runS_up hT _ _ _ _ _ _ _ _ _ h4) hle)), h4⟩
    · exact .inr h
  obtain ⟨dst, op, type, pos, after, guard⟩ := x
  have mv : ∀ {y : Operand}, (op = .move y ∨ op = .assign y) → gd = none → (∃ z, vs = [z] ∧ runS T (n + 1) (k z) r a g s = .mk o g' s') →
      (∃ v s1, Asked gd true ∧ Does P (execOp (ev tm) ⟨dst, op, type, pos, after, guard⟩) w (After P σ s w v s1) ∧ runS T (n + 1) (k v) r a g s1 = .mk o g' s') ∨ (Asked gd false ∧ runS T (n + 1) (k (.tup [])) r a g s = .mk o g' s') := by
    rintro y hy rfl ⟨z, rfl, hk⟩
    refine .inl ⟨z, s, rfl, ?_, hk⟩
    rcases hy with rfl | rfl
    · obtain ⟨z', hz, rz⟩ := RVs1 hv
      cases hz
      exact Does.value (v := ev tm y) rfl ⟨σ, rz, hr, Goes.refl _ _ _⟩
    · obtain ⟨z', hz, rz⟩ := RVs1 hv
      cases hz
      exact Does.value (v := ev tm y) rfl ⟨σ, rz, hr, Goes.refl _ _ _⟩
  cases op <;> try exact plain h
  case move y =>
    cases gd with
    | some q => simp only [emitO] at h; exact plain h
    | none =>
      obtain ⟨z, rfl, rz⟩ := RVs1 hv
      exact mv (.inl rfl) rfl ⟨z, rfl, h⟩
  case assign y =>
    cases gd with
    | some q => simp only [emitO] at h; exact plain h
    | none =>
      obtain ⟨z, rfl, rz⟩ := RVs1 hv
      exact mv (.inr rfl) rfl ⟨z, rfl, h⟩
  case call cl =>
    obtain ⟨callee, args, ats⟩ := cl
    cases callee with
    | builtin b => exact plain h
    | invoke q m => simp only [emitO] at h; rw [runS_bad] at h; cases h
    | value f =>
      have hv' : RVs σ s.nx.num vs (ev tm f :: args.toList.map (ev tm)) := by
        have : (Op.call ⟨.value f, args, ats⟩).operands.toList.map (ev tm) = ev tm f :: args.toList.map (ev tm) := by simp [Op.operands, Call.operands]
        rw [← this]; exact hv
      obtain ⟨x, vs, rfl, rx, rvs⟩ := RVs_consR hv'
      have exe : ∀ {v s1 y}, RV σ s.nx.num y (ev tm f) → callV T (runS T n) y vs s = .mk v s1 → s1.nx.num ≤ hi → Does P (execOp (ev tm) ⟨dst, .call ⟨.value f, args, ats⟩, type, pos, after, guard⟩) w (After P σ s w v s1) := by
        intro v s1 y ry hcv hlt
        have := hC σ s w y _ vs _ v s1 hr hG ry rvs hcv (hF.mono (Nat.le_refl _) hlt)
        have e : (args.toList.map (ev tm)).toArray = args.map (ev tm) := by rw [← Array.toList_map]
        rw [e] at this
        exact this
      have viaF : ∀ {fid : FuncId} {v s1}, f = .func fid → callF T (runS T n) (n2p fid) vs s = .mk v s1 → s1.nx.num ≤ hi → Does P (execOp (ev tm) ⟨dst, .call ⟨.value f, args, ats⟩, type, pos, after, guard⟩) w (After P σ s w v s1) := by
        intro fid v s1 hf hcf hlt
        subst hf
        refine exe (y := .func (.fn (n2p fid)) [] []) ?_ ?_ hlt
        · simp only [RV]; exact ⟨_, _, _, rfl, by simp [RF, n2p_num], by simp [RVs], by simp [RVs]⟩
        · show callF T (runS T n) (n2p fid) ([] ++ (vs ++ [])) s = _
          simpa using hcf
      have byV : ∀ {k : AV → S}, runS T (n + 1) (callvOf gd x vs k) r a g s = .mk o g' s' →
          (∃ v s1, Asked gd true ∧ Does P (execOp (ev tm) ⟨dst, .call ⟨.value f, args, ats⟩, type, pos, after, guard⟩) w (After P σ s w v s1) ∧ runS T (n + 1) (k v) r a g s1 = .mk o g' s') ∨ (Asked gd false ∧ runS T (n + 1) (k (.tup [])) r a g s = .mk o g' s') := by
        intro k h
        cases gd with
        | none =>
          simp only [callvOf, runS_callv] at h
          obtain ⟨v, s1, h1, h2⟩ := rcr_mk h
          exact .inl ⟨v, s1, rfl, exe rx h1 (Nat.le_trans (runS_up hT _ _ _ _ _ _ _ _ _ h2) hle), h2⟩
        | some q =>
          obtain ⟨b, t⟩ := q
          simp only [callvOf, runS_gcallv] at h
          rcases guardR_mk h with ⟨hw, h⟩ | ⟨hw, h⟩
          · obtain ⟨v, s1, h1, h2⟩ := rcr_mk h
            exact .inl ⟨v, s1, hw, exe rx h1 (Nat.le_trans (runS_up hT _ _ _ _ _ _ _ _ _ h2) hle), h2⟩
          · exact .inr ⟨hw, h⟩
      cases f with
      | tmp t => exact byV h
      | const v => exact byV h
      | global b => exact byV h
      | func fid =>
        simp only [emitO] at h
        cases gd with
        | none =>
          simp only [runS_callf] at h
          obtain ⟨v, s1, h1, h2⟩ := rcr_mk h
          exact .inl ⟨v, s1, rfl, viaF rfl h1 (Nat.le_trans (runS_up hT _ _ _ _ _ _ _ _ _ h2) hle), h2⟩
        | some q =>
          obtain ⟨b, t⟩ := q
          simp only [runS_gcallf] at h
          rcases guardR_mk h with ⟨hw, h⟩ | ⟨hw, h⟩
          · obtain ⟨v, s1, h1, h2⟩ := rcr_mk h
            exact .inl ⟨v, s1, hw, viaF rfl h1 (Nat.le_trans (runS_up hT _ _ _ _ _ _ _ _ _ h2) hle), h2⟩
          · exact .inr ⟨hw, h⟩

/-- A guard and what the region asks of it. -/
theorem asked_wanted {ops : Array Oper} {x : Oper} {t : Nat} {b : Bool} {c : AV} {q : Bool} {j : Nat} {nx : Nat} (hgd : x.guard = some (j, q)) (hj : (ops[j]?).bind (·.dst) = some t)
    (hc : RV σ nx c (tm.getD t undef)) (h : wantG c q = some b) : Region.wanted x (yielded ops tm) = b := by
  unfold Region.wanted
  rw [hgd]
  simp only
  unfold yielded
  rw [hj]
  by_cases hlt : t < tm.size
  case neg =>
    have hn : tm[t]? = none := by simp; omega
    have hu : tm.getD t undef = undef := by simp [Array.getD_eq_getD_getElem?, hn]
    rw [hu] at hc
    simp only [Option.bind_some, hn]
    cases c <;> simp only [wantG] at h <;> try (cases h; done)
    case bool y => simp only [RV] at hc; cases hc
    case tup l =>
      cases l with
      | nil => cases h; rfl
      | cons _ _ => cases h
  have hget : tm[t]? = some (tm.getD t undef) := by simp [Array.getD_eq_getD_getElem?, hlt]
  simp only [Option.bind_some, hget]
  cases c <;> simp only [wantG] at h <;> try (cases h; done)
  case bool y =>
    simp only [RV] at hc
    rw [hc]
    cases h
    cases y <;> cases q <;> rfl
  case tup l =>
    cases l with
    | cons _ _ => cases h
    | nil =>
      cases h
      simp only [RV, RVs] at hc
      obtain ⟨vs, h1, h2⟩ := hc
      rw [h1]
      rfl

theorem defer_bad {ops : Array Oper} {x : Oper} {d : Call} {gd : Option (AV × Bool)} {vs : List AV} {k : AV → S} (hx : x.op = .defer d) (h : runS T (n + 1) (emitO cf gd x vs k) r a g s = .mk o g' s') : False := by
  obtain ⟨dst, op, type, pos, after, guard⟩ := x
  simp only at hx
  subst hx
  simp only [emitO] at h
  have : mkROp cf.P (.defer d) vs = none := rfl
  rw [this] at h
  simp only [emitR] at h
  rw [runS_bad] at h
  cases h

/-- What an operation of a region comes to, with its operands as they are known. -/
theorem emitK_run (hT : PrimUp T) (hle : s'.nx.num ≤ hi) (hP : cf.P = P) (hC : CallVs P T n) {ops : Array Oper} {x : Oper} {k : Env → Option (AV × Bool) → List AV → AV → S} (hI : Inv P hi cf ctx r σ s w e g tm)
    (h : runS T (n + 1) (emitK cf ops e x k) r a g s = .mk o g' s') :
    ∃ e1 gd vs, Inv P hi cf ctx r σ s w e1 g tm ∧ RVs σ s.nx.num vs (x.op.operands.toList.map (ev tm)) ∧ (∀ d, x.op ≠ .defer d) ∧
      ((∃ v s1, Region.wanted x (yielded ops tm) = true ∧ Does P (execOp (ev tm) x) w (After P σ s w v s1) ∧ runS T (n + 1) (k e1 gd vs v) r a g s1 = .mk o g' s') ∨
       (Region.wanted x (yielded ops tm) = false ∧ runS T (n + 1) (k e1 gd vs (.tup [])) r a g s = .mk o g' s')) := by
  unfold emitK at h
  cases hg : guardOf ops x with
  | none =>
    rw [hg] at h
    simp only at h
    have hgn : x.guard = none := by
      unfold guardOf at hg
      cases hh : x.guard with
      | none => rfl
      | some q => rw [hh] at hg; cases hg
    obtain ⟨e1, vs, hI1, hvs, h⟩ := looks_run hP _ hI h
    refine ⟨e1, none, vs, hI1, hvs, fun d hd => defer_bad (ops := ops) hd h, ?_⟩
    rcases emitO_run hT hle hI1.fresh hP hC hI1.rel hI1.glob hvs h with ⟨v, s1, _, h1, h2⟩ | ⟨ha, _⟩
    · exact .inl ⟨v, s1, by unfold Region.wanted; rw [hgn], h1, h2⟩
    · cases ha
  | some q =>
    obtain ⟨ot, wt⟩ := q
    rw [hg] at h
    cases ot with
    | none => simp only at h; rw [runS_bad] at h; cases h
    | some t =>
      simp only at h
      obtain ⟨j, hj, hgj⟩ : ∃ j, x.guard = some (j, wt) ∧ (ops[j]?).bind (·.dst) = some t := by
        unfold guardOf at hg
        cases hh : x.guard with
        | none => rw [hh] at hg; cases hg
        | some q =>
          obtain ⟨j, w0⟩ := q
          rw [hh] at hg
          simp only [Option.some.injEq, Prod.mk.injEq] at hg
          exact ⟨j, by rw [hg.2], hg.1⟩
      obtain ⟨e0, b, hI0, hb, h⟩ := look_run hP hI h
      obtain ⟨e1, vs, hI1, hvs, h⟩ := looks_run hP _ hI0 h
      refine ⟨e1, some (b, wt), vs, hI1, hvs, fun d hd => defer_bad (ops := ops) hd h, ?_⟩
      rcases emitO_run hT hle hI1.fresh hP hC hI1.rel hI1.glob hvs h with ⟨v, s1, ha, h1, h2⟩ | ⟨ha, h2⟩
      · exact .inl ⟨v, s1, asked_wanted hj hgj hb ha, h1, h2⟩
      · exact .inr ⟨asked_wanted hj hgj hb ha, h2⟩

/-- Temporaries outside a list stay. -/
def Same (W : List Nat) (tm tm1 : Array Value) : Prop := ∀ t, t ∉ W → tm1.getD t undef = tm.getD t undef
theorem Same.refl (W : List Nat) (tm : Array Value) : Same W tm tm := fun _ _ => rfl
theorem Same.trans {W : List Nat} {tm tm1 tm2 : Array Value} (h : Same W tm tm1) (h' : Same W tm1 tm2) : Same W tm tm2 := fun t ht => (h' t ht).trans (h t ht)
theorem Same.mono {W W' : List Nat} {tm tm1 : Array Value} (h : Same W tm tm1) (hs : ∀ t, t ∈ W → t ∈ W') : Same W' tm tm1 := fun t ht => h t fun hh => ht (hs t hh)

theorem mem_writesOps {l : List Oper} {x : Oper} {t : Nat} (hx : x ∈ l) (hd : x.dst = some t) : t ∈ writesOps l := by
  induction l with
  | nil => cases hx
  | cons y l ih =>
    unfold writesOps
    cases hx with
    | head => rw [hd]; exact List.mem_cons_self
    | tail _ hm =>
      cases hy : y.dst with
      | none => exact ih hm
      | some d => exact List.mem_cons_of_mem _ (ih hm)

theorem undef_ok {nx : Nat} : RV σ nx (.tup []) undef := by
  simp only [RV]; exact ⟨_, rfl, by simp [RVs]⟩

end Go.Ev

/- Regions in the text's order, whole; and what a control text promises. -/
namespace Go.Ev

variable {hi : Nat} {P : Program} {T : PT FnE} {n : Nat} {σ : Sg} {s : St} {w : World} {cf : Cf} {ctx : Ctx} {tm : Array Value} {r : Option Pos} {a : List AV} {e : Env} {g : PT AV} {o : Out} {g' : PT AV} {s' : St}
  {df : List Deferred} {K : List Item} {cs : List Frame}

theorem Same.put {W : List Nat} {d : Option Tmp} {v : Value} (h : ∀ t, d = some t → t ∈ W) : Same W tm (putV tm d v) := fun t ht => putV_other fun e => ht (h t e)

theorem emits_run (hT : PrimUp T) (hle : s'.nx.num ≤ hi) (hP : cf.P = P) (hC : CallVs P T n) {ops : Array Oper} {k : Env → S} : ∀ (l : List Oper) (i : Nat) {σ : Sg} {s : St} {w : World} {e : Env} {g : PT AV} {tm : Array Value}, (∀ j : Nat, ops[i + j]? = l[j]?) →
    Inv P hi cf ctx r σ s w e g tm → runS T (n + 1) (emits cf ops e l k) r a g s = .mk o g' s' →
    ∃ e1 g1 s1 σ1 w1 tm1, Steps P (lone (frm ctx tm df (.inRegion ops (List.range' i l.length) :: K)) cs w) (lone (frm ctx tm1 df K) cs w1) ∧ Inv P hi cf ctx r σ1 s1 w1 e1 g1 tm1 ∧ Goes σ s w σ1 s1 w1 ∧
      Same (writesOps l) tm tm1 ∧ runS T (n + 1) (k e1) r a g1 s1 = .mk o g' s'
  | [], i, σ, s, w, e, g, tm, _, hI, h => ⟨e, g, s, σ, w, tm, .one go_region_end, hI, Goes.refl _ _ _, Same.refl _ _, h⟩
  | x :: l, i, σ, s, w, e, g, tm, hl, hI, h => by
    have hx : ops[i]? = some x := by simpa using hl 0
    have hl' : ∀ j : Nat, ops[i + 1 + j]? = l[j]? := fun j => by
      have := hl (j + 1)
      rw [show i + 1 + j = i + (j + 1) by omega, this]; rfl
    simp only [emits] at h
    have hsame : ∀ v, Same (writesOps (x :: l)) tm (putV tm x.dst v) := fun v => Same.put fun t ht => by
      unfold writesOps; rw [ht]; exact List.mem_cons_self
    have hsub : ∀ t, t ∈ writesOps l → t ∈ writesOps (x :: l) := fun t ht => by
      cases hd : x.dst with
      | none => simp only [writesOps, hd]; exact ht
      | some d => simp only [writesOps, hd]; exact List.mem_cons_of_mem _ ht
    obtain ⟨e1, gd, vs, hI1, _, hnd, hcase⟩ := emitK_run hT hle hP hC hI h
    rw [List.length_cons, List.range'_succ]
    rcases hcase with ⟨v, s1, hw, hdo, h⟩ | ⟨hw, h⟩
    · obtain ⟨cv, w1, hst, σ1, hv, hr, hg⟩ := hdo.op (c := ctx) (df := df) (k := K) (cs := cs) (rest := List.range' (i + 1) l.length) hx hw hnd
      obtain ⟨e2, g2, hI2, h⟩ := putT_run (hI1.goes hr hg) hv h
      obtain ⟨e3, g3, s3, σ3, w3, tm3, h1, h2, h3, h4, h5⟩ := emits_run hT hle hP hC l (i + 1) hl' hI2 h
      exact ⟨e3, g3, s3, σ3, w3, tm3, hst.trans h1, h2, hg.trans h3, (hsame cv).trans (h4.mono hsub), h5⟩
    · obtain ⟨e2, g2, hI2, h⟩ := putT_run hI1 undef_ok h
      obtain ⟨e3, g3, s3, σ3, w3, tm3, h1, h2, h3, h4, h5⟩ := emits_run hT hle hP hC l (i + 1) hl' hI2 h
      refine ⟨e3, g3, s3, σ3, w3, tm3, Steps.head (go_op_skip (by rw [hx]; exact hw)) ?_, h2, h3, (hsame undef).trans (h4.mono hsub), h5⟩
      rw [hx]; exact h1

/-- What a region whose order is drawn must come to. -/
def Draws (P : Program) (T : PT FnE) (n : Nat) : Prop := ∀ {hi : Nat} {cf : Cf} {ctx : Ctx} {r : Option Pos} {a : List AV} {ops : Array Oper} {k : Env → S} {o : Out} {g' : PT AV} {s' : St} {σ : Sg} {s : St} {w : World} {e : Env} {g : PT AV} {tm : Array Value}
    {df : List Deferred} {K : List Item} {cs : List Frame} (t : Nat), s'.nx.num ≤ hi → cf.P = P → CallVs P T n → Inv P hi cf ctx r σ s w e g tm → okPlan cf.P ops (planOf cf.P ops) = true → runS T (n + 1) (emitP cf ops e (planOf cf.P ops) [] k) r a g s = .mk o g' s' →
    ∃ e1 g1 s1 σ1 w1 tm1, Steps P (lone (frm ctx tm df (.inRegion ops (Region.schedule (P.follows .mixedOrders) ops t) :: K)) cs w) (lone (frm ctx tm1 df K) cs w1) ∧ Inv P hi cf ctx r σ1 s1 w1 e1 g1 tm1 ∧ Goes σ s w σ1 s1 w1 ∧
      Same (writesOps ops.toList) tm tm1 ∧ runS T (n + 1) (k e1) r a g1 s1 = .mk o g' s'


def mkD (b : Nat) : Deferred := { target := .collected b, args := #[] }

/-- The blocks for a frame's loops' deferred calls: all empty. -/
def Marks (lo : Nat) (w : World) (bs : List Nat) : Prop := bs.Nodup ∧ ∀ b ∈ bs, lo ≤ b ∧ w.heap[b]? = some (.deferred (some []))

theorem Rel.held (h : Rel P σ s w) {b : Nat} (hb : Holds σ s b) : (∃ c el fz, w.heap[b]? = some (.cells c el fz)) ∨ (∃ m ck, w.heap[b]? = some (.map m ck)) ∨ ∃ l, w.heap[b]? = some (.loop l) := by
  obtain ⟨p, ob, hp, rfl⟩ := hb
  have := (h.obj p ob hp).2
  cases ob with
  | cells t len el wr ex => obtain ⟨c, fz, h1, _⟩ := this; exact .inl ⟨_, _, _, h1⟩
  | map es => obtain ⟨m, ck, h1, _⟩ := this; exact .inr (.inl ⟨_, _, h1⟩)
  | loop st j g b => obtain ⟨l, h1, _⟩ := this; exact .inr (.inr ⟨_, h1⟩)
theorem Owns.held {b : Nat} (h : Owns σ s b) : Holds σ s b := let ⟨p, o, h1, _, h2⟩ := h; ⟨p, o, h1, h2⟩

theorem Rel.not_mark (h : Rel P σ s w) {b : Nat} {d : Option (List Deferred)} (hb : w.heap[b]? = some (.deferred d)) : ¬ Holds σ s b := fun hh => by
  rcases h.held hh with ⟨_, _, _, h1⟩ | ⟨_, _, h1⟩ | ⟨_, h1⟩ <;> rw [h1] at hb <;> cases hb

theorem Marks.goes {lo : Nat} {bs : List Nat} (hm : Marks lo w bs) (h : Rel P σ s w) {σ' : Sg} {s' : St} {w' : World} (hg : Goes σ s w σ' s' w') : Marks lo w' bs :=
  ⟨hm.1, fun b hb => by
    obtain ⟨h1, h2⟩ := hm.2 b hb
    refine ⟨h1, ?_⟩
    rw [hg.same b (Array.getElem?_eq_some_iff.1 h2).1 fun ho => h.not_mark h2 ho.held]
    exact h2⟩


/-- The code that a jump leaves by. -/
def jmp : Out → Option Code
  | .fall => none
  | .ret => some .ret
  | .exit id => some (.exit id)

/-- What stands ahead of the rest lets a jump through. -/
def Thru (o : Out) (pre : List Item) : Prop := ∀ id, o = .exit id → ∀ k, exitTo id (pre ++ k) = exitTo id k

/-- What a piece of code comes to: it goes on, or it leaves by a jump. -/
def Lands (P : Program) (T : PT FnE) (n : Nat) (hi lo : Nat) (cf : Cf) (ctx : Ctx) (r : Option Pos) (a : List AV) (W : List Nat) (σ : Sg) (s : St) (w : World) (tm : Array Value) (m : Machine) (K : List Item) (cs : List Frame) (kS : Env → S) (o : Out) (g' : PT AV) (s' : St) : Prop :=
  (∃ e1 g1 s1 σ1 w1 tm1 bs1, Steps P m (lone (frm ctx tm1 (bs1.map mkD) K) cs w1) ∧ Inv P hi cf ctx r σ1 s1 w1 e1 g1 tm1 ∧ Marks lo w1 bs1 ∧ Goes σ s w σ1 s1 w1 ∧ Same W tm tm1 ∧ runS T n (kS e1) r a g1 s1 = .mk o g' s') ∨
  (∃ j σ1 w1 tm1 bs1 pre, jmp o = some j ∧ Steps P m (lone (frm ctx tm1 (bs1.map mkD) (.code j :: (pre ++ K))) cs w1) ∧ Thru o pre ∧ Inv P hi cf ctx r σ1 s' w1 .lf g' tm1 ∧ Marks lo w1 bs1 ∧ Goes σ s w σ1 s' w1 ∧ Same W tm tm1)

/-- A piece of code is told by its form. -/
def Told (P : Program) (T : PT FnE) (n : Nat) (cd : Code) : Prop := ∀ (hi lo : Nat) (cf : Cf) (ctx : Ctx) (r : Option Pos) (a : List AV) (σ : Sg) (s : St) (w : World) (e : Env) (g : PT AV) (tm : Array Value) (bs : List Nat) (K : List Item) (cs : List Frame) (kS : Env → S) (o : Out) (g' : PT AV) (s' : St),
  s'.nx.num ≤ hi → cf.P = P → Inv P hi cf ctx r σ s w e g tm → Marks lo w bs → lo ≤ w.heap.size → runS T n (toH cf cd e kS) r a g s = .mk o g' s' →
  Lands P T n hi lo cf ctx r a (writes cd) σ s w tm (lone (frm ctx tm (bs.map mkD) (.code cd :: K)) cs w) K cs kS o g' s'

theorem Lands.of_steps {lo : Nat} {W : List Nat} {m m1 : Machine} {kS : Env → S} (h : Steps P m m1) (hl : Lands P T n hi lo cf ctx r a W σ s w tm m1 K cs kS o g' s') : Lands P T n hi lo cf ctx r a W σ s w tm m K cs kS o g' s' := by
  rcases hl with ⟨e1, g1, s1, σ1, w1, tm1, bs1, h1, h2⟩ | ⟨j, σ1, w1, tm1, bs1, pre, h0, h1, h2⟩
  · exact .inl ⟨e1, g1, s1, σ1, w1, tm1, bs1, h.trans h1, h2⟩
  · exact .inr ⟨j, σ1, w1, tm1, bs1, pre, h0, h.trans h1, h2⟩

theorem Lands.mono {lo : Nat} {W W' : List Nat} {m : Machine} {kS : Env → S} (hs : ∀ t, t ∈ W → t ∈ W') (hl : Lands P T n hi lo cf ctx r a W σ s w tm m K cs kS o g' s') : Lands P T n hi lo cf ctx r a W' σ s w tm m K cs kS o g' s' := by
  rcases hl with ⟨e1, g1, s1, σ1, w1, tm1, bs1, h1, h2, h3, h4, h5, h6⟩ | ⟨j, σ1, w1, tm1, bs1, pre, h0, h1, h2, h3, h4, h5, h6⟩
  · exact .inl ⟨e1, g1, s1, σ1, w1, tm1, bs1, h1, h2, h3, h4, h5.mono hs, h6⟩
  · exact .inr ⟨j, σ1, w1, tm1, bs1, pre, h0, h1, h2, h3, h4, h5, h6.mono hs⟩

theorem kill_get : ∀ (l : List Nat) (e : Env) (t : Nat) (v : AV), PT.get (kill e l) (n2p t) = some v → t ∉ l ∧ PT.get e (n2p t) = some v
  | [], e, t, v, h => ⟨by simp, h⟩
  | u :: l, e, t, v, h => by
    obtain ⟨h1, h2⟩ := kill_get l _ t v h
    rw [PT.get_set] at h2
    by_cases hu : n2p t = n2p u
    · rw [if_pos hu] at h2; cases h2
    · rw [if_neg hu] at h2
      exact ⟨by simp only [List.mem_cons, not_or]; exact ⟨fun e => hu (by rw [e]), h1⟩, h2⟩

/-- What was known ahead of a piece of code and is not written by it is known behind it. -/
theorem EnvOK.kill {nx nx1 : Nat} {σ1 : Sg} {tm1 : Array Value} {W : List Nat} (he : EnvOK σ nx e tm) (hle : σ.le nx σ1 nx1) (hs : Same W tm tm1) : EnvOK σ1 nx1 (kill e W) tm1 := fun t v hv => by
  obtain ⟨h1, h2⟩ := kill_get _ _ _ _ hv
  rw [hs t h1]
  exact RV.mono hle _ _ (he t v h2)

end Go.Ev

/- Control: each kind of code, told by its form. -/
namespace Go.Ev

variable {hi lo : Nat} {P : Program} {T : PT FnE} {n : Nat} {σ : Sg} {s : St} {w : World} {cf : Cf} {ctx : Ctx} {tm : Array Value} {r : Option Pos} {a : List AV} {e : Env} {g : PT AV} {o : Out} {g' : PT AV} {s' : St}
  {df : List Deferred} {K : List Item} {cs : List Frame} {bs : List Nat} {kS : Env → S} {W : List Nat} {m : Machine}

/-- Nothing was done, and it goes on. -/
theorem Lands.here {tm0 : Array Value} (hI : Inv P hi cf ctx r σ s w e g tm) (hm : Marks lo w bs) (hs : Steps P m (lone (frm ctx tm (bs.map mkD) K) cs w)) (h : runS T n (kS e) r a g s = .mk o g' s') :
    Lands P T n hi lo cf ctx r a W σ s w tm m K cs kS o g' s' := .inl ⟨e, g, s, σ, w, tm, bs, hs, hI, hm, Goes.refl _ _ _, Same.refl _ _, h⟩

/-- A part was done; what follows it lands. -/
theorem Lands.after {σ1 : Sg} {s1 : St} {w1 : World} {tm1 : Array Value} (hg : Goes σ s w σ1 s1 w1) (hs : Same W tm tm1) (h : Lands P T n hi lo cf ctx r a W σ1 s1 w1 tm1 m K cs kS o g' s') :
    Lands P T n hi lo cf ctx r a W σ s w tm m K cs kS o g' s' := by
  rcases h with ⟨e1, g1, s2, σ2, w2, tm2, bs1, h1, h2, h3, h4, h5, h6⟩ | ⟨j, σ2, w2, tm2, bs1, pre, h0, h1, h2, h3, h4, h5, h6⟩
  · exact .inl ⟨e1, g1, s2, σ2, w2, tm2, bs1, h1, h2, h3, hg.trans h4, hs.trans h5, h6⟩
  · exact .inr ⟨j, σ2, w2, tm2, bs1, pre, h0, h1, h2, h3, h4, hg.trans h5, hs.trans h6⟩

theorem Inv.lf (h : Inv P hi cf ctx r σ s w e g tm) : Inv P hi cf ctx r σ s w .lf g tm := { h with env := fun t v hv => by rw [PT.get_lf] at hv; cases hv }

theorem told_zero (cd : Code) : Told P T 0 cd := fun _ _ _ _ _ _ _ _ _ _ _ _ _ _ _ _ _ _ _ _ _ _ _ _ h => by cases h

theorem told_seq (hT : PrimUp T) {x y : Code} (hx : Told P T n x) (hy : Told P T n y) : Told P T n (.seq x y) := by
  intro hi lo cf ctx r a σ s w e g tm bs K cs kS o g' s' hle hP hI hm hlo h
  simp only [toH] at h
  have hsx : ∀ t, t ∈ writes x → t ∈ writes (.seq x y) := fun t ht => by simp only [writes]; exact List.mem_append_left _ ht
  have hsy : ∀ t, t ∈ writes y → t ∈ writes (.seq x y) := fun t ht => by simp only [writes]; exact List.mem_append_right _ ht
  refine Lands.of_steps (.one go_seq) ?_
  rcases hx hi lo cf ctx r a σ s w e g tm bs (.code y :: K) cs _ o g' s' hle hP hI hm hlo h with ⟨e1, g1, s1, σ1, w1, tm1, bs1, h1, h2, h3, h4, h5, h6⟩ | ⟨j, σ1, w1, tm1, bs1, pre, h0, h1, h2, h3, h4, h5, h6⟩
  · exact Lands.of_steps h1 (Lands.after h4 (h5.mono hsx) (Lands.mono hsy (hy hi lo cf ctx r a σ1 s1 w1 e1 g1 tm1 bs1 K cs kS o g' s' hle hP h2 h3 (Nat.le_trans hlo h4.size) h6)))
  · refine .inr ⟨j, σ1, w1, tm1, bs1, pre ++ [.code y], h0, by simpa using h1, fun id hid k => ?_, h3, h4, h5, h6.mono hsx⟩
    rw [List.append_assoc, h2 id hid]; rfl

/-- A part of code whose rest is told apart: it came to its end, or left. -/
theorem told_part {x : Code} (hx : Told P T (n + 1) x) (hle : s'.nx.num ≤ hi) (hP : cf.P = P) (hI : Inv P hi cf ctx r σ s w e g tm) (hm : Marks lo w bs) (hlo : lo ≤ w.heap.size) (h : runS T (n + 1) (toH cf x e fun _ => .fall) r a g s = .mk o g' s') (K : List Item) (cs : List Frame) :
    ∃ σ1 w1 tm1 bs1, Inv P hi cf ctx r σ1 s' w1 .lf g' tm1 ∧ Marks lo w1 bs1 ∧ Goes σ s w σ1 s' w1 ∧ Same (writes x) tm tm1 ∧
      ((o = .fall ∧ Steps P (lone (frm ctx tm (bs.map mkD) (.code x :: K)) cs w) (lone (frm ctx tm1 (bs1.map mkD) K) cs w1)) ∨
       (o ≠ .fall ∧ ∃ j pre, jmp o = some j ∧ Steps P (lone (frm ctx tm (bs.map mkD) (.code x :: K)) cs w) (lone (frm ctx tm1 (bs1.map mkD) (.code j :: (pre ++ K))) cs w1) ∧ Thru o pre)) := by
  rcases hx hi lo cf ctx r a σ s w e g tm bs K cs _ o g' s' hle hP hI hm hlo h with ⟨e1, g1, s1, σ1, w1, tm1, bs1, h1, h2, h3, h4, h5, h6⟩ | ⟨j, σ1, w1, tm1, bs1, pre, h0, h1, h2, h3, h4, h5, h6⟩
  · rw [runS_fall] at h6
    cases h6
    exact ⟨σ1, w1, tm1, bs1, h2.lf, h3, h4, h5, .inl ⟨rfl, h1⟩⟩
  · refine ⟨σ1, w1, tm1, bs1, h3, h4, h5, h6, .inr ⟨fun e => ?_, j, pre, h0, h1, h2⟩⟩
    subst e; cases h0

/-- Behind a part whose written temporaries are forgotten. -/
theorem Inv.killed (hI : Inv P hi cf ctx r σ s w e g tm) {σ1 : Sg} {s1 : St} {w1 : World} {g1 : PT AV} {tm1 : Array Value} (h : Inv P hi cf ctx r σ1 s1 w1 .lf g1 tm1) (hg : Goes σ s w σ1 s1 w1) (hs : Same W tm tm1) :
    Inv P hi cf ctx r σ1 s1 w1 (kill e W) g1 tm1 := { h with env := hI.env.kill hg.le hs }

theorem told_cond (hT : PrimUp T) {x : Operand} {y z : Code} (hy : Told P T (n + 1) y) (hz : Told P T (n + 1) z) : Told P T (n + 1) (.cond x y z) := by
  intro hi lo cf ctx r a σ s w e g tm bs K cs kS o g' s' hle hP hI hm hlo h
  simp only [toH] at h
  obtain ⟨e1, v, hI1, hv, h⟩ := look_run hP hI h
  rw [runS_seq] at h
  have hsy : ∀ t, t ∈ writes y → t ∈ writes (.cond x y z) := fun t ht => by simp only [writes]; exact List.mem_append_left _ ht
  have hsz : ∀ t, t ∈ writes z → t ∈ writes (.cond x y z) := fun t ht => by simp only [writes]; exact List.mem_append_right _ ht
  have branch : ∀ {o1 : Out} {g1 : PT AV} {s1 : St}, s1.nx.num ≤ hi → runS T (n + 1) (.cond v (toH cf y e1 fun _ => .fall) (toH cf z e1 fun _ => .fall)) r a g s = .mk o1 g1 s1 →
      ∃ σ1 w1 tm1 bs1, Inv P hi cf ctx r σ1 s1 w1 .lf g1 tm1 ∧ Marks lo w1 bs1 ∧ Goes σ s w σ1 s1 w1 ∧ Same (writes (.cond x y z)) tm tm1 ∧
      ((o1 = .fall ∧ Steps P (lone (frm ctx tm (bs.map mkD) (.code (.cond x y z) :: K)) cs w) (lone (frm ctx tm1 (bs1.map mkD) K) cs w1)) ∨
       (o1 ≠ .fall ∧ ∃ j pre, jmp o1 = some j ∧ Steps P (lone (frm ctx tm (bs.map mkD) (.code (.cond x y z) :: K)) cs w) (lone (frm ctx tm1 (bs1.map mkD) (.code j :: (pre ++ K))) cs w1) ∧ Thru o1 pre)) := by
    intro o1 g1 s1 hle1 h1
    rw [runS_cond] at h1
    obtain ⟨b, rfl, h1⟩ := condR_mk h1
    have hb : ev tm x = .bool b := by simpa only [RV] using hv
    cases b with
    | true =>
      obtain ⟨σ1, w1, tm1, bs1, i1, i2, i3, i4, i5⟩ := told_part hy hle1 hP hI1 hm hlo h1 K cs
      refine ⟨σ1, w1, tm1, bs1, i1, i2, i3, i4.mono hsy, ?_⟩
      rcases i5 with ⟨ho, hst⟩ | ⟨ho, j, pre, hj, hst, ht⟩
      · exact .inl ⟨ho, .head (go_cond hb) hst⟩
      · exact .inr ⟨ho, j, pre, hj, .head (go_cond hb) hst, ht⟩
    | false =>
      obtain ⟨σ1, w1, tm1, bs1, i1, i2, i3, i4, i5⟩ := told_part hz hle1 hP hI1 hm hlo h1 K cs
      refine ⟨σ1, w1, tm1, bs1, i1, i2, i3, i4.mono hsz, ?_⟩
      rcases i5 with ⟨ho, hst⟩ | ⟨ho, j, pre, hj, hst, ht⟩
      · exact .inl ⟨ho, .head (go_cond hb) hst⟩
      · exact .inr ⟨ho, j, pre, hj, .head (go_cond hb) hst, ht⟩
  rcases thenR_mk h with ⟨g1, s1, h1, h2⟩ | ⟨hof, h1⟩
  · have hup := runS_up hT _ _ _ _ _ _ _ _ _ h2
    obtain ⟨σ1, w1, tm1, bs1, i1, i2, i3, i4, i5⟩ := branch (Nat.le_trans hup hle) h1
    rcases i5 with ⟨_, hst⟩ | ⟨ho, _⟩
    · exact .inl ⟨_, g1, s1, σ1, w1, tm1, bs1, hst, hI1.killed i1 i3 i4, i2, i3, i4, h2⟩
    · exact absurd rfl ho
  · obtain ⟨σ1, w1, tm1, bs1, i1, i2, i3, i4, i5⟩ := branch hle h1
    rcases i5 with ⟨ho, _⟩ | ⟨_, j, pre, hj, hst, ht⟩
    · exact absurd ho hof
    · exact .inr ⟨j, σ1, w1, tm1, bs1, pre, hj, hst, ht, i1, i2, i3, i4⟩

theorem told_block (hT : PrimUp T) {id : Nat} {x : Code} (hx : Told P T (n + 1) x) : Told P T (n + 1) (.block id x) := by
  intro hi lo cf ctx r a σ s w e g tm bs K cs kS o g' s' hle hP hI hm hlo h
  simp only [toH] at h
  rw [runS_seq, runS_block] at h
  have hsx : ∀ t, t ∈ writes x → t ∈ writes (.block id x) := fun t ht => by simp only [writes]; exact ht
  have fell : ∀ {g1 : PT AV} {s1 : St}, blockR id (runS T (n + 1) (toH cf x e fun _ => .fall) r a g s) = .mk .fall g1 s1 → s1.nx.num ≤ hi →
      ∃ σ1 w1 tm1 bs1, Inv P hi cf ctx r σ1 s1 w1 .lf g1 tm1 ∧ Marks lo w1 bs1 ∧ Goes σ s w σ1 s1 w1 ∧ Same (writes x) tm tm1 ∧ Steps P (lone (frm ctx tm (bs.map mkD) (.code (.block id x) :: K)) cs w) (lone (frm ctx tm1 (bs1.map mkD) K) cs w1) := by
    intro g1 s1 h1 hle1
    rcases blockR_mk h1 with ⟨h1, _⟩ | ⟨_, h0⟩ | ⟨h1, _⟩ | ⟨_, _, _, h0⟩
    · obtain ⟨σ1, w1, tm1, bs1, i1, i2, i3, i4, i5⟩ := told_part hx hle1 hP hI hm hlo h1 (.inBlock id :: K) cs
      rcases i5 with ⟨_, hst⟩ | ⟨ho, _⟩
      · exact ⟨σ1, w1, tm1, bs1, i1, i2, i3, i4, .head go_block (hst.trans (.one go_inBlock))⟩
      · exact absurd rfl ho
    · cases h0
    · obtain ⟨σ1, w1, tm1, bs1, i1, i2, i3, i4, i5⟩ := told_part hx hle1 hP hI hm hlo h1 (.inBlock id :: K) cs
      rcases i5 with ⟨ho, _⟩ | ⟨_, j, pre, hj, hst, ht⟩
      · cases ho
      · cases hj
        refine ⟨σ1, w1, tm1, bs1, i1, i2, i3, i4, .head go_block (hst.trans (.one (go_exit ?_)))⟩
        rw [ht id rfl]; simp [exitTo]
    · cases h0
  rcases thenR_mk h with ⟨g1, s1, h1, h2⟩ | ⟨hof, h1⟩
  · have hup := runS_up hT _ _ _ _ _ _ _ _ _ h2
    obtain ⟨σ1, w1, tm1, bs1, i1, i2, i3, i4, hst⟩ := fell h1 (Nat.le_trans hup hle)
    exact .inl ⟨_, g1, s1, σ1, w1, tm1, bs1, hst, hI.killed i1 i3 i4, i2, i3, i4.mono hsx, h2⟩
  · have jumped : ∀ (o1 : Out), o1 = o → (∀ k, ∀ i, o1 = .exit i → exitTo i (.inBlock id :: k) = exitTo i k) → runS T (n + 1) (toH cf x e fun _ => .fall) r a g s = .mk o1 g' s' →
        Lands P T (n + 1) hi lo cf ctx r a (writes (.block id x)) σ s w tm (lone (frm ctx tm (bs.map mkD) (.code (.block id x) :: K)) cs w) K cs kS o g' s' := by
      rintro o1 rfl hpass h1
      obtain ⟨σ1, w1, tm1, bs1, i1, i2, i3, i4, i5⟩ := told_part hx hle hP hI hm hlo h1 (.inBlock id :: K) cs
      rcases i5 with ⟨ho, _⟩ | ⟨_, j, pre, hj, hst, ht⟩
      · exact absurd ho hof
      · refine .inr ⟨j, σ1, w1, tm1, bs1, pre ++ [.inBlock id], hj, .head go_block (by simpa using hst), fun i hid k => ?_, i1, i2, i3, i4.mono hsx⟩
        rw [List.append_assoc, ht i hid]; exact hpass k i hid
    rcases blockR_mk h1 with ⟨_, h0⟩ | ⟨h1, h0⟩ | ⟨_, h0⟩ | ⟨j, hne, h1, h0⟩
    · exact absurd h0 hof
    · exact jumped _ h0.symm (fun k i hi => by cases hi) h1
    · exact absurd h0 hof
    · refine jumped _ h0.symm (fun k i hi => ?_) h1
      cases hi
      have : (id == j) = false := by simpa using Ne.symm hne
      simp [exitTo, this]

theorem told_scope {x : Code} (hx : Told P T n x) : Told P T n (.scope x) := by
  intro hi lo cf ctx r a σ s w e g tm bs K cs kS o g' s' hle hP hI hm hlo h
  simp only [toH] at h
  refine Lands.of_steps (.one go_scope) ?_
  rcases hx hi lo cf ctx r a σ s w e g tm bs (.inScope x :: K) cs _ o g' s' hle hP hI hm hlo h with ⟨e1, g1, s1, σ1, w1, tm1, bs1, h1, h2⟩ | ⟨j, σ1, w1, tm1, bs1, pre, h0, h1, h2, h3⟩
  · exact .inl ⟨e1, g1, s1, σ1, w1, tm1, bs1, h1.trans (.one go_inScope), h2⟩
  · refine .inr ⟨j, σ1, w1, tm1, bs1, pre ++ [.inScope x], h0, by simpa using h1, fun id hid k => ?_, h3⟩
    rw [List.append_assoc, h2 id hid]; rfl

/-- A loop at its head. -/
def Looped (P : Program) (T : PT FnE) (n : Nat) (x : Code) : Prop := ∀ (hi lo : Nat) (cf : Cf) (ctx : Ctx) (r : Option Pos) (a : List AV) (σ : Sg) (s : St) (w : World) (e : Env) (g : PT AV) (tm : Array Value) (bs : List Nat) (K : List Item) (cs : List Frame) (o : Out) (g' : PT AV) (s' : St),
  s'.nx.num ≤ hi → cf.P = P → Inv P hi cf ctx r σ s w (kill e (writes x)) g tm → Marks lo w bs → lo ≤ w.heap.size → runS T n (.loop (toH cf x (kill e (writes x)) fun _ => .fall)) r a g s = .mk o g' s' →
  ∃ j σ1 w1 tm1 bs1 pre, jmp o = some j ∧ Steps P (lone (frm ctx tm (bs.map mkD) (.code x :: .inLoop x :: K)) cs w) (lone (frm ctx tm1 (bs1.map mkD) (.code j :: (pre ++ K))) cs w1) ∧ Thru o pre ∧ Inv P hi cf ctx r σ1 s' w1 .lf g' tm1 ∧ Marks lo w1 bs1 ∧ Goes σ s w σ1 s' w1 ∧ Same (writes x) tm tm1

theorem looped_zero (x : Code) : Looped P T 0 x := fun _ _ _ _ _ _ _ _ _ _ _ _ _ _ _ _ _ _ _ _ _ _ _ h => by cases h

theorem looped_succ (hT : PrimUp T) {x : Code} (hx : Told P T (n + 1) x) (hl : Looped P T n x) : Looped P T (n + 1) x := by
  intro hi lo cf ctx r a σ s w e g tm bs K cs o g' s' hle hP hI hm hlo h
  rw [runS_loop] at h
  rcases thenR_mk h with ⟨g1, s1, h1, h2⟩ | ⟨hof, h1⟩
  · have hup := runS_up hT _ _ _ _ _ _ _ _ _ h2
    obtain ⟨σ1, w1, tm1, bs1, i1, i2, i3, i4, i5⟩ := told_part hx (Nat.le_trans hup hle) hP hI hm hlo h1 (.inLoop x :: K) cs
    rcases i5 with ⟨_, hst⟩ | ⟨ho, _⟩
    · have hI1 : Inv P hi cf ctx r σ1 s1 w1 (kill e (writes x)) g1 tm1 := { i1 with env := fun t v hv => (i4 t (kill_get _ _ _ _ hv).1).symm ▸ RV.mono i3.le _ _ (hI.env t v hv) }
      obtain ⟨j, σ2, w2, tm2, bs2, pre, k0, k1, k2, k3, k4, k5, k6⟩ := hl hi lo cf ctx r a σ1 s1 w1 e g1 tm1 bs1 K cs o g' s' hle hP hI1 i2 (Nat.le_trans hlo i3.size) h2
      exact ⟨j, σ2, w2, tm2, bs2, pre, k0, hst.trans (.head go_inLoop k1), k2, k3, k4, i3.trans k5, i4.trans k6⟩
    · exact absurd rfl ho
  · obtain ⟨σ1, w1, tm1, bs1, i1, i2, i3, i4, i5⟩ := told_part hx hle hP hI hm hlo h1 (.inLoop x :: K) cs
    rcases i5 with ⟨ho, _⟩ | ⟨_, j, pre, hj, hst, ht⟩
    · exact absurd ho hof
    · refine ⟨j, σ1, w1, tm1, bs1, pre ++ [.inLoop x], hj, by simpa using hst, fun id hid k => ?_, i1, i2, i3, i4⟩
      rw [List.append_assoc, ht id hid]; rfl

theorem told_loop (hT : PrimUp T) {x : Code} (hl : Looped P T (n + 1) x) : Told P T (n + 1) (.loop x) := by
  intro hi lo cf ctx r a σ s w e g tm bs K cs kS o g' s' hle hP hI hm hlo h
  simp only [toH] at h
  rw [runS_seq] at h
  have hI0 : Inv P hi cf ctx r σ s w (kill e (writes x)) g tm := { hI with env := hI.env.kill (Sg.le_refl _ _) (Same.refl _ _) }
  rcases thenR_mk h with ⟨g1, s1, h1, h2⟩ | ⟨hof, h1⟩
  · obtain ⟨j, _, _, _, _, _, hj, _⟩ := hl hi lo cf ctx r a σ s w e g tm bs K cs _ g1 s1 (Nat.le_trans (runS_up hT _ _ _ _ _ _ _ _ _ h2) hle) hP hI0 hm hlo h1
    cases hj
  · obtain ⟨j, σ1, w1, tm1, bs1, pre, k0, k1, k2, k3, k4, k5, k6⟩ := hl hi lo cf ctx r a σ s w e g tm bs K cs o g' s' hle hP hI0 hm hlo h1
    exact .inr ⟨j, σ1, w1, tm1, bs1, pre, k0, .head go_loop k1, k2, k3, k4, k5, k6.mono fun t ht => by simp only [writes]; exact ht⟩

theorem told_skip : Told P T n .skip := by
  intro hi lo cf ctx r a σ s w e g tm bs K cs kS o g' s' hle hP hI hm hlo h
  exact .inl ⟨e, g, s, σ, w, tm, bs, .one go_skip, hI, hm, Goes.refl _ _ _, Same.refl _ _, h⟩
theorem told_label {l : Nat} : Told P T n (.label l) := by
  intro hi lo cf ctx r a σ s w e g tm bs K cs kS o g' s' hle hP hI hm hlo h
  exact .inl ⟨e, g, s, σ, w, tm, bs, .one go_label, hI, hm, Goes.refl _ _ _, Same.refl _ _, h⟩
theorem told_exit {id : Nat} : Told P T (n + 1) (.exit id) := by
  intro hi lo cf ctx r a σ s w e g tm bs K cs kS o g' s' hle hP hI hm hlo h
  simp only [toH, runS_exit] at h
  cases h
  exact .inr ⟨_, σ, w, tm, bs, [], rfl, .refl _ _, fun _ _ _ => rfl, hI.lf, hm, Goes.refl _ _ _, Same.refl _ _⟩
theorem told_ret : Told P T (n + 1) .ret := by
  intro hi lo cf ctx r a σ s w e g tm bs K cs kS o g' s' hle hP hI hm hlo h
  simp only [toH, runS_ret] at h
  cases h
  exact .inr ⟨_, σ, w, tm, bs, [], rfl, .refl _ _, fun _ _ _ => rfl, hI.lf, hm, Goes.refl _ _ _, Same.refl _ _⟩

theorem told_region (hT : PrimUp T) (hC : CallVs P T n) (hD : Draws P T n) {id : Nat} {ops : Array Oper} {draw : Bool} : Told P T (n + 1) (.region id ops draw) := by
  intro hi lo cf ctx r a σ s w e g tm bs K cs kS o g' s' hle hP hI hm hlo h
  cases draw with
  | false =>
    simp only [toH] at h
    obtain ⟨e1, g1, s1, σ1, w1, tm1, h1, h2, h3, h4, h5⟩ := emits_run (df := bs.map mkD) (K := K) (cs := cs) hT hle hP hC ops.toList 0 (fun j => by simp) hI h
    rw [Array.length_toList, ← List.range_eq_range'] at h1
    exact .inl ⟨e1, g1, s1, σ1, w1, tm1, bs, .head go_region h1, h2, hm.goes hI.rel h3, h3, by simpa only [writes] using h4, h5⟩
  | true =>
    simp only [toH] at h
    cases hok : okPlan cf.P ops (planOf cf.P ops) with
    | false => rw [hok] at h; rw [runS_bad] at h; cases h
    | true =>
      rw [hok] at h
      have hI' : Inv P hi cf ctx r σ s (dr w (w.drawn + 1)) e g tm := { hI with rel := hI.rel.dr _ }
      obtain ⟨e1, g1, s1, σ1, w1, tm1, h1, h2, h3, h4, h5⟩ := hD (df := bs.map mkD) (K := K) (cs := cs) (w.tape w.drawn (.order ctx.fn id)) hle hP hC hI' hok h
      have hg : Goes σ s w σ1 s1 w1 := (Goes.dr _).trans h3
      exact .inl ⟨e1, g1, s1, σ1, w1, tm1, bs, .head go_region_draw h1, h2, hm.goes hI.rel hg, hg, by simpa only [writes] using h4, h5⟩

end Go.Ev

/- Ranges over functions, rounds, and calls. -/
namespace Go.Ev

variable {hi lo : Nat} {P : Program} {T : PT FnE} {n : Nat} {σ : Sg} {s : St} {w : World} {cf : Cf} {ctx : Ctx} {tm : Array Value} {r : Option Pos} {a : List AV} {e : Env} {g : PT AV} {o : Out} {g' : PT AV} {s' : St}
  {df : List Deferred} {K : List Item} {cs : List Frame} {bs : List Nat} {kS : Env → S}


theorem Rel.extra (h : Rel P σ s w) (x : Obj) : Rel P σ s (w.alloc x) :=
  ⟨fun p ob hp => ⟨(h.obj p ob hp).1, (h.obj p ob hp).2.congr (alloc_other (h.lt hp))⟩, h.inj⟩
theorem Goes.extra (x : Obj) : Goes σ s w σ s (w.alloc x) :=
  ⟨Sg.le_refl _ _, by simp, fun _ hb _ => alloc_other hb, fun _ h => .inl h, fun _ h => .inl h, fun _ h => .inl h, rfl, rfl, rfl⟩

theorem run_getObj_loop {l : Nat} {q : Loop} (h : w.heap[l]? = some (.loop q)) : (getObj l).run P w = .ok (.loop q) w := by
  simp only [getObj, Sem.run, h]
theorem run_setObj_loop {l : Nat} {q : Loop} (h : w.heap[l]? = some (.loop q)) (x : Obj) : (setObj l x).run P w = .ok () (up w l x) := by
  simp only [setObj, Sem.run, h]; rfl
theorem run_getLoop {l : Nat} {q : Loop} (h : w.heap[l]? = some (.loop q)) : (Instr.getLoop l).run P w = .ok q w := by
  unfold Instr.getLoop
  simp only [Sem.run_bind, run_getObj_loop h, Result.andThen_ok, Sem.run_pure]

/-- The end of a range over a function. -/
theorem go_endRange {l : Nat} {q : Loop} (hl : w.heap[l]? = some (.loop q)) (hs : q.state ≠ .busy) :
    step P (lone (frm ctx tm df (.endRangeFunc l :: K)) cs w) = .next (lone (frm ctx tm df ((q.pending.map Item.code).toList ++ K)) cs (up w l (.loop { q with state := .exhausted }))) := by
  refine step_lone_go ?_
  have hb : (q.state == LoopState.busy) = false := by
    cases hq : q.state <;> first | rfl | exact absurd hq hs
  have hrun : (Instr.endLoop l).run P w = .ok q.pending (up w l (.loop { q with state := .exhausted })) := by
    unfold Instr.endLoop
    simp only [Sem.run_bind, run_getLoop hl, Result.andThen_ok, Sem.run_pure, hb, Bool.false_eq_true, if_false, run_setObj_loop hl]
  simp [stepG, stepG.exec, frm, hrun]

/-- A range over a function begins: its function is called, and comes back. -/
theorem go_rangeFunc {f : Operand} {ps : Array Tmp} {x y : Code} {l : Nat} {mark : List Deferred} {w1 : World} {R : Value → World → Prop}
    (he : (Instr.enterLoop ctx.fn tm ps x y ctx.ro).run P w = .ok (l, mark) w1) (hd : Does P (do let d ← Deferred.ofValue (ev tm f) #[.func (.yield l) #[] #[]]; invoke d.target d.args) w1 R) :
    ∃ v w', R v w' ∧ Steps P (lone (frm ctx tm df (.code (.rangeFunc f ps x y) :: K)) cs w) (lone (frm ctx tm (mark ++ df) (.endRangeFunc l :: K)) cs w') := by
  obtain ⟨fr1, cs1, w2, v, w', h1, h2, h3⟩ := hd (frm ctx tm (mark ++ df) (.inRangeFunc l :: K)) cs ⟨fun _ _ _ _ _ h => by simp [frm] at h, fun _ _ _ h => by simp [frm] at h⟩
  refine ⟨v, w', h3, Steps.head (step_lone_go (fr' := fr1) (cs' := cs1) (w' := w2) ?_) h2⟩
  have hev : (frm ctx tm (mark ++ df) (.inRangeFunc l :: K)).eval = ev tm := eval_frm _
  have hr : (do let d ← resolve (frm ctx tm (mark ++ df) (.inRangeFunc l :: K)).eval { callee := .value f, args := #[.const (.func (.yield l) #[] #[])], argTypes := #[] } 0; invoke d.target d.args : Sem Next) =
      (do let d ← Deferred.ofValue (ev tm f) #[.func (.yield l) #[] #[]]; invoke d.target d.args) := by
    rw [hev]; simp [resolve, ev]
  have hstep : (stepG P true { frame := frm ctx tm df (.code (.rangeFunc f ps x y) :: K), callers := cs, status := .running, dying := none } w).bare =
      (stepG.apply P true (frm ctx tm (mark ++ df) (.inRangeFunc l :: K)) cs none (do let d ← resolve (frm ctx tm (mark ++ df) (.inRangeFunc l :: K)).eval { callee := .value f, args := #[.const (.func (.yield l) #[] #[])], argTypes := #[] } 0; invoke d.target d.args) w1).bare := by
    have he' := he
    simp only [stepG, stepG.exec, frm, Sem.runT_eq, he', GStep.bare_after]
  rw [hstep, hr, h1]

/-- A loop's record is made. -/
theorem run_enterLoop_out {fn : FuncId} {ps : Array Tmp} {x y : Code} : (Instr.enterLoop fn tm ps x y none).run P w =
    .ok (w.heap.size + 1, [mkD w.heap.size]) ((w.alloc (.deferred (some []))).alloc (.loop { state := .ready, pending := none, fn, tmps := tm, params := ps, assign := x, body := y, defers := w.heap.size })) := by
  unfold Instr.enterLoop
  simp only [Sem.run_bind, run_newObj, Result.andThen_ok, Sem.run_pure]
  rw [show (w.heap.push (Obj.deferred (some []))).size = w.heap.size + 1 from Array.size_push _]
  rfl
theorem run_enterLoop_in {fn : FuncId} {ps : Array Tmp} {x y : Code} {l : Nat} {q : Loop} (h : w.heap[l]? = some (.loop q)) : (Instr.enterLoop fn tm ps x y (some l)).run P w =
    .ok (w.heap.size, []) (w.alloc (.loop { state := .ready, pending := none, fn, tmps := tm, params := ps, assign := x, body := y, defers := q.defers })) := by
  unfold Instr.enterLoop
  simp only [Sem.run_bind, run_getLoop h, run_newObj, Result.andThen_ok, Sem.run_pure]
  rfl

theorem jcode_items (j : Jump) : ((jcode j).map Item.code).toList = (match j with | .none => [] | .ret => [.code .ret] | .exit id => [.code (.exit id)] : List Item) := by cases j <;> rfl

theorem told_range (hT : PrimUp T) (hC : CallVs P T n) {f : Operand} {ps : Array Tmp} {x y : Code} : Told P T (n + 1) (.rangeFunc f ps x y) := by
  intro hi lo cf ctx r a σ s w e g tm bs K cs kS o g' s' hle hP hI hm hlo h
  simp only [toH] at h
  obtain ⟨e1, v, hI1, hv, h⟩ := look_run hP hI h
  rw [runS_seq, runS_rfun] at h
  -- the whole of the range, whatever follows
  have whole : ∀ {o1 : Out} {g1 : PT AV} {s1 : St}, s1.nx.num ≤ hi → runR T (runS T n) v (.block ps.size (bindPs cf e1 0 ps.toList fun e => toH cf x e fun e => .brnd (toH cf y e fun _ => .fall))) r g s = .mk o1 g1 s1 →
      ∃ σ1 w1 bs1, Inv P hi cf ctx r σ1 s1 w1 e1 g tm ∧ g1 = g ∧ Marks lo w1 bs1 ∧ Goes σ s w σ1 s1 w1 ∧
        Steps P (lone (frm ctx tm (bs.map mkD) (.code (.rangeFunc f ps x y) :: K)) cs w) (lone (frm ctx tm (bs1.map mkD) (((jmp o1).map Item.code).toList ++ K)) cs w1) := by
    intro o1 g1 s1 hle1 h1
    obtain ⟨hh, nx, rfl, hrnd, h1⟩ := runR_mk h1
    obtain ⟨v1, hh2, nx2, st, j, g2, b2, hcall, hget, hbusy, hgg, rfl, ho1⟩ := endL_mk h1
    have hup := callV_up hT (runS_up hT n) hcall
    have hnxlt : nx.num < hi := by
      have h2 : nx.succ.num ≤ nx2.num := hup
      rw [Pos.num_succ] at h2
      have h3 : nx2.num ≤ hi := hle1
      omega
    have hfn : ¬ σ.live nx := hI1.fresh nx (Nat.le_refl _) hnxlt
    -- the record is made
    obtain ⟨bs0, l, wd, q, hent, hmark, hreld, hgd, hl, hq, hm0⟩ : ∃ (bs0 : List Nat) (l : Nat) (wd : World) (q : Loop),
        (Instr.enterLoop ctx.fn tm ps x y ctx.ro).run P w = .ok (l, bs0.map mkD) (wd.alloc (.loop q)) ∧ Marks lo wd (bs0 ++ bs) ∧ Rel P σ (.mk hh nx) wd ∧ Goes σ (.mk hh nx) w σ (.mk hh nx) wd ∧ l = wd.heap.size ∧
        (q.state = .ready ∧ q.pending = none ∧ q.tmps = tm ∧ q.params = ps ∧ q.assign = x ∧ q.body = y) ∧ True := by
      cases r with
      | none =>
        have hro : ctx.ro = none := hI1.rnd
        rw [hro]
        refine ⟨[w.heap.size], _, _, _, run_enterLoop_out, ⟨?_, fun b hb => ?_⟩, hI1.rel.extra _, Goes.extra _, ?_, ⟨rfl, rfl, rfl, rfl, rfl, rfl⟩, trivial⟩
        · rw [List.singleton_append, List.nodup_cons]
          refine ⟨fun hb => ?_, hm.1⟩
          have := (Array.getElem?_eq_some_iff.1 (hm.2 _ hb).2).1
          omega
        · rcases List.mem_cons.1 hb with rfl | hb
          · exact ⟨hlo, alloc_new _ _⟩
          · obtain ⟨k1, k2⟩ := hm.2 b hb
            exact ⟨k1, by rw [alloc_other (Array.getElem?_eq_some_iff.1 k2).1]; exact k2⟩
        · simp
      | some l0 =>
        obtain ⟨hlv, hro⟩ := hI1.rnd
        simp only [rndOk] at hrnd
        cases hg0 : PT.get hh l0 with
        | none => rw [hg0] at hrnd; cases hrnd
        | some ob =>
          rw [hg0] at hrnd
          cases ob <;> try (cases hrnd; done)
          obtain ⟨_, q0, hq0, _⟩ := hI1.rel.obj l0 _ hg0
          rw [hro]
          exact ⟨[], _, w, _, run_enterLoop_in hq0, hm, hI1.rel, Goes.refl _ _ _, rfl, ⟨rfl, rfl, rfl, rfl, rfl, rfl⟩, trivial⟩
    obtain ⟨q1, q2, q3, q4, q5, q6⟩ := hq
    let bb : S := .block ps.size (bindPs cf e1 0 ps.toList fun e => toH cf x e fun e => .brnd (toH cf y e fun _ => .fall))
    have hrl : RLoop P (σ.ext nx wd.heap.size 0 0) nx.succ.num .ready .none g bb q := by
      have hle' := Sg.ext_le σ nx wd.heap.size 0 0 hfn
      refine ⟨q1, q2, cf, e1, hP, ?_, ?_, by rw [q3]; exact hI1.nt, by rw [q4, q5, q6]⟩
      · rw [q3]; exact hI1.env.mono hle'
      · rw [q3]; exact hI1.gok.mono hle'
    have hrel0 := Rel.new hreld hfn (.loop q) 0 0 (a := .loop .ready .none g bb) ⟨q, by rw [Sg.ext_blk]; exact alloc_new _ _, hrl⟩
    have hgo0 := Goes.new hreld hfn (.loop q) 0 0 (.loop .ready .none g bb)
    have hfresh0 : Fresh (σ.ext nx wd.heap.size 0 0) nx.succ.num hi := hgo0.fresh hI1.fresh
    -- its function is called
    have hdo := hC _ _ _ v (ev tm f) [.func (.yd nx) [] []] [.func (.yield l) #[] #[]] v1 _ hrel0 (hI1.glob.mono hgo0.le) (RV.mono hgo0.le _ _ hv)
      (RVs_cons.2 ⟨by simp only [RV]; exact ⟨_, _, _, rfl, ⟨Sg.ext_live _ _ _ _ _, by rw [hl]; simp [Sg.ext]⟩, by simp [RVs], by simp [RVs]⟩, by simp [RVs]⟩) hcall (hfresh0.mono (Nat.le_refl _) hle1)
    obtain ⟨cv, w2, ⟨σ2, _, hrel2, hgo2⟩, hst⟩ := go_rangeFunc (df := bs.map mkD) (K := K) (cs := cs) hent hdo
    have hgo : Goes σ (.mk hh nx) w σ2 (.mk hh2 nx2) w2 := (hgd.trans hgo0).trans hgo2
    have hm2 : Marks lo w2 (bs0 ++ bs) := (hmark.goes hreld hgo0).goes hrel0 hgo2
    -- and the range ends
    obtain ⟨_, q', hq', hrl'⟩ := hrel2.obj nx _ hget
    have hblk : σ2.blk nx = l := by
      rw [(hgo2.le.2 nx (Sg.ext_live _ _ _ _ _)).2.1, hl]; simp [Sg.ext]
    obtain ⟨r1, r2, r3⟩ := hrl'
    have hst2 := go_endRange (P := P) (ctx := ctx) (tm := tm) (df := (bs0 ++ bs).map mkD) (K := K) (cs := cs) (l := l) (by rw [← hblk]; exact hq') (fun hb => by
      rw [r1] at hb; cases st <;> first | exact hbusy rfl | cases hb)
    have hput := Rel.put hrel2 hget (x := .loop { q' with state := .exhausted }) (o' := .loop .exhausted j g2 b2) ⟨{ q' with state := .exhausted }, up_same (hrel2.lt hget), rfl, r2, r3⟩
    have hgput := Goes.put (σ := σ2) (s := .mk hh2 nx2) (w := w2) (o' := .loop .exhausted j g2 b2) hget rfl (.loop { q' with state := .exhausted })
    rw [hblk] at hput hgput
    refine ⟨σ2, _, bs0 ++ bs, hI1.goes hput (hgo.trans hgput), hgg, hm2.goes hrel2 hgput, hgo.trans hgput, ?_⟩
    rw [List.map_append] at hst2
    refine hst.trans ?_
    rw [List.map_append]
    refine Steps.one ?_
    rw [hst2, r2]
    subst ho1
    cases j <;> rfl
  rcases thenR_mk h with ⟨g1, s1, h1, h2⟩ | ⟨hof, h1⟩
  · have hup := runS_up hT _ _ _ _ _ _ _ _ _ h2
    obtain ⟨σ1, w1, bs1, i1, rfl, i2, i3, hst⟩ := whole (Nat.le_trans hup hle) h1
    exact .inl ⟨e1, _, s1, σ1, w1, tm, bs1, hst, i1, i2, i3, Same.refl _ _, h2⟩
  · obtain ⟨σ1, w1, bs1, i1, rfl, i2, i3, hst⟩ := whole hle h1
    cases o with
    | fall => exact absurd rfl hof
    | ret => exact .inr ⟨_, σ1, w1, tm, bs1, [], rfl, hst, fun _ _ _ => rfl, i1.lf, i2, i3, Same.refl _ _⟩
    | exit id => exact .inr ⟨_, σ1, w1, tm, bs1, [], rfl, hst, fun _ _ _ => rfl, i1.lf, i2, i3, Same.refl _ _⟩

end Go.Ev

/- Calls: bodies, rounds, and what every fuel gives. -/
namespace Go.Ev

variable {hi lo : Nat} {P : Program} {T : PT FnE} {n : Nat} {σ : Sg} {s : St} {w : World} {cf : Cf} {ctx : Ctx} {tm : Array Value} {r : Option Pos} {a : List AV} {e : Env} {g : PT AV} {o : Out} {g' : PT AV} {s' : St}
  {df : List Deferred} {K : List Item} {cs : List Frame} {bs : List Nat} {kS : Env → S}

theorem getAv_eq (l : List AV) (i : Nat) : getAv l i = (l[i]?).getD .any := by
  unfold getAv
  rw [dpV_eq]
  cases h : l.drop i with
  | nil =>
    have : l.length ≤ i := List.drop_eq_nil_iff.1 h
    rw [List.getElem?_eq_none this]; rfl
  | cons x r =>
    have := congrArg (·[0]?) h
    simp at this
    rw [this]; rfl

theorem getAv_rv {nx : Nat} {avs : List Value} (h : RVs σ nx a avs) (i : Nat) : RV σ nx (getAv a i) (avs.getD i undef) := by
  rw [getAv_eq]
  cases hi : a[i]? with
  | none => simp [RV]
  | some x =>
    obtain ⟨v, h1, h2⟩ := (RVs_iff.1 h).2 i x hi
    rw [List.getD_eq_getElem?_getD, h1]; exact h2

/-- Parameters, laid down. -/
theorem bindPs_run (hP : cf.P = P) {avs : List Value} : ∀ (ps : List Tmp) (i : Nat) {e : Env} {g : PT AV} {tm : Array Value} {k : Env → S}, (∀ j, RV σ s.nx.num (getAv a (i + j)) (avs.getD (i + j) undef)) → Inv P hi cf ctx r σ s w e g tm →
    runS T (n + 1) (bindPs cf e i ps k) r a g s = .mk o g' s' →
    ∃ e1 g1, Inv P hi cf ctx r σ s w e1 g1 ((ps.zip (List.range' i ps.length)).foldl (fun tm q => tm.setIfInBounds q.1 (avs.getD q.2 undef)) tm) ∧ runS T (n + 1) (k e1) r a g1 s = .mk o g' s'
  | [], i, e, g, tm, k, _, hI, h => ⟨e, g, hI, h⟩
  | t :: ps, i, e, g, tm, k, ha, hI, h => by
    simp only [bindPs, runS_arg] at h
    obtain ⟨e1, g1, hI1, h⟩ := putT_run (cv := avs.getD i undef) hI (ha 0) h
    obtain ⟨e2, g2, hI2, h⟩ := bindPs_run hP ps (i + 1) (fun j => by rw [show i + 1 + j = i + (j + 1) by omega]; exact ha (j + 1)) hI1 h
    exact ⟨e2, g2, hI2, h⟩

/-- A function's parameters lie there already. -/
theorem bindPs_fn (hP : cf.P = P) : ∀ (ps : List Tmp) (i : Nat) {e : Env} {g : PT AV} {k : Env → S}, (∀ j (t : Tmp), ps[j]? = some t → RV σ s.nx.num (getAv a (i + j)) (tm.getD t undef)) → Inv P hi cf ctx r σ s w e g tm →
    runS T (n + 1) (bindPs cf e i ps k) r a g s = .mk o g' s' → ∃ e1 g1, Inv P hi cf ctx r σ s w e1 g1 tm ∧ runS T (n + 1) (k e1) r a g1 s = .mk o g' s'
  | [], i, e, g, k, _, hI, h => ⟨e, g, hI, h⟩
  | t :: ps, i, e, g, k, ha, hI, h => by
    simp only [bindPs, runS_arg] at h
    obtain ⟨e1, g1, hI1, h⟩ := putT_run (cv := tm.getD t undef) hI (ha 0 t rfl) h
    have hself : putV tm (some t) (tm.getD t undef) = tm := by
      apply Array.ext_getElem?
      intro j
      simp only [putV, Array.getElem?_setIfInBounds]
      split
      · rename_i hj
        subst hj
        split
        · rename_i hlt; simp [Array.getD_eq_getD_getElem?, hlt]
        · rename_i hge; rw [Array.getElem?_eq_none (by omega)]
      · rfl
    rw [hself] at hI1
    obtain ⟨e2, g2, hI2, h⟩ := bindPs_fn hP ps (i + 1) (fun j u hu => by rw [show i + 1 + j = i + (j + 1) by omega]; exact ha (j + 1) u (by simpa using hu)) hI1 h
    exact ⟨e2, g2, hI2, h⟩

/-- What a table says of the program. -/
def PrimOK (P : Program) (f : FuncId) (p : List AV → St → CR) : Prop := ∀ (σ : Sg) (s : St) (w : World) (as : List AV) (avs : List Value) (v : AV) (s1 : St), Rel P σ s w → GlobOK P σ s.nx.num → RVs σ s.nx.num as avs → p as s = .mk v s1 →
  Fresh σ s.nx.num s1.nx.num → Does P (callFunc f avs.toArray) w (After P σ s w v s1)
def BodyOK (P : Program) (f : FuncId) (b : S) (res : List ResD) : Prop := ∃ (fn : Func) (code : Code) (cf : Cf), P.funcs[f]? = some fn ∧ (fn.name == "runtime.NumGoroutine") = false ∧ fn.body = some code ∧ cf.P = P ∧ cf.nt = fn.ntmps ∧
  resOf cf fn.results.toList = some res ∧ b = bindPs cf .lf 0 (List.range (fn.params.size + fn.nfree)) fun e => toH cf code e fun _ => .fall
structure TableOK (P : Program) (T : PT FnE) : Prop where
  body : ∀ f b res, PT.get T f = some (.body b res) → BodyOK P (f.num - 1) b res
  prim : ∀ f p, PT.get T f = some (.prim p) → PrimOK P (f.num - 1) p
  up : PrimUp T

theorem BodyOK.of_toFn {f : FuncId} {G : List Nat} {b : S} {res : List ResD} (h : toFn P f G = some (.body b res)) : BodyOK P f b res := by
  unfold toFn at h
  cases hf : P.funcs[f]? with
  | none => rw [hf] at h; cases h
  | some fn =>
    rw [hf] at h
    simp only at h
    cases hn : fn.name == "runtime.NumGoroutine" with
    | true => rw [hn] at h; cases h
    | false =>
      rw [hn] at h
      simp only at h
      cases hb : fn.body with
      | none => rw [hb] at h; cases h
      | some code =>
        rw [hb] at h
        simp only at h
        cases hr : resOf { P, nt := fn.ntmps, G := gset G } fn.results.toList with
        | none => rw [hr] at h; cases h
        | some rs =>
          rw [hr] at h
          cases h
          exact ⟨fn, code, _, hf, hn, hb, rfl, rfl, hr, rfl⟩

/-- A load, and that memory stays. -/
theorem load_at (h : Rel P σ s w) {t : TypeId} {ag : Bool} {m : Nat} (ht : aggOf P t = some (ag, m)) {x u : AV} {v : Value} (hx : RV σ s.nx.num x v) (hv : doLoad ag m x s = .val u) :
    ∃ ad cv, v = .pointer (some ad) ∧ (loadVar t ad).run P w = .ok cv w ∧ RV σ s.nx.num u cv := by
  obtain ⟨i, d, hi, hsz, hu, hag⟩ := aggOf_some ht
  unfold doLoad at hv
  cases hp : asP x with
  | no => rw [hp] at hv; cases hv
  | yes p o =>
    rw [hp] at hv
    rw [asP_yes hp] at hx
    simp only [RV] at hx
    obtain ⟨_, rfl⟩ := hx
    simp only at hv
    rw [brec] at hv
    refine ⟨⟨σ.blk p, σ.base p + o, none⟩, ?_⟩
    split at hv
    · rename_i hag'
      subst hag'
      rw [orec] at hv
      cases hl : ldCells p o m s with
      | none => rw [hl] at hv; cases hv
      | some l =>
        rw [hl] at hv
        cases hv
        obtain ⟨cs, h1, h2, h3⟩ := h.loadCells hl
        refine ⟨.agg cs.toArray, rfl, ?_, by simp only [RV]; exact ⟨_, rfl, by simpa using h1⟩⟩
        unfold loadVar
        simp only [Sem.run_bind, Sem.run_pure, Result.andThen_ok, hag, if_true, run_sizeOf' hi, hsz, h3]
    · rename_i hag'
      have hag' : ag = false := by simpa using hag'
      subst hag'
      rw [brec] at hv
      split at hv
      · obtain ⟨cs, h1, h2, h3, h4, h5⟩ := h.cells (ldOne_val hv)
        obtain ⟨c, rfl⟩ : ∃ c, cs = [c] := by
          cases cs with
          | nil => simp at h2
          | cons c r => cases r with
            | nil => exact ⟨c, rfl⟩
            | cons _ _ => simp at h2
        have hc := h5 0 c rfl
        simp only [Nat.add_zero] at hc
        refine ⟨c, rfl, ?_, (RVs_cons.1 h1).1⟩
        unfold loadVar
        simp only [Sem.run_bind, Sem.run_pure, Result.andThen_ok, hag, Bool.false_eq_true, if_false, run_load, hc]
      · cases hv


noncomputable def resSem (tm : Array Value) : ResultVar → Sem Value
  | .tmp t => pure (tm.getD t undef)
  | .cell b t => do loadVar t (← asAddr (tm.getD b undef))

theorem results_eq (fn : Func) : results fn tm = (do let vs ← fn.results.mapM (resSem tm); pure (if h : vs.size = 1 then vs[0] else .tuple vs)) := by
  unfold results
  have : (fun x => match x with | ResultVar.tmp t => (pure (tm.getD t undef) : Sem Value) | ResultVar.cell a t => do loadVar t (← asAddr (tm.getD a undef))) = resSem tm := by
    funext x; cases x <;> rfl
  rw [← this]
  rfl

/-- Results, read. -/
theorem readAll_ok (hP : cf.P = P) (hR : Rel P σ s w) (hG : GOK σ s.nx.num cf g tm) : ∀ (rs : List ResultVar) (ds : List ResD) (m : List AV), resOf cf rs = some ds → readAll g s ds = some m →
    ∃ vs : List Value, RVs σ s.nx.num m vs ∧ (rs.mapM (resSem tm) : Sem (List Value)).run P w = .ok vs w
  | [], ds, m, h, hm => by
    simp only [resOf, Option.some.injEq] at h
    subst h
    simp only [readAll, Option.some.injEq] at hm
    subst hm
    exact ⟨[], by simp [RVs], by simp⟩
  | x :: rs, ds, m, h, hm => by
    simp only [resOf] at h
    cases hr : resOf cf rs with
    | none => rw [hr] at h; cases h
    | some ds1 =>
      rw [hr] at h
      simp only at h
      have rest : ∀ {d : ResD} {k : Sem Value}, ds = d :: ds1 → (∀ v, readOne g s d = some v → ∃ cv, RV σ s.nx.num v cv ∧ k.run P w = .ok cv w) →
          ∃ vs : List Value, RVs σ s.nx.num m vs ∧ (do let y ← k; let ys ← (rs.mapM (resSem tm) : Sem (List Value)); pure (y :: ys) : Sem (List Value)).run P w = .ok vs w := by
        intro d k hd hk
        subst hd
        simp only [readAll] at hm
        cases h1 : readOne g s d with
        | none => rw [h1] at hm; cases hm
        | some v =>
          rw [h1] at hm
          simp only at hm
          cases h2 : readAll g s ds1 with
          | none => rw [h2] at hm; cases hm
          | some m1 =>
            rw [h2] at hm
            cases hm
            obtain ⟨cv, c1, c2⟩ := hk v h1
            obtain ⟨vs, d1, d2⟩ := readAll_ok hP hR hG rs ds1 m1 hr h2
            exact ⟨cv :: vs, RVs_cons.2 ⟨c1, d1⟩, by simp only [Sem.run_bind, c2, Result.andThen_ok, d2, Sem.run_pure]⟩
      rw [List.mapM_cons]
      cases x with
      | tmp t =>
        simp only at h
        cases hg : isG cf t with
        | false => rw [hg] at h; cases h
        | true =>
          rw [hg] at h
          cases h
          exact rest rfl fun v hv => ⟨_, hG t v hg hv, rfl⟩
      | cell b t =>
        simp only at h
        cases hg : isG cf b with
        | false => rw [hg] at h; cases h
        | true =>
          cases ha : aggOf cf.P t with
          | none => rw [hg, ha] at h; cases h
          | some q =>
            obtain ⟨ag, k⟩ := q
            rw [hg, ha] at h
            cases h
            refine rest rfl fun v hv => ?_
            simp only [readOne] at hv
            cases hb : PT.get g (n2p b) with
            | none => rw [hb] at hv; cases hv
            | some x =>
              rw [hb] at hv
              simp only at hv
              cases hl : doLoad ag k x s with
              | fail => rw [hl] at hv; cases hv
              | st _ _ => rw [hl] at hv; cases hv
              | val u =>
                rw [hl] at hv
                cases hv
                rw [hP] at ha
                have hx := hG b x hg hb
                obtain ⟨ad, cv, e1, e2, e3⟩ := load_at hR ha hx hl
                exact ⟨cv, e3, by simp only [resSem, e1, asAddr, Sem.run_bind, Sem.run_pure, Result.andThen_ok, e2]⟩

theorem results_ok (hP : cf.P = P) (hR : Rel P σ s w) (hG : GOK σ s.nx.num cf g tm) {fn : Func} {ds : List ResD} {v : AV} {s1 : St} (h : resOf cf fn.results.toList = some ds) (hm : readRes g s ds = .mk v s1) :
    s1 = s ∧ ∃ cv, RV σ s.nx.num v cv ∧ (results fn tm).run P w = .ok cv w := by
  obtain ⟨rfl, m, hm', rfl⟩ := readRes_mk hm
  refine ⟨rfl, ?_⟩
  obtain ⟨vs, h1, h2⟩ := readAll_ok hP hR hG _ _ _ h hm'
  have hrun : (results fn tm).run P w = .ok (if hh : vs.toArray.size = 1 then vs.toArray[0] else .tuple vs.toArray) w := by
    rw [results_eq, ← Array.toArray_toList (xs := fn.results), List.mapM_toArray]
    have hmap : ∀ (X : Sem (List Value)), (List.toArray <$> X).run P w = (X.run P w).andThen fun l w => .ok l.toArray w := fun X => by
      first | rw [Sem.run_map] | exact Sem.run_bind ..
    simp only [Sem.run_bind, Sem.run_pure]
    rw [hmap, h2]
    rfl
  rw [hrun]
  refine ⟨_, ?_, rfl⟩
  match m, h1 with
  | [], h1 =>
    rw [RVs_nil] at h1
    subst h1
    simp only [RV]
    exact ⟨#[], rfl, by simp [RVs]⟩
  | [x], h1 =>
    obtain ⟨c, rfl⟩ : ∃ c, vs = [c] := by
      match vs, RVs_length h1 with
      | [c], _ => exact ⟨c, rfl⟩
    exact (RVs_cons.1 h1).1
  | x :: y :: l, h1 =>
    have hl := RVs_length h1
    have : ¬ vs.toArray.size = 1 := by simp [hl]
    rw [dif_neg this]
    simp only [RV]
    exact ⟨_, rfl, h1⟩


/-- A frame that has returned takes its loops' (empty) deferred calls. -/
theorem unwind_marks {fr : Frame} (hmode : fr.mode = .returning) : ∀ (bs : List Nat) (w : World), Marks lo w bs → ∃ w2, Steps P (lone { fr with defers := bs.map mkD } cs w) (lone { fr with defers := [] } cs w2) ∧
    (∀ b, b ∉ bs → w2.heap[b]? = w.heap[b]?) ∧ w2.heap.size = w.heap.size ∧ w2.tape = w.tape ∧ w2.os = w.os ∧ w2.output = w.output
  | [], w, _ => ⟨w, .refl _ _, fun _ _ => rfl, rfl, rfl, rfl, rfl⟩
  | b :: bs, w, hm => by
    obtain ⟨hnd, hall⟩ := hm
    rw [List.nodup_cons] at hnd
    obtain ⟨h1, h2⟩ := hall b (by simp)
    have hm' : Marks lo (up w b (.deferred none)) bs := ⟨hnd.2, fun c hc => by
      obtain ⟨k1, k2⟩ := hall c (by simp [hc])
      refine ⟨k1, ?_⟩
      rw [up_other (fun e => hnd.1 (by rw [← e]; exact hc))]
      exact k2⟩
    obtain ⟨w2, i1, i2, i3, i4, i5, i6⟩ := unwind_marks hmode bs _ hm'
    have hrun : (Instr.takeDeferred b).run P w = .ok [] (up w b (.deferred none)) := by
      unfold Instr.takeDeferred
      have hg : (getObj b).run P w = .ok (.deferred (some [])) w := by simp only [getObj, Sem.run, h2]
      have hs : (setObj b (.deferred none)).run P w = .ok () (up w b (.deferred none)) := by simp only [setObj, Sem.run, h2]; rfl
      simp only [Sem.run_bind, hg, Result.andThen_ok, hs, Sem.run_pure]
    refine ⟨w2, Steps.head (step_lone_go ?_) i1, fun c hc => ?_, by rw [i3, up_size], i4, i5, i6⟩
    · simp only [stepG, hmode, unwind, List.map_cons, mkD, Sem.runT_eq, hrun, GStep.bare_after]
      rfl
    · have hne : c ≠ b := fun e => hc (by simp [e])
      rw [i2 c (fun h => hc (by simp [h])), up_other hne]

/-- A function's body, called. -/
theorem body_ok (hTold : ∀ cd, Told P T n cd) {f : FuncId} {b : S} {res : List ResD} (hb : BodyOK P f b res) (hR : Rel P σ s w) (hG : GlobOK P σ s.nx.num) {avs : List Value} (ha : RVs σ s.nx.num a avs) {v : AV} {s1 : St}
    (h : rret res (runS T n b none a .lf s) = .mk v s1) (hf : Fresh σ s.nx.num s1.nx.num) : Calls P f avs.toArray w fun e w' => ∃ cv, e = .returned cv ∧ After P σ s w v s1 cv w' := by
  intro cs
  obtain ⟨fn, code, cf, hfn, hname, hbody, hP, hnt, hres, rfl⟩ := hb
  obtain ⟨o, g', hm, hne, hrd⟩ := rret_mk h
  cases n with
  | zero => cases hm
  | succ n =>
  let tm : Array Value := avs.toArray ++ Array.replicate (fn.ntmps - avs.toArray.size) undef
  have hsz : cf.nt ≤ tm.size := by
    rw [hnt]
    show fn.ntmps ≤ (avs.toArray ++ Array.replicate (fn.ntmps - avs.toArray.size) undef).size
    rw [Array.size_append, Array.size_replicate]
    omega
  have hno : ∀ (t : Nat) (v : AV), PT.get (.lf : PT AV) (n2p t) = some v → False := fun t v hv => by rw [PT.get_lf] at hv; cases hv
  have hI : Inv P s1.nx.num cf ⟨f, none⟩ none σ s w .lf .lf tm := ⟨hR, fun t v hv => (hno t v hv).elim, fun t v _ hv => (hno t v hv).elim, hsz, hG, rfl, hf⟩
  have htm : ∀ t, tm.getD t undef = avs.getD t undef := fun t => by
    show (avs.toArray ++ Array.replicate (fn.ntmps - avs.toArray.size) undef).getD t undef = _
    simp only [Array.getD_eq_getD_getElem?, List.getD_eq_getElem?_getD, Array.getElem?_append, List.size_toArray, List.getElem?_toArray, Array.getElem?_replicate]
    split
    · rfl
    · rename_i hlt
      rw [List.getElem?_eq_none (by omega)]
      split <;> rfl
  obtain ⟨e1, g1, hI1, hm⟩ := bindPs_fn hP (List.range (fn.params.size + fn.nfree)) 0 (fun j t hj => by
    have : t = j := by
      obtain ⟨hlt, he⟩ := List.getElem?_eq_some_iff.1 hj
      rw [← he]; simp
    subst this
    rw [htm, Nat.zero_add]
    exact getAv_rv ha t) hI hm
  have henter : Frame.enter P f avs.toArray .normal = frm ⟨f, none⟩ tm ([].map mkD) [.code code] := by
    simp [Frame.enter, frm, hfn, hbody, tm]
  have hlands := hTold code s1.nx.num w.heap.size cf ⟨f, none⟩ none a σ s w e1 g1 tm [] [] cs (fun _ => .fall) o g' s1 (Nat.le_refl _) hP hI1 ⟨List.nodup_nil, fun b hb => by cases hb⟩ (Nat.le_refl _) hm
  rw [← henter] at hlands
  -- however it leaves, it has returned
  obtain ⟨σ1, w1, tm1, bs1, todo, hst, hI2, hmk, hgo⟩ : ∃ (σ1 : Sg) (w1 : World) (tm1 : Array Value) (bs1 : List Nat) (todo : List Item), Steps P (lone (Frame.enter P f avs.toArray .normal) cs w) (lone { frm ⟨f, none⟩ tm1 (bs1.map mkD) todo with mode := .returning } cs w1) ∧
      Inv P s1.nx.num cf ⟨f, none⟩ none σ1 s1 w1 .lf g' tm1 ∧ Marks w.heap.size w1 bs1 ∧ Goes σ s w σ1 s1 w1 := by
    rcases hlands with ⟨e2, g2, s2, σ1, w1, tm1, bs1, h1, h2, h3, h4, _, h6⟩ | ⟨j, σ1, w1, tm1, bs1, pre, h0, h1, h2, h3, h4, h5, _⟩
    · rw [runS_fall] at h6
      cases h6
      exact ⟨σ1, w1, tm1, bs1, _, h1.trans (.one (go_end rfl)), h2.lf, h3, h4⟩
    · cases o with
      | fall => cases h0
      | exit id => exact absurd rfl (hne id)
      | ret =>
        cases h0
        exact ⟨σ1, w1, tm1, bs1, _, h1.trans (.one (go_ret rfl)), h3, h4, h5⟩
  obtain ⟨w2, u1, u2, u3, u4, u5, u6⟩ := unwind_marks (P := P) (cs := cs) (fr := { frm ⟨f, none⟩ tm1 (bs1.map mkD) todo with mode := .returning }) rfl bs1 w1 hmk
  have hR2 : Rel P σ1 s1 w2 := ⟨fun p ob hp => ⟨(hI2.rel.obj p ob hp).1, (hI2.rel.obj p ob hp).2.congr (u2 _ fun hb => hI2.rel.not_mark (hmk.2 _ hb).2 ⟨p, ob, hp, rfl⟩)⟩, hI2.rel.inj⟩
  have hgo2 : Goes σ s w σ1 s1 w2 := ⟨hgo.le, by rw [u3]; exact hgo.size, fun b hb hn => by
      rw [u2 b fun hh => absurd (hmk.2 b hh).1 (Nat.not_le.2 hb)]; exact hgo.same b hb hn, hgo.owns, hgo.holds, hgo.born, u4.trans hgo.tape, u5.trans hgo.os, u6.trans hgo.output⟩
  obtain ⟨_, cv, hcv, hrun⟩ := results_ok (w := w2) hP hR2 hI2.gok hres hrd
  exact ⟨.returned cv, w2, _, ⟨cv, rfl, σ1, hcv, hR2, hgo2⟩, hst.trans u1, rfl, rfl, rfl, rfl, fn, hfn, hrun⟩

theorem run_callFunc_body {f : FuncId} {fn : Func} {code : Code} (h : P.funcs[f]? = some fn) (hn : (fn.name == "runtime.NumGoroutine") = false) (hb : fn.body = some code) (args : Array Value) : (callFunc f args).run P w = .ok (.enter f args) w := by
  unfold callFunc
  simp only [Sem.run_bind, run_program, Result.andThen_ok, h, hn, hb, Option.isNone_some, Bool.false_eq_true, if_false, Sem.run_pure]

end Go.Ev

/- Rounds, calls of values, and the induction over the fuel. -/
namespace Go.Ev

variable {hi lo : Nat} {P : Program} {T : PT FnE} {n : Nat} {σ : Sg} {s : St} {w : World} {cf : Cf} {ctx : Ctx} {tm : Array Value} {r : Option Pos} {a : List AV} {e : Env} {g : PT AV} {o : Out} {g' : PT AV} {s' : St}
  {df : List Deferred} {K : List Item} {cs : List Frame} {bs : List Nat} {kS : Env → S}

/-- Parameters, laid down from a list. -/
theorem bindPs_list (hP : cf.P = P) : ∀ (ps : List Tmp) (vs : List Value) (i : Nat) {e : Env} {g : PT AV} {tm : Array Value} {k : Env → S}, vs.length = ps.length → (∀ j, RV σ s.nx.num (getAv a (i + j)) (vs.getD j undef)) → Inv P hi cf ctx r σ s w e g tm →
    runS T (n + 1) (bindPs cf e i ps k) r a g s = .mk o g' s' →
    ∃ e1 g1, Inv P hi cf ctx r σ s w e1 g1 ((ps.zip vs).foldl (fun tm q => tm.setIfInBounds q.1 q.2) tm) ∧ runS T (n + 1) (k e1) r a g1 s = .mk o g' s'
  | [], [], i, e, g, tm, k, _, _, hI, h => ⟨e, g, hI, h⟩
  | [], _ :: _, i, e, g, tm, k, hl, _, hI, h => by cases hl
  | _ :: _, [], i, e, g, tm, k, hl, _, hI, h => by cases hl
  | t :: ps, v :: vs, i, e, g, tm, k, hl, ha, hI, h => by
    simp only [bindPs, runS_arg] at h
    obtain ⟨e1, g1, hI1, h⟩ := putT_run (cv := v) hI (by have := ha 0; simpa using this) h
    obtain ⟨e2, g2, hI2, h⟩ := bindPs_list hP ps vs (i + 1) (by simpa using hl) (fun j => by rw [show i + 1 + j = i + (j + 1) by omega]; have := ha (j + 1); simpa using this) hI1 h
    exact ⟨e2, g2, hI2, h⟩

/-- A round begins. -/
theorem go_beginRound {f : FuncId} {l : Nat} {q : Loop} (hl : w.heap[l]? = some (.loop q)) (hs : q.state = .ready) :
    step P (lone (frm ⟨f, some l⟩ tm df (.beginRound :: K)) cs w) = .next (lone (frm ⟨f, some l⟩ tm df K) cs (up w l (.loop { q with state := .busy }))) := by
  refine step_lone_go ?_
  have hrun : (do (some l : Option Nat).elim (stuck "beginRound: no round") Instr.beginRound; pure .skip : Sem Next).run P w = .ok .skip (up w l (.loop { q with state := .busy })) := by
    have : (Instr.beginRound l).run P w = .ok () (up w l (.loop { q with state := .busy })) := by
      unfold Instr.beginRound
      simp only [Sem.run_bind, run_getLoop hl, Result.andThen_ok, run_setObj_loop hl, hs, Sem.run_pure]
    show ((Instr.beginRound l) >>= fun _ => pure Next.skip : Sem Next).run P w = _
    simp only [Sem.run_bind, this, Result.andThen_ok, Sem.run_pure]
  have : (stepG P true { frame := frm ⟨f, some l⟩ tm df (.beginRound :: K), callers := cs, status := .running, dying := none } w) =
      stepG.apply P true (frm ⟨f, some l⟩ tm df (.beginRound :: K)) cs none (do (some l : Option Nat).elim (stuck "beginRound: no round") Instr.beginRound; pure .skip) w := by
    simp only [stepG, stepG.exec, frm]
  rw [this]
  simp only [stepG.apply, Sem.runT_eq, if_true, hrun, GStep.bare_after]
  rfl

/-- A round leaves. -/
theorem go_leave {f : FuncId} {l : Nat} {q : Loop} {d : Frame} (hl : w.heap[l]? = some (.loop q)) {todo : List Item} {jump : Option Code}
    (ht : (todo = [] ∧ jump = none) ∨ (∃ k, todo = .code .ret :: k ∧ jump = some .ret) ∨ ∃ id k, todo = .code (.exit id) :: k ∧ exitTo id k = none ∧ jump = some (.exit id)) :
    step P (lone (frm ⟨f, some l⟩ tm df todo) (d :: cs) w) = .next (lone (d.finish (.bool jump.isNone)) cs (up w l (.loop { q with state := if jump.isNone then .ready else .done, pending := jump }))) := by
  refine step_lone_go ?_
  have hrun : (Instr.endRound l jump).run P w = .ok (.bool jump.isNone) (up w l (.loop { q with state := if jump.isNone then .ready else .done, pending := jump })) := by
    unfold Instr.endRound
    simp only [Sem.run_bind, run_getLoop hl, Result.andThen_ok, run_setObj_loop hl, Sem.run_pure]
  rcases ht with ⟨rfl, rfl⟩ | ⟨k, rfl, rfl⟩ | ⟨id, k, rfl, he, rfl⟩
  · simp [stepG, stepG.exec, frm, hrun, doReturn]
  · simp [stepG, stepG.exec, frm, hrun, doReturn]
  · simp [stepG, stepG.exec, frm, hrun, doReturn, he]

theorem Told.fall_list (hTold : ∀ cd, Told P T n cd) : ∀ cd, Told P T n cd := hTold

/-- A round, from its call to its answer. -/
theorem round_ok (hT : PrimUp T) (hTold : ∀ cd, Told P T n cd) {l : Pos} {vs : List Value} (hR : Rel P σ s w) (hG : GlobOK P σ s.nx.num) (hlv : σ.live l) (ha : RVs σ s.nx.num a vs) {v : AV} {s1 : St}
    (h : callY (runS T n) l a s = .mk v s1) (hf : Fresh σ s.nx.num s1.nx.num) {y : Array Value} : Does P (invoke (.fn (.yield (σ.blk l)) y) vs.toArray) w (After P σ s w v s1) := by
  obtain ⟨hh, nx, j, g, x, rfl, hget, h⟩ := callY_mk h
  obtain ⟨o, g2, hh2, nx2, j2, g3, b3, hm, hget2, hend⟩ := endY_mk h
  cases n with
  | zero => cases hm
  | succ n =>
  obtain ⟨_, q, hq, hst, hpend, cf, e, hP, henv, hgok, hnt, hbl⟩ := hR.obj l _ hget
  injection hbl with hlen hx
  have hnx : nx2 = s1.nx := by
    rcases hend with ⟨_, _, rfl⟩ | ⟨_, _, rfl⟩ | ⟨_, _, _, rfl⟩ <;> rfl
  let tm0 : Array Value := (q.params.toList.zip vs).foldl (fun tm p => tm.setIfInBounds p.1 p.2) q.tmps
  have hvl : vs.length = a.length := RVs_length ha
  have hyield : (invoke (.fn (.yield (σ.blk l)) y) vs.toArray).run P w = .ok (.round (σ.blk l) q.fn tm0 q.assign q.body) w := by
    have hz : (q.params.zip vs.toArray).foldl (fun tm p => tm.setIfInBounds p.1 p.2) q.tmps = tm0 := by
      rw [← Array.foldl_toList, Array.toList_zip]
    show (Instr.yield (σ.blk l) vs.toArray).run P w = _
    unfold Instr.yield
    have hsz : ¬ (vs.toArray.size ≠ q.params.size) := by simp; omega
    simp only [Sem.run_bind, run_getLoop hq, Result.andThen_ok, hsz, if_false, Sem.run_pure]
    rw [← hz]
  refine Does.round hyield fun d cs => ?_
  let ctx : Ctx := ⟨q.fn, some (σ.blk l)⟩
  have hup : nx.num ≤ nx2.num := runS_up hT _ _ _ _ _ _ _ _ _ hm
  have hI : Inv P nx2.num cf ctx (some l) σ (.mk hh nx) w e g q.tmps := ⟨hR, henv, hgok, hnt, hG, ⟨hlv, rfl⟩, by rw [hnx]; exact hf⟩
  rw [hx] at hm
  obtain ⟨e1, g1, hI1, hm⟩ := bindPs_list hP q.params.toList vs 0 (by simp; omega) (fun i => by rw [Nat.zero_add]; exact getAv_rv ha i) hI hm
  have hround : Frame.round (σ.blk l) q.fn tm0 q.assign q.body .normal = frm ctx tm0 ([].map mkD) [.code q.assign, .beginRound, .code q.body] := rfl
  rw [hround]
  have hmk0 : Marks w.heap.size w [] := ⟨List.nodup_nil, fun b hb => by cases hb⟩
  -- how the round's code ends: at a place where it leaves
  have ends : ∃ (σ1 : Sg) (w1 : World) (tm1 : Array Value) (df1 : List Deferred) (todo : List Item) (jump : Option Code), Steps P (lone (frm ctx tm0 ([].map mkD) [.code q.assign, .beginRound, .code q.body]) (d :: cs) w) (lone (frm ctx tm1 df1 todo) (d :: cs) w1) ∧
      jump = jmp o ∧ ((todo = [] ∧ jump = none) ∨ (∃ k, todo = .code .ret :: k ∧ jump = some .ret) ∨ ∃ id k, todo = .code (.exit id) :: k ∧ exitTo id k = none ∧ jump = some (.exit id)) ∧
      Rel P σ1 (.mk hh2 nx2) w1 ∧ Goes σ (.mk hh nx) w σ1 (.mk hh2 nx2) w1 := by
    have jumped : ∀ {jc : Code} {pre rest : List Item}, jmp o = some jc → Thru o pre → (∀ id, o = .exit id → exitTo id rest = none) →
        ((Item.code jc :: (pre ++ rest) = [] ∧ jmp o = none) ∨ (∃ k, Item.code jc :: (pre ++ rest) = .code .ret :: k ∧ jmp o = some .ret) ∨ ∃ id k, Item.code jc :: (pre ++ rest) = .code (.exit id) :: k ∧ exitTo id k = none ∧ jmp o = some (.exit id)) := by
      intro jc pre rest hj ht hr
      cases o with
      | fall => cases hj
      | ret => cases hj; exact .inr (.inl ⟨_, rfl, rfl⟩)
      | exit id => cases hj; exact .inr (.inr ⟨id, _, rfl, by rw [ht id rfl]; exact hr id rfl, rfl⟩)
    rcases hTold q.assign nx2.num w.heap.size cf ctx (some l) a σ _ w e1 g1 tm0 [] [.beginRound, .code q.body] (d :: cs) _ o g2 _ (Nat.le_refl _) hP hI1 hmk0 (Nat.le_refl _) hm with
      ⟨e2, g4, s2, σ2, w2, tm2, bs2, h1, h2, h3, h4, _, h6⟩ | ⟨jc, σ2, w2, tm2, bs2, pre, h0, h1, h2, h3, _, h5, _⟩
    · rw [runS_brnd] at h6
      obtain ⟨l', hh3, nx3, j3, g5, b5, hl', rfl, hget3, h6⟩ := beginR_mk h6
      cases hl'
      obtain ⟨_, q2, hq2, hst2, hpd2, hrest2⟩ := h2.rel.obj l _ hget3
      have hblk : σ2.blk l = σ.blk l := (h4.le.2 l hlv).2.1
      have hbeg := go_beginRound (P := P) (f := q.fn) (tm := tm2) (df := bs2.map mkD) (K := [.code q.body]) (cs := d :: cs) (l := σ.blk l) (by rw [← hblk]; exact hq2) hst2
      have hput := Rel.put h2.rel hget3 (x := .loop { q2 with state := .busy }) (o' := .loop .busy j3 g5 b5) ⟨{ q2 with state := .busy }, up_same (h2.rel.lt hget3), rfl, hpd2, hrest2⟩
      have hgput := Goes.put (σ := σ2) (s := .mk hh3 nx3) (w := w2) (o' := .loop .busy j3 g5 b5) hget3 rfl (.loop { q2 with state := .busy })
      rw [hblk] at hput hgput
      have hm2 := h3.goes h2.rel hgput
      rcases hTold q.body nx2.num w.heap.size cf ctx (some l) a σ2 _ _ e2 g4 tm2 bs2 [] (d :: cs) _ o g2 _ (Nat.le_refl _) hP (h2.goes hput hgput) hm2 (Nat.le_trans h4.size hgput.size) h6 with
        ⟨e3, g6, s3, σ3, w3, tm3, bs3, k1, k2, k3, k4, _, k6⟩ | ⟨jc, σ3, w3, tm3, bs3, pre, k0, k1, k2, k3, _, k5, _⟩
      · rw [runS_fall] at k6
        cases k6
        exact ⟨σ3, w3, tm3, _, [], none, h1.trans (.head hbeg k1), rfl, .inl ⟨rfl, rfl⟩, k2.rel, (h4.trans hgput).trans k4⟩
      · exact ⟨σ3, w3, tm3, _, _, _, h1.trans (.head hbeg k1), rfl, jumped k0 k2 (fun id _ => rfl), k3.rel, (h4.trans hgput).trans k5⟩
    · exact ⟨σ2, w2, tm2, _, _, _, h1, rfl, jumped h0 h2 (fun id _ => rfl), h3.rel, h5⟩
  obtain ⟨σ1, w1, tm1, df1, todo, jump, hsteps, hjmp, htodo, hrel, hgo⟩ := ends
  obtain ⟨_, q1, hq1, hst1, hpd1, hrest1⟩ := hrel.obj l _ hget2
  have hblk : σ1.blk l = σ.blk l := (hgo.le.2 l hlv).2.1
  have hleave := go_leave (P := P) (f := q.fn) (tm := tm1) (df := df1) (cs := cs) (d := d) (l := σ.blk l) (by rw [← hblk]; exact hq1) htodo
  have fin : ∀ (st : LSt) (jj : Jump), lst st = (if jump.isNone then LoopState.ready else .done) → jcode jj = jump →
      Rel P σ1 (.mk (PT.set (some (.loop st jj g3 b3)) l hh2) nx2) (up w1 (σ.blk l) (.loop { q1 with state := if jump.isNone then .ready else .done, pending := jump })) ∧
      Goes σ (.mk hh nx) w σ1 (.mk (PT.set (some (.loop st jj g3 b3)) l hh2) nx2) (up w1 (σ.blk l) (.loop { q1 with state := if jump.isNone then .ready else .done, pending := jump })) := by
    intro st jj h1 h2
    have hput := Rel.put hrel hget2 (x := .loop { q1 with state := if jump.isNone then .ready else .done, pending := jump }) (o' := .loop st jj g3 b3) ⟨_, up_same (hrel.lt hget2), h1.symm, h2.symm, hrest1⟩
    have hgput := Goes.put (σ := σ1) (s := .mk hh2 nx2) (w := w1) (o' := .loop st jj g3 b3) hget2 rfl (.loop { q1 with state := if jump.isNone then .ready else .done, pending := jump })
    rw [hblk] at hput hgput
    exact ⟨hput, hgo.trans hgput⟩
  refine ⟨.bool jump.isNone, _, hsteps.trans (.one hleave), σ1, ?_⟩
  rcases hend with ⟨rfl, rfl, rfl⟩ | ⟨rfl, rfl, rfl⟩ | ⟨id, rfl, rfl, rfl⟩
  · have hj : jump = none := hjmp
    subst hj
    obtain ⟨f1, f2⟩ := fin .ready .none rfl rfl
    exact ⟨by simp [RV], f1, f2⟩
  · have hj : jump = some .ret := hjmp
    subst hj
    obtain ⟨f1, f2⟩ := fin .done .ret rfl rfl
    exact ⟨by simp [RV], f1, f2⟩
  · have hj : jump = some (.exit id) := hjmp
    subst hj
    obtain ⟨f1, f2⟩ := fin .done (.exit id) rfl rfl
    exact ⟨by simp [RV], f1, f2⟩


theorem callF_ok (hTb : TableOK P T) (hTold : ∀ cd, Told P T n cd) {f : Pos} {avs : List Value} (hR : Rel P σ s w) (hG : GlobOK P σ s.nx.num) (ha : RVs σ s.nx.num a avs) {v : AV} {s1 : St}
    (h : callF T (runS T n) f a s = .mk v s1) (hf : Fresh σ s.nx.num s1.nx.num) : Does P (callFunc (f.num - 1) avs.toArray) w (After P σ s w v s1) := by
  rcases callF_mk h with ⟨b, res, hb, hr⟩ | ⟨p, hp, hr⟩
  · have hB := hTb.body f b res hb
    have hcalls := body_ok hTold hB hR hG ha hr hf
    obtain ⟨fn, code, cf, h1, h2, h3, _⟩ := hB
    exact Does.enter (run_callFunc_body h1 h2 h3 _) hcalls
  · exact hTb.prim f p hp σ s w a avs v s1 hR hG ha hr hf

theorem Does.congr {sem sem' : Sem Next} {R : Value → World → Prop} (e : sem' = sem) (h : Does P sem w R) : Does P sem' w R := e ▸ h

theorem callVs_of (hTb : TableOK P T) (hTold : ∀ cd, Told P T n cd) : CallVs P T n := by
  intro σ s w x fv as avs v s1 hR hG hx ha h hf
  unfold callV at h
  cases x <;> try (cases h; done)
  rename_i f p c
  simp only [RV] at hx
  obtain ⟨fn, px, pc, rfl, hfn, hp, hc⟩ := hx
  cases f with
  | fn q =>
    have hfn' : fn = .func (q.num - 1) := hfn
    subst hfn'
    have hargs : RVs σ s.nx.num (p ++ (as ++ c)) (px.toList ++ (avs ++ pc.toList)) := RVs_append hp (RVs_append ha hc)
    have := callF_ok hTb hTold hR hG hargs h hf
    have e : (px.toList ++ (avs ++ pc.toList)).toArray = (px ++ avs.toArray) ++ pc := by
      apply Array.toList_inj.1
      simp
    rw [e] at this
    exact this
  | yd l =>
    obtain ⟨hlv, hfn'⟩ : σ.live l ∧ fn = .yield (σ.blk l) := hfn
    subst hfn'
    have hargs : RVs σ s.nx.num (p ++ as) (px.toList ++ avs) := RVs_append hp ha
    have := round_ok hTb.up hTold hR hG hlv hargs h hf (y := pc)
    have e : (px.toList ++ avs).toArray = px ++ avs.toArray := by
      apply Array.toList_inj.1
      simp
    rw [e] at this
    exact this

/-- Every piece of code is told, at every fuel. -/
theorem all_told (hTb : TableOK P T) (hD : ∀ n, Draws P T n) : ∀ n, (∀ cd, Told P T n cd) ∧ ∀ x, Looped P T n x
  | 0 => ⟨told_zero, looped_zero⟩
  | n + 1 => by
    obtain ⟨ih1, ih2⟩ := all_told hTb hD n
    have hC := callVs_of hTb ih1
    have hT := hTb.up
    have key : ∀ cd, Told P T (n + 1) cd ∧ Looped P T (n + 1) cd := by
      intro cd
      have lp : Told P T (n + 1) cd → Told P T (n + 1) cd ∧ Looped P T (n + 1) cd := fun h => ⟨h, looped_succ hT h (ih2 cd)⟩
      induction cd with
      | skip => exact lp told_skip
      | label l => exact lp told_label
      | region id ops draw => exact lp (told_region hT hC (hD n))
      | seq x y hx hy => exact lp (told_seq hT (hx fun h => ⟨h, looped_succ hT h (ih2 x)⟩).1 (hy fun h => ⟨h, looped_succ hT h (ih2 y)⟩).1)
      | cond c x y hx hy => exact lp (told_cond hT (hx fun h => ⟨h, looped_succ hT h (ih2 x)⟩).1 (hy fun h => ⟨h, looped_succ hT h (ih2 y)⟩).1)
      | block id x hx => exact lp (told_block hT (hx fun h => ⟨h, looped_succ hT h (ih2 x)⟩).1)
      | loop x hx => exact lp (told_loop hT (hx fun h => ⟨h, looped_succ hT h (ih2 x)⟩).2)
      | scope x hx => exact lp (told_scope (hx fun h => ⟨h, looped_succ hT h (ih2 x)⟩).1)
      | rangeFunc f ps x y _ _ => exact lp (told_range hT hC)
      | exit id => exact lp told_exit
      | ret => exact lp told_ret
      | goto l => exact lp (by
          intro hi lo cf ctx r a σ s w e g tm bs K cs kS o g' s' hle hP hI hm hlo h
          simp only [toH] at h; rw [runS_bad] at h; cases h)
      | refuse why => exact lp (by
          intro hi lo cf ctx r a σ s w e g tm bs K cs kS o g' s' hle hP hI hm hlo h
          simp only [toH] at h; rw [runS_bad] at h; cases h)
    exact ⟨fun cd => (key cd).1, fun cd => (key cd).2⟩

/-- A function called from without: what the evaluator says of it is so. -/
theorem call_ok (hTb : TableOK P T) (hD : ∀ n, Draws P T n) {f : Pos} {b : S} {res : List ResD} (hb : PT.get T f = some (.body b res)) {avs : List Value} (hR : Rel P σ s w) (hG : GlobOK P σ s.nx.num) (ha : RVs σ s.nx.num a avs) {v : AV} {s1 : St}
    (h : call T n f a s = .mk v s1) (hf : Fresh σ s.nx.num s1.nx.num) : Calls P (f.num - 1) avs.toArray w fun e w' => ∃ cv, e = .returned cv ∧ After P σ s w v s1 cv w' := by
  unfold call at h
  rcases callF_mk h with ⟨b', res', hb', hr⟩ | ⟨p, hp, hr⟩
  · rw [hb] at hb'
    cases hb'
    exact body_ok (all_told hTb hD n).1 (hTb.body f b res hb) hR hG ha hr hf
  · rw [hb] at hp; cases hp

end Go.Ev

/- Functions without a body. -/
namespace Go.Ev

variable {hi lo : Nat} {P : Program} {T : PT FnE} {n : Nat} {σ : Sg} {s : St} {w : World}

theorem run_callFunc_ext {f : FuncId} {fn : Func} {x : Array Value → Sem Value} (h : P.funcs[f]? = some fn) (hn : (fn.name == "runtime.NumGoroutine") = false) (hb : fn.body.isNone = true)
    (hx : Extern.findNext fn = none) (he : Extern.find fn = some x) (args : Array Value) : (callFunc f args).run P w = ((x args).run P w).andThen fun v w => .ok (.value v) w := by
  unfold callFunc
  simp only [Sem.run_bind, run_program, Result.andThen_ok, h, hn, hb, Bool.false_eq_true, if_false, if_true, run_mark, hx, he, Sem.run_pure]

/-- A function without a body, from what its row does. -/
theorem PrimOK.of_fine {f : FuncId} {fn : Func} {x : Array Value → Sem Value} {p : List AV → St → CR} (h : P.funcs[f]? = some fn) (hn : (fn.name == "runtime.NumGoroutine") = false) (hb : fn.body.isNone = true)
    (hx : Extern.findNext fn = none) (he : Extern.find fn = some x)
    (hfine : ∀ (σ : Sg) (s : St) (w : World) (as : List AV) (avs : List Value), Rel P σ s w → RVs σ s.nx.num as avs → ∃ r : OR, p as s = ofOR r s ∧ Fine P σ s w r (x avs.toArray)) : PrimOK P f p := by
  intro σ s w as avs v s1 hR hG ha hp hf
  obtain ⟨r, hr, hfi⟩ := hfine σ s w as avs hR ha
  rw [hr] at hp
  have hout : r.out s = some (v, s1) := by
    cases r with
    | fail => cases hp
    | val u => cases hp; rfl
    | st u t => cases hp; rfl
  obtain ⟨cv, σ', w', h1, h2, h3, h4⟩ := hfi v s1 hout hf
  exact Does.value (by rw [run_callFunc_ext h hn hb hx he, h1]; rfl) ⟨σ', h2, h3, h4⟩

theorem primSame_fine {as : List AV} {avs : List Value} (hR : Rel P σ s w) (ha : RVs σ s.nx.num as avs) : ∃ r : OR, primSame as s = ofOR r s ∧ Fine P σ s w r (Extern.AbiNoEscape.same avs.toArray) := by
  match as, ha with
  | [x], ha =>
    obtain ⟨v, rfl⟩ : ∃ v, avs = [v] := by
      match avs, RVs_length ha with
      | [v], _ => exact ⟨v, rfl⟩
    exact ⟨.val x, rfl, Fine.val hR (cv := v) rfl (RVs_cons.1 ha).1⟩
  | [], ha => exact ⟨.fail, rfl, Fine.fail⟩
  | _ :: _ :: _, ha => exact ⟨.fail, rfl, Fine.fail⟩

theorem idxB_eq (c : UInt8) : ∀ (l : List UInt8) (i : Nat), idxB c.toNat i (l.map UInt8.toNat) = match l.findIdx? (· == c) with | some j => Int.ofNat (i + j) | none => .negSucc 0
  | [], i => rfl
  | b :: l, i => by
    simp only [List.map_cons, idxB, List.findIdx?_cons]
    by_cases hb : b = c
    · subst hb
      simp
    · have h1 : Nat.beq b.toNat c.toNat = false := by
        cases h : Nat.beq b.toNat c.toNat with
        | false => rfl
        | true => exact absurd (UInt8.toNat_inj.1 (Nat.eq_of_beq_eq_true h)) hb
      have h2 : (b == c) = false := by simpa using hb
      rw [h1, h2]
      simp only [Bool.false_eq_true, if_false]
      rw [idxB_eq c l (Nat.succ i)]
      cases l.findIdx? (· == c) with
      | none => rfl
      | some j => simp only [Option.map_some]; congr 1; omega

theorem find_range' (b : ByteArray) (c : UInt8) : ∀ (l : List UInt8) (k : Nat), (∀ i, i < l.length → b[k + i]! = l[i]!) → (List.range' k l.length).find? (fun i => b[i]! == c) = (l.findIdx? (· == c)).map (k + ·)
  | [], k, _ => rfl
  | x :: l, k, h => by
    have h0 : b[k]! = x := by simpa using h 0 (by simp)
    rw [List.length_cons, List.range'_succ, List.find?_cons, List.findIdx?_cons, h0]
    cases hx : x == c with
    | true => simp
    | false =>
      simp only [Bool.false_eq_true, if_false]
      rw [find_range' b c l (k + 1) (fun i hi => by
        have := h (i + 1) (by simp; omega)
        rw [show k + 1 + i = k + (i + 1) by omega, this]
        simp)]
      cases l.findIdx? (· == c) with
      | none => rfl
      | some j => simp only [Option.map_some]; congr 1; omega

theorem find_range (b : ByteArray) (c : UInt8) : (List.range b.size).find? (fun i => b[i]! == c) = b.data.toList.findIdx? (· == c) := by
  have hl : b.data.toList.length = b.size := by rw [Array.length_toList]; rfl
  have := find_range' b c b.data.toList 0 (fun i hi => by
    have hi' : i < b.size := by omega
    have hi2 : i < b.data.size := hi'
    rw [Nat.zero_add, getElem!_pos b i hi', getElem!_pos b.data.toList i hi]
    simp
    rfl)
  rw [List.range_eq_range']
  rw [hl] at this
  rw [this]
  cases b.data.toList.findIdx? (· == c) <;> simp

theorem primIndexByte_fine {as : List AV} {avs : List Value} (hR : Rel P σ s w) (ha : RVs σ s.nx.num as avs) : ∃ r : OR, primIndexByte as s = ofOR r s ∧ Fine P σ s w r (Extern.BytealgIndexByte.indexByte avs.toArray) := by
  by_cases hs : ∃ m l c, as = [.str m l, .int .u8 (.ofNat c)] ∧ Nat.blt c 256 = true
  · obtain ⟨m, l, c, rfl, hc⟩ := hs
    obtain ⟨v, u, rfl⟩ : ∃ v u, avs = [v, u] := by
      match avs, RVs_length ha with
      | [v, u], _ => exact ⟨v, u, rfl⟩
    rw [RVs_cons, RVs_cons] at ha
    obtain ⟨h1, h2, -⟩ := ha
    simp only [RV] at h1 h2
    obtain ⟨b, rfl, _, rfl⟩ := h1
    subst h2
    refine ⟨.val (.int .i64 (idxB c 0 (bytesL b))), by simp only [primIndexByte, hc, ofOR], Fine.val hR (cv := .int .i64 (idxB c 0 (bytesL b))) ?_ (by simp [RV])⟩
    rw [blt_eq] at hc
    have hcc : c = (c.toUInt8).toNat := by simp; omega
    have hidx : idxB c 0 (bytesL b) = match b.data.toList.findIdx? (· == c.toUInt8) with | some j => Int.ofNat j | none => .negSucc 0 := by
      conv => lhs; rw [hcc]
      rw [show bytesL b = b.data.toList.map UInt8.toNat from rfl, idxB_eq]
      cases b.data.toList.findIdx? (· == c.toUInt8) <;> simp
    rw [hidx]
    show Sem.run P (match (List.range b.size).find? fun i => b[i]! == c.toUInt8 with | some i => pure (goInt i) | none => pure (goInt (-1)) : Sem Value) w = _
    rw [find_range]
    cases b.data.toList.findIdx? (· == c.toUInt8) with
    | none => rfl
    | some j => rfl
  · refine ⟨.fail, ?_, Fine.fail⟩
    unfold primIndexByte
    split
    · rename_i m l c
      split
      · rename_i hc; exact absurd ⟨m, l, c, rfl, hc⟩ hs
      · rfl
    · rfl

theorem anys_length : ∀ n, (anys n).length = n
  | 0 => rfl
  | n + 1 => by rw [anys, List.length_cons, anys_length n]
theorem anys_get : ∀ (n i : Nat) (x : AV), (anys n)[i]? = some x → x = .any
  | 0, i, x, h => by simp [anys] at h
  | n + 1, 0, x, h => by simp [anys] at h; exact h.symm
  | n + 1, i + 1, x, h => anys_get n i x (by simpa [anys] using h)
theorem digits_size : ∀ (n t : Nat) (acc : Array Value), (Extern.BytealgMakeNoZero.digits n t acc).size = acc.size + n
  | 0, t, acc => rfl
  | n + 1, t, acc => by rw [Extern.BytealgMakeNoZero.digits, digits_size n, Array.size_push]; omega

theorem primNoZero_fine {ps rs : Array TypeId} {t el : TypeId} (h0 : rs[0]? = some t) (hu : P.underlying t = some (.slice el)) {as : List AV} {avs : List Value} (hR : Rel P σ s w) (ha : RVs σ s.nx.num as avs) :
    ∃ r : OR, primNoZero el as s = ofOR r s ∧ Fine P σ s w r (Extern.BytealgMakeNoZero.makeNoZero ps rs avs.toArray) := by
  by_cases hs : ∃ n, as = [.int .i64 (.ofNat n)] ∧ Nat.ble n 1048576 = true
  · obtain ⟨n, rfl, hn⟩ := hs
    obtain ⟨u, rfl⟩ : ∃ u, avs = [u] := by
      match avs, RVs_length ha with
      | [u], _ => exact ⟨u, rfl⟩
    rw [RVs_cons] at ha
    obtain ⟨h2, -⟩ := ha
    simp only [RV] at h2
    subst h2
    refine ⟨newCells el false (anys n) s fun p s' => .st (.slice p 0 n n false 1) s', by simp only [primNoZero, hn], ?_⟩
    rw [Nat.ble_eq] at hn
    rw [newCells_eq]
    refine Fine.new rfl fun hf => ?_
    obtain ⟨k, hk⟩ := cut_appendCap n 0 el (w.tape w.drawn (.appendCap n 0 el))
    let bytes : Nat := (Question.extern "internal/bytealg.MakeNoZero.bytes" 0).cut (w.tape (w.drawn + 1) (.extern "internal/bytealg.MakeNoZero.bytes" 0))
    let c : Array Value := Extern.BytealgMakeNoZero.digits (n + k) bytes #[]
    have hcs : c.size = n + k := by show (Extern.BytealgMakeNoZero.digits (n + k) bytes #[]).size = _; rw [digits_size]; simp
    obtain ⟨g1, g2⟩ := newCells_ok (el := el) (ex := false) (l := anys n) (c := c) (fz := (0, 0)) (hR.dr (w.drawn + 2)) hf
      (fun j a hj => by
        have hlt := (List.getElem?_eq_some_iff.1 hj).1
        rw [anys_length] at hlt
        have := anys_get _ _ _ hj
        subst this
        exact ⟨c[j]'(by omega), by simp [show j < c.size by omega], by simp [RV]⟩) (by rw [anys_length]; omega) (fun h => by cases h) (.inl rfl)
    refine Fine.st (cv := .slice (some ⟨w.heap.size, 0, none⟩) n (n + k)) ?_ ?_ g1 (Goes.trans (Goes.dr _) g2)
    · have q1 : ¬ (decide ((Int.ofNat n) < 0) || decide ((Int.ofNat n) > 2 ^ 48)) = true := by simp; omega
      have hch1 : (choose (.appendCap n 0 el)).run P w = .ok (n + k) (dr w (w.drawn + 1)) := by rw [run_choose, ← hk]; rfl
      have hch2 : (choose (.extern "internal/bytealg.MakeNoZero.bytes" 0)).run P (dr w (w.drawn + 1)) = .ok bytes (dr w (w.drawn + 2)) := by rw [run_choose]; rfl
      have heq : (Extern.BytealgMakeNoZero.makeNoZero ps rs #[.int .i64 (Int.ofNat n)]) = (do
          let .slice elem ← underlying t | stuck "bytealg.MakeNoZero: slice type expected"
          if (Int.ofNat n) < 0 || (Int.ofNat n) > 2 ^ 48 then runtimePanic (.error "makeslice: len out of range")
          let cap ← choose (.appendCap (Int.ofNat n).toNat 0 elem)
          askRoom cap
          let bytes ← choose (.extern "internal/bytealg.MakeNoZero.bytes" 0)
          let a ← newRow elem (Extern.BytealgMakeNoZero.digits cap bytes #[])
          pure (.slice (some a) (Int.ofNat n).toNat cap) : Sem Value) := by
        unfold Extern.BytealgMakeNoZero.makeNoZero
        rw [h0]
        rfl
      show (Extern.BytealgMakeNoZero.makeNoZero ps rs #[.int .i64 (Int.ofNat n)]).run P w = _
      rw [heq]
      have hn0 : (Int.ofNat n).toNat = n := rfl
      simp only [Sem.run_bind, run_underlying' hu, Result.andThen_ok, q1, if_false, Sem.run_pure, hn0, hch1, run_askRoom, hch2, run_newRow, Bool.false_eq_true]
      rfl
    · exact slice_new _ _ _ _ _ _ _ _ (nx_lt _) (Nat.le_refl _) (by omega) (fun h => by cases h) (fun _ => by rw [hcs]; omega)
  · refine ⟨.fail, ?_, Fine.fail⟩
    unfold primNoZero
    split
    · rename_i n
      split
      · rename_i hc; exact absurd ⟨n, rfl, hc⟩ hs
      · rfl
    · rfl

end Go.Ev

/- Classes of operations, for regions whose order is drawn. -/
namespace Go.Ev

variable {P : Program}

/-- Operations that do not look at memory. -/
def isV : ROp → Bool
  | .mv _ | .pick _ _ _ | .build _ _ | .nilck _ | .bin _ _ _ _ | .un _ _ | .conv _ _ | .mkfn _ _ _ | .sstr _ _ _ | .sslc _ _ _ _ _ | .sarr _ _ _ _ _ _ | .faddr _ _ | .field _ _ _ _ | .iarr _ _ _ _ | .islc _ _ _ | .ixarr _ _ _ _ _ | .ixstr _ _
  | .ext _ _ | .len _ _ | .lenc _ | .cap _ | .mn _ | .mx _ | .sdata _ => true
  | _ => false

theorem isV_same {x : ROp} (h : isV x = true) (s s' : St) : evOp x s = evOp x s' := by
  cases x <;> first | rfl | cases h

theorem isV_noSt {x : ROp} (h : isV x = true) (s : St) : NoSt (evOp x s) := ⟨fun u t ht => by
  have h1 : evOp x (.mk .lf t.nx.succ) = .st u t := by rw [isV_same h _ s]; exact ht
  have h2 := (evOp_up x (.mk .lf t.nx.succ)).out u t (by rw [h1]; rfl)
  rw [mk_nx, Pos.num_succ] at h2
  omega⟩

/-- Operations that make one new block and do nothing else. -/
def isA : ROp → Bool
  | .alloc _ _ | .box _ _ | .bslice _ _ _ _ _ | .mkslice _ _ _ _ _ _ | .mkmap | .s2b _ _ => true
  | _ => false

def NewForm (f : St → OR) : Prop := (∀ s, f s = .fail) ∨ ∃ (ob : AObj) (vf : Pos → AV), ∀ s, f s = .st (vf s.nx) (.mk (PT.set (some ob) s.nx s.heap) s.nx.succ)

theorem newForm_cells (el : Nat) (ex : Bool) (l : List AV) (vf : Pos → AV) : NewForm fun s => newCells el ex l s fun p s' => .st (vf p) s' := .inr ⟨_, vf, fun s => newCells_eq _ _ _ _ _⟩
theorem newForm_fail : NewForm fun _ => .fail := .inl fun _ => rfl

theorem isA_form {x : ROp} (h : isA x = true) : NewForm (evOp x) := by
  cases x <;> try (cases h; done)
  case alloc z el => exact newForm_cells el true z fun p => .ptr p 0
  case box el x =>
    show NewForm fun s => doBox el x s
    unfold doBox
    cases known x with
    | false => exact newForm_fail
    | true => exact newForm_cells el true (cellsOf x) fun p => .ptr p 0
  case bslice el sz n z ps =>
    show NewForm fun s => doBslice el sz n z ps s
    unfold doBslice
    cases fillA (rep n z) (slots sz ps) with
    | none => exact newForm_fail
    | some l => exact newForm_cells el true l fun p => .slice p 0 n n true sz
  case s2b el x =>
    show NewForm fun s => doS2b el x s
    unfold doS2b
    cases x with
    | str n l => exact newForm_cells el false (strCells l) fun p => .slice p 0 n n false 1
    | _ => exact newForm_fail
  case mkmap => exact .inr ⟨.map [], fun p => .map p, fun s => by cases s; rfl⟩
  case mkslice el sz by' z l c =>
    show NewForm fun s => doMkslice el sz by' z l c s
    unfold doMkslice
    split
    · split
      · split
        · exact newForm_cells el true _ fun p => .slice p 0 _ _ true sz
        · exact newForm_fail
      · exact newForm_fail
    · exact newForm_fail

theorem isV_slice {t : TypeId} {x : AV} {lo hi mx : Option AV} {ro : ROp} (h : mkSlice P t x lo hi mx = some ro) : isV ro = true := by
  unfold mkSlice at h
  split at h
  · split at h
    · cases h; rfl
    · cases h
  · split at h
    · cases h; rfl
    · cases h
  · split at h
    · cases h; rfl
    · cases h
  · cases h

theorem conv_cls {a b : TypeId} {x : Operand} {y : AV} {ro : ROp} (h : mkConv P a b y = some ro) : (clsOf P (.convert a b x) = .v → isV ro = true) ∧ (clsOf P (.convert a b x) = .a → isA ro = true) := by
  unfold mkConv at h
  unfold clsOf
  split at h
  · rename_i h1 h2; cases h; simp [h1, h2, isV]
  · rename_i h1 h2
    simp only [h1, h2]
    exact ⟨fun h => by simp at h, fun h => by simp at h⟩
  · rename_i h1 h2
    split at h
    · split at h
      · cases h; simp [h1, h2, isA]
      · cases h
    · cases h
  · rename_i h1 h2; cases h; simp [h1, h2, isV]
  · rename_i h1 h2
    simp only [h1, h2]
    exact ⟨fun h => by simp at h, fun h => by simp at h⟩
  · rename_i h1 h2
    simp only [h1, h2]
    exact ⟨fun h => by simp at h, fun h => by simp at h⟩
  · rename_i h1 h2
    simp only [h1, h2]
    exact ⟨fun h => by simp at h, fun h => by simp at h⟩
  · cases h

theorem builtin_cls {b : Builtin} {args : Array Operand} {ats : Array TypeId} {vs : List AV} {ro : ROp} (h : mkBuiltin P b ats.toList vs = some ro) : (clsOf P (.call ⟨.builtin b, args, ats⟩) = .v → isV ro = true) ∧ (clsOf P (.call ⟨.builtin b, args, ats⟩) = .a → isA ro = true) := by
  have hd : ∀ {t : TypeId} {l : List TypeId}, ats.toList = t :: l → ats.getD 0 0 = t := fun {t l} h => by
    have : ats[0]? = some t := by rw [← Array.getElem?_toList, h]; rfl
    simp [Array.getD_eq_getD_getElem?, this]
  unfold mkBuiltin at h
  split at h
  case h_1 x t l heq =>
    have hd := hd heq
    simp only [clsOf, hd]
    split at h <;> rename_i hu
    · cases h; simp [hu, isV]
    · cases h; simp [hu, isV]
    · cases h; simp [hu]
    · cases h; simp [hu, isV]
    · split at h
      · cases h; simp [hu, isV]
      · cases h
    · cases h
  case h_2 =>
    simp only [clsOf]
    split at h <;> first | (cases h; exact ⟨fun _ => rfl, fun h => by simp at h⟩) | (cases h; done)
  case h_3 => simp [clsOf]
  case h_4 => simp [clsOf]
  case h_5 => simp [clsOf]
  case h_6 => simp [clsOf]
  case h_7 =>
    simp only [clsOf]
    split at h <;> first | (cases h; exact ⟨fun _ => rfl, fun h => by simp at h⟩) | (cases h; done)
  case h_8 =>
    simp only [clsOf]
    split at h <;> first | (cases h; exact ⟨fun _ => rfl, fun h => by simp at h⟩) | (cases h; done)
  case h_9 => simp [clsOf]
  case h_10 => simp [clsOf]
  case h_11 => cases h

theorem conv_not_l {a b : TypeId} {x : Operand} : clsOf P (.convert a b x) ≠ .l := by
  simp only [clsOf]; split <;> simp
theorem call_not_l {c : Call} : clsOf P (.call c) ≠ .l := by
  simp only [clsOf]; split
  · split <;> simp
  all_goals simp

/-- What an operation's class says of its abstract form. -/
theorem cls_ok {op : Op} {vs : List AV} {ro : ROp} (h : mkROp P op vs = some ro) : (clsOf P op = .v → isV ro = true) ∧ (clsOf P op = .a → isA ro = true) ∧
    (clsOf P op = .l → ∃ t x ag n y, op = .load t x ∧ aggOf P t = some (ag, n) ∧ vs = [y] ∧ ro = .load ag n y) := by
  unfold mkROp at h
  split at h
  all_goals try (cases h; simp [clsOf, isV, isA]; done)
  all_goals try (exact ⟨fun hc => (conv_cls h).1 hc, fun hc => (conv_cls h).2 hc, fun hc => absurd hc conv_not_l⟩)
  all_goals try (exact ⟨fun _ => isV_slice h, fun hc => by simp [clsOf] at hc, fun hc => by simp [clsOf] at hc⟩)
  all_goals try (repeat' split at h)
  all_goals try (cases h; done)
  all_goals try (cases h; simp [clsOf, isV, isA]; done)
  · rename_i hag
    cases h
    exact ⟨fun hc => by simp [clsOf] at hc, fun hc => by simp [clsOf] at hc, fun _ => ⟨_, _, _, _, _, rfl, hag, rfl, rfl⟩⟩
  · rename_i c _ b hc
    obtain ⟨callee, args, ats⟩ := c
    simp only at hc h
    subst hc
    obtain ⟨h1, h2⟩ := builtin_cls (args := args) h
    exact ⟨h1, h2, fun hc => absurd hc call_not_l⟩

end Go.Ev
