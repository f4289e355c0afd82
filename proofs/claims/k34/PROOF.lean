import PyProof.Rows.All
import Wide.All
import OpenK.AllK
import Wide.FinOn
import HandS.SortInts
import KE.SortData
import HandS.ForMost
import HandS.TupMul
import HandS.TupAny
import HandS.Style
import HandS.Zip
import HandS.IsInst
import HandS.Defaults
import HandS.Exc
import HandS.Deep
import KE.DataMinMax
import HandS.SortKw
import HandS.ExcOwn
import HandS.ExcValue
import HandS.CallSlots
import HandS.WordsExc
import KE.GoesEnum
import KE.KUnpackStar
import HandS.SetBool
import HandS.Strs
import HandS.Flow
import HandS.DictComp
import HandS.Conv
import HandS.SetFor
import HandS.Remove
import PySem.Challenge.RW_handsmade_k34_whole_copied_out
set_option Elab.async false
set_option linter.all false
set_option maxRecDepth 100000
/-! X1: sorting rows that can be compared up to the first place that differs. -/
namespace Z
open PySem PySem.W PySem.Calls PyProof.Rows
def preAll : List PyData → List PyData → Bool
  | x :: xs, y :: ys => PySem.W.alike x y && (!PyData.eqv x y || preAll xs ys)
  | [], _ => true
  | _ :: _, [] => true
def AllPre (ds : List PyData) : Prop := ∀ d ∈ ds, ∀ d' ∈ ds, ∃ x r y t, d = .tuple (x :: r) ∧ d' = .tuple (y :: t) ∧ preAll (x :: r) (y :: t) = true
/-- how a comparison of two rows goes -/
inductive Goes : List PyData → List PyData → Prop
  | short (ys) : Goes [] ys
  | long (x xs) : Goes (x :: xs) []
  | parts {x y} (xs ys) : PySem.W.alike x y = true → PyData.eqv x y = false → Goes (x :: xs) (y :: ys)
  | on {x y xs ys} : PySem.W.alike x y = true → PyData.eqv x y = true → Goes xs ys → Goes (x :: xs) (y :: ys)
theorem goes_of : ∀ {xs ys : List PyData}, preAll xs ys = true → Goes xs ys
  | [], _, _ => .short _
  | _ :: _, [], _ => .long _ _
  | x :: xs, y :: ys, h => by
    simp only [preAll, Bool.and_eq_true, Bool.or_eq_true, Bool.not_eq_true'] at h
    cases hxy : PyData.eqv x y with
    | false => exact .parts _ _ h.1 hxy
    | true => exact .on h.1 hxy (goes_of (h.2.resolve_left (by simp [hxy])))
/-- two rows that the same values read as are one -/
theorem Goes.one {h : Heap} {xs ys : List PyData} (g : Goes xs ys) : ∀ {vs : List Value} {as bs : List Addr}, ReadsAll h vs xs as → ReadsAll h vs ys bs → xs = ys := by
  induction g with
  | short ys => intro vs as bs r q; cases r; cases q; rfl
  | long x xs => intro vs as bs r q; cases q; cases r
  | parts xs ys ha hn =>
    intro vs as bs r q
    cases r with | cons r1 _ => cases q with | cons q1 _ =>
    cases PySem.W.alike_unique _ _ _ _ _ ha r1 q1
    rw [PySem.W.eqv_refl_alike _ ha] at hn; cases hn
  | on ha _ _ ih =>
    intro vs as bs r q
    cases r with | cons r1 r2 => cases q with | cons q1 q2 =>
    cases PySem.W.alike_unique _ _ _ _ _ ha r1 q1
    rw [ih r2 q2]
theorem Goes.alike {xs : List PyData} (g : Goes xs xs) : PySem.W.alikeAll xs xs = true := by
  induction xs with
  | nil => simp [PySem.W.alikeAll]
  | cons x xs ih =>
    cases g with
    | parts _ _ ha hn => rw [PySem.W.eqv_refl_alike x ha] at hn; cases hn
    | on ha _ g' => simp [PySem.W.alikeAll, ha, ih g']
theorem lt_short (ys : List PyData) : PyProof.Rows.lexLt itemOrd (keyToksAll []) (keyToksAll ys) = decide (0 < ys.length) := by
  cases ys with
  | nil => simp [lex_irrefl]
  | cons y ys =>
    rw [show decide (0 < (y :: ys).length) = true from rfl, toks_all_cons, keyToksAll]
    refine (lex_diff (O := itemOrd) (fun z => by cases z)).trans ?_
    simp [itemLt]
theorem lt_long (x : PyData) (xs : List PyData) : PyProof.Rows.lexLt itemOrd (keyToksAll (x :: xs)) (keyToksAll []) = false := by
  rw [toks_all_cons, keyToksAll]
  refine (lex_diff (O := itemOrd) (fun z => by cases z)).trans ?_
  simp [itemLt]
section
variable {prog : Program} {w : World} {A : Around} {E : Value → Shared → Prop} {s : Shared}
theorem Goes.walk {b : Bool} {Q : Bool → Shared → Prop} {xs ys : List PyData} (g : Goes xs ys) : ∀ {i : Nat} {vs ws : List Value} {as bs : List Addr}, ReadsAll s.heap vs xs as → ReadsAll s.heap ws ys bs →
    A.units + min (PyData.depthAll xs) (PyData.depthAll ys) < cLine → (b = true → i = 0 → ∀ t, xs.head? ≠ some (.tuple t)) →
    Q (lexLt itemOrd (keyToksAll xs) (keyToksAll ys)) s → KatLex prog w A b (decide (xs.length < ys.length)) Q (vs.zip ws) i s := by
  induction g with
  | short ys =>
    intro i vs ws as bs r _ _ _ q
    cases r
    rw [lt_short] at q
    simpa using kat_nil (prog := prog) (w := w) (A := A) (b := b) (i := i) q
  | long x xs =>
    intro i vs ws as bs _ r _ _ q
    cases r
    rw [lt_long] at q
    simpa using kat_nil (prog := prog) (w := w) (A := A) (b := b) (i := i) q
  | parts xs ys ha hn =>
    intro i vs ws as bs r r' hu hb q
    cases r with | cons r1 _ => cases r' with | cons r1' _ =>
    rw [dataLt_all_no ha hn] at q
    have look := eqAt_alike _ _ A s _ _ _ _ r1 r1' ha (SeqAt.room_head hu)
    rw [hn] at look
    refine kat_cons (look prog w _ _ (kat_no (oneLt_alike (fun hi t e => ?_) r1 r1' ha (ne_none_of ha hn) (SeqAt.room_head hu) q)))
    obtain ⟨hi1, hi2⟩ := Bool.and_eq_true_iff.mp hi
    exact hb hi1 (eq_of_beq hi2) t (by rw [e]; rfl)
  | on ha he _ ih =>
    intro i vs ws as bs r r' hu hb q
    cases r with | cons r1 r2 => cases r' with | cons r1' r2' =>
    rw [dataLt_all_yes ha he] at q
    have look := eqAt_alike _ _ A s _ _ _ _ r1 r1' ha (SeqAt.room_head hu)
    rw [he] at look
    have rest := ih (i := i + 1) r2 r2' (SeqAt.room_tail hu) (fun _ z => nomatch z) q
    simp only [List.length_cons, Nat.add_lt_add_iff_right]
    exact kat_cons (look prog w _ _ (kat_yes rest))
/-- a way to read values back -/
theorem reader (h : Heap) (ds : List PyData) : ∃ f : Value → Option PyData, ∀ v, (∀ d, f v = some d → d ∈ ds ∧ ∃ as, Reads h v d as) ∧ (f v = none → ∀ d, d ∈ ds → ∀ as, ¬ Reads h v d as) :=
  Classical.skolem (b := fun _ => Option PyData) (p := fun v o => (∀ d, o = some d → d ∈ ds ∧ ∃ as, Reads h v d as) ∧ (o = none → ∀ d, d ∈ ds → ∀ as, ¬ Reads h v d as)) |>.mp fun v => by
    rcases Classical.em (∃ d, d ∈ ds ∧ ∃ as, Reads h v d as) with ⟨d, hd⟩ | no
    · exact ⟨some d, fun d' e => Option.some.inj e ▸ hd, fun e => nomatch e⟩
    · exact ⟨none, fun d e => (nomatch e), fun _ d hd as r => no ⟨d, hd, as, r⟩⟩
def readKind (f : Value → Option PyData) : PyProof.Rows.KeyKind := { toKeyOrd := listOrd itemOrd, keyOf := fun v => (f v).map keyToks, dflt := ([] : List (Int ⊕ List Nat)) }
/-- a row, opened -/
theorem row_open {h : Heap} {v : Value} {ds : List PyData} {as : List Addr} (r : Reads h v (.tuple ds) as) : ∃ l o xs n, v = .ref l ∧ h.get? l = some o ∧ o.data = .seq xs n ∧ ReadsAll h xs.toList ds as ∧ xs.size = ds.length := by
  cases r with
  | tuple h1 _ h3 h4 => exact ⟨_, _, _, _, rfl, h1, h3, h4, by simpa using SeqAt.ReadsAll.length _ _ _ h4⟩
theorem AllPre.goes {ds : List PyData} (P : AllPre ds) {d d' : PyData} (hd : d ∈ ds) (hd' : d' ∈ ds) : ∃ x r y t, d = .tuple (x :: r) ∧ d' = .tuple (y :: t) ∧ Goes (x :: r) (y :: t) :=
  let ⟨x, r, y, t, e1, e2, e3⟩ := P d hd d' hd'
  ⟨x, r, y, t, e1, e2, goes_of e3⟩
theorem Goes.heads {x y : PyData} {xs ys : List PyData} (g : Goes (x :: xs) (y :: ys)) : PySem.W.alike x y = true := by cases g <;> assumption
theorem AllPre.one {h : Heap} {ds : List PyData} (P : AllPre ds) {v : Value} {d d' : PyData} (hd : d ∈ ds) (hd' : d' ∈ ds) {as bs : List Addr} (r : Reads h v d as) (r' : Reads h v d' bs) : d = d' := by
  obtain ⟨x, p, y, t, rfl, rfl, g⟩ := P.goes hd hd'
  obtain ⟨l, o, xs, n, e, h1, h2, h3, _⟩ := row_open r
  obtain ⟨l', o', xs', n', e', h1', h2', h3', _⟩ := row_open r'
  cases e.symm.trans e'
  cases h1.symm.trans h1'
  cases h2.symm.trans h2'
  rw [g.one h3 h3']
section
variable {ds : List PyData} {f : Value → Option PyData}
theorem rows_lt (P : AllPre ds) (F : ∀ v d, f v = some d → d ∈ ds ∧ ∃ as, Reads s.heap v d as) (room : ∀ d ∈ ds, A.units + d.depth < cLine) {x0 : PyData} (h0 : ∀ x r, .tuple (x :: r) ∈ ds → dataType x = dataType x0) : H.LtAt prog w A s (readKind f) (tuples' (dataType x0 != Value.type "tuple")) := by
  intro E u v a b Q ha hb q
  obtain ⟨d, e1, rfl⟩ := Option.map_eq_some_iff.mp ha
  obtain ⟨d', e2, rfl⟩ := Option.map_eq_some_iff.mp hb
  obtain ⟨m1, as, r1⟩ := F u d e1
  obtain ⟨m2, bs, r2⟩ := F v d' e2
  obtain ⟨x, p, y, t, rfl, rfl, g⟩ := P.goes m1 m2
  obtain ⟨l, o, xs, n, rfl, k1, k2, k3, k4⟩ := row_open r1
  obtain ⟨l', o', xs', n', rfl, j1, j2, j3, j4⟩ := row_open r2
  have hu : A.units + min (PyData.tuple (x :: p)).depth (PyData.tuple (y :: t)).depth < cLine := by have := room _ m1; omega
  have q : Q (dataLt (.tuple (x :: p)) (.tuple (y :: t))) s := q
  rw [dataLt_tuple] at q
  refine kat_lt k1 k2 j1 j2 ?_
  rw [k4, j4]
  refine g.walk k3 j3 (by have := SeqAt.room_in hu; omega) (fun hbt _ c ec => ?_) q
  rw [← h0 x p m1] at hbt
  exact dataType_tuple hbt c (Option.some.inj ec)
theorem rows_sort {vs : List Value} (P : AllPre ds) (F : ∀ v d, f v = some d → d ∈ ds ∧ ∃ as, Reads s.heap v d as) (e : EachIs (fun v d => (∃ as, Reads s.heap v d as) ∧ f v = some d) vs ds) (room : ∀ d ∈ ds, A.units + d.depth < cLine) : SortsAt prog w A s (readKind f) vs := by
  have key : ∀ v ∈ vs, ∃ k, (readKind f).keyOf v = some k := fun v hv => by
    obtain ⟨d, _, _, ed⟩ := e.left v hv
    exact ⟨keyToks d, congrArg (Option.map keyToks) ed⟩
  cases ds with
  | nil =>
    cases e
    refine ⟨key, general', ?_, fun h => absurd h (by decide)⟩
    intro E x y a b Q ha
    obtain ⟨d, e1, _⟩ := Option.map_eq_some_iff.mp ha
    cases (F x d e1).1
  | cons d0 ds =>
    obtain ⟨x0, r0, _, _, rfl, _, _⟩ := P d0 (.head _) d0 (.head _)
    have h0 : ∀ x r, .tuple (x :: r) ∈ PyData.tuple (x0 :: r0) :: ds → dataType x = dataType x0 := fun x r m => by
      obtain ⟨_, _, _, _, e1, e2, g⟩ := P.goes m (.head _)
      cases e1; cases e2
      exact dataType_alike g.heads
    refine ⟨key, _, rows_lt P F room h0, fun two E Q q => ?_⟩
    obtain ⟨fs, T, n, each⟩ := each_katTups (e.mono fun _ _ z => z.1) fun d hd => by
      obtain ⟨x, r, _, _, ex, _⟩ := P d hd d hd
      exact ⟨x, r, ex⟩
    refine kat_kind T (by omega) (fun u hu => ?_) (beq_self_eq_true _) q
    obtain ⟨x, r, as, m, ru⟩ := each u hu
    exact h0 x r m ▸ looks_reads ru
end
variable {β : Type} {vs : List Value} {bs : List β} {enc : β → PyData} {R : Value → β → Prop}
/-- the items alike, or rows that can be compared up to the first place that differs -/
theorem list_sort_any {a : Addr} {n : Nat} {Q : Value → Shared → Prop} (ho : s.heap.get? a = some (seqObj "list" vs.toArray n)) (e : EachIs R vs bs) (er : EachIs (fun v b => ∃ as, Reads s.heap v (enc b) as ∧ a ∉ as) vs bs)
    (hal : (AllAlike (bs.map enc) ∧ Sortable (bs.map enc)) ∨ AllPre (bs.map enc)) (hL : bs.length ≤ sizeLine) (hu : ∀ b, b ∈ bs → A.units + 1 + (enc b).depth < cLine)
    (h : ∀ out, out.length = bs.length → EachIs R out (bs.mergeSort (dataLe false enc)) → Q .none { s with heap := sortedHeap s.heap a vs (List.toArray out) }) : wpAny (model prog w) A (call (.builtin "list.sort") [.ref a]) Q E s := by
  refine hal.elim (fun z => list_sort_data ho e er z.1 z.2 hL hu h) fun P => ?_
  have lst : ∀ o, s.heap.get? a = some o → o.cls = .type "list" := fun o q => by cases ho.symm.trans q; rfl
  -- what the rows are while the list stands empty
  have now : EachIs (fun v b => ∃ as, Reads (sortingHeap s.heap a vs) v (enc b) as) vs bs := (each_mem er).mono fun v b ⟨⟨as, r, na⟩, hb⟩ => by
    obtain ⟨x, p, y, t, e1, e2, g⟩ := P.goes (List.mem_map_of_mem hb) (List.mem_map_of_mem hb)
    cases e1.symm.trans e2
    have self : PySem.W.alike (enc b) (enc b) = true := by rw [e1, PySem.W.alike]; exact g.alike
    exact ⟨as, Reads.keepBut (fun _ _ => sortingHeap_old) lst _ _ _ self r na⟩
  obtain ⟨f, F⟩ := reader (sortingHeap s.heap a vs) (bs.map enc)
  have keys : EachIs (fun v b => (∃ as, Reads (sortingHeap s.heap a vs) v (enc b) as) ∧ f v = some (enc b)) vs bs := (each_mem now).mono fun v b ⟨⟨as, r⟩, hb⟩ => ⟨⟨as, r⟩, by
    cases ef : f v with
    | none => exact absurd r ((F v).2 ef _ (List.mem_map_of_mem hb) as)
    | some d =>
      obtain ⟨m, cs, r'⟩ := (F v).1 d ef
      rw [P.one m (List.mem_map_of_mem hb) r' r]⟩
  have S : SortsAt prog w A.in1 { s with heap := sortingHeap s.heap a vs } (readKind f) vs := rows_sort P (fun v => (F v).1) (each_map (R := fun v d => (∃ as, Reads (sortingHeap s.heap a vs) v d as) ∧ f v = some d) enc keys) (bound_map hu)
  have out := sortVals_each (κ := readKind f) (rev := false) (fun b => keyToks (enc b)) e (keys.mono fun v b z => show (f v).map keyToks = some (keyToks (enc b)) by rw [z.2]; rfl)
  refine wpAny_call_entry slot_list_sort ⟨_, ho, rfl⟩ entry_list_sort (list_sort_vals (κ := readKind f) ho S (e.length ▸ hL) ⟨.none, rfl, ?_⟩) (args_list_sort _)
  exact h _ ((sortVals_length false rfl).trans e.length) out
end
end Z
/-! Z1: data, memory, code, and what code comes to (plain Lean; nothing of the machine). -/
namespace Z
open PySem

/-- a value as data: lists that never change are data, things that change stand in a memory -/
inductive D where
  | non | bl (b : Bool) | int (i : Int) | str (s : Str) | tup (l : List D) | lst (l : List D)
  | scr (l : List Int) | loc (n : Nat) | fn (n c : Nat) | ty (s : String) | dct (ks : List L2.Key) (vs : List D)
  deriving Inhabited

mutual
def D.same : D → D → Bool
  | .non, .non => true
  | .bl a, .bl b => a == b
  | .int a, .int b => a == b
  | .str a, .str b => a == b
  | .tup a, .tup b => D.sames a b
  | .lst a, .lst b => D.sames a b
  | .scr a, .scr b => a == b
  | .loc a, .loc b => a == b
  | .fn a c, .fn b d => a == b && c == d
  | .ty a, .ty b => a == b
  | .dct a c, .dct b d => decide (a = b) && D.sames c d
  | _, _ => false
def D.sames : List D → List D → Bool
  | [], [] => true
  | x :: xs, y :: ys => D.same x y && D.sames xs ys
  | _, _ => false
end
mutual
theorem D.same_eq : ∀ {a b : D}, D.same a b = true → a = b
  | .non, b, h => by cases b <;> first | rfl | (simp [D.same] at h)
  | .bl a, b, h => by cases b <;> simp [D.same] at h; rw [h]
  | .int a, b, h => by cases b <;> simp [D.same] at h; rw [h]
  | .str a, b, h => by cases b <;> simp [D.same] at h; rw [h]
  | .tup a, b, h => by cases b <;> simp [D.same] at h; rw [D.sames_eq h]
  | .lst a, b, h => by cases b <;> simp [D.same] at h; rw [D.sames_eq h]
  | .scr a, b, h => by cases b <;> simp [D.same] at h; rw [h]
  | .loc a, b, h => by cases b <;> simp [D.same] at h; rw [h]
  | .fn a c, b, h => by cases b <;> simp [D.same] at h; rw [h.1, h.2]
  | .ty a, b, h => by cases b <;> simp [D.same] at h; rw [h]
  | .dct a c, b, h => by cases b <;> simp [D.same] at h; rw [h.1, D.sames_eq h.2]
theorem D.sames_eq : ∀ {a b : List D}, D.sames a b = true → a = b
  | [], b, h => by cases b <;> first | rfl | (simp [D.sames] at h)
  | x :: xs, b, h => by
    cases b with
    | nil => simp [D.sames] at h
    | cons y ys =>
      simp only [D.sames, Bool.and_eq_true] at h
      rw [D.same_eq h.1, D.sames_eq h.2]
end
mutual
theorem D.same_refl : ∀ a : D, D.same a a = true
  | .non => rfl
  | .bl a => by simp [D.same]
  | .int a => by simp [D.same]
  | .str a => by simp [D.same]
  | .tup a => by simp only [D.same]; exact D.sames_refl a
  | .lst a => by simp only [D.same]; exact D.sames_refl a
  | .scr a => by simp [D.same]
  | .loc a => by simp [D.same]
  | .fn a c => by simp [D.same]
  | .ty a => by simp [D.same]
  | .dct a c => by simp only [D.same, D.sames_refl c, decide_true, Bool.and_self]
theorem D.sames_refl : ∀ a : List D, D.sames a a = true
  | [] => rfl
  | x :: xs => by simp only [D.sames, D.same_refl x, D.sames_refl xs, Bool.and_self]
end

abbrev Key := L2.Key
/-- a thing that changes -/
inductive MO where
  | lst (l : List D) | dk (kvs : List (Key × D)) | ins (c : Nat) (fs : List (Str × D))
  deriving Inhabited
abbrev Mem := List MO
abbrev Env := List (Option D)
structure Ex where
  c : Nat
  fs : List D
inductive Out (α : Type) where
  | ok (a : α) (m : Mem) | exc (x : Ex) (m : Mem) | bad
variable {α β : Type}
def Out.bind (o : Out α) (f : α → Mem → Out β) : Out β := match o with
  | .ok a m => f a m
  | .exc x m => .exc x m
  | .bad => .bad
@[simp] theorem Out.bind_ok (a : α) (m : Mem) (f : α → Mem → Out β) : (Out.ok a m).bind f = f a m := rfl
@[simp] theorem Out.bind_exc (x : Ex) (m : Mem) (f : α → Mem → Out β) : (Out.exc x m : Out α).bind f = .exc x m := rfl
@[simp] theorem Out.bind_bad (f : α → Mem → Out β) : (Out.bad : Out α).bind f = .bad := rfl
/-- within a comprehension nothing may raise -/
def Out.calm (o : Out α) : Out α := match o with
  | .ok a m => .ok a m
  | _ => .bad
@[simp] theorem Out.calm_ok (a : α) (m : Mem) : (Out.ok a m).calm = .ok a m := rfl
@[simp] theorem Out.calm_bad : (Out.bad : Out α).calm = .bad := rfl
def lift (o : Option α) (m : Mem) : Out α := match o with
  | some a => .ok a m
  | none => .bad
@[simp] theorem lift_some (a : α) (m : Mem) : lift (some a) m = .ok a m := rfl
@[simp] theorem lift_none (m : Mem) : lift (none : Option α) m = .bad := rfl

/-! ### data read -/
def rdL (m : Mem) : D → Option (List D)
  | .lst l => some l
  | .loc n => match m[n]? with | some (.lst l) => some l | _ => none
  | _ => none
/-- what may be walked, cut, indexed: a list (true: a list's kind), a tuple (false) -/
def rdS (m : Mem) : D → Option (Bool × List D)
  | .lst l => some (true, l)
  | .scr l => some (true, l.map D.int)
  | .tup l => some (false, l)
  | .loc n => match m[n]? with | some (.lst l) => some (true, l) | _ => none
  | _ => none
mutual
def toPy : D → Option PyData
  | .non => some .none
  | .bl b => some (.bool b)
  | .int i => some (.int i)
  | .str s => some (.str s)
  | .tup l => match toPys l with | some xs => some (.tuple xs) | none => none
  | .lst l => match toPys l with | some xs => some (.list xs) | none => none
  | _ => none
def toPys : List D → Option (List PyData)
  | [] => some []
  | d :: l => match toPy d, toPys l with | some x, some xs => some (x :: xs) | _, _ => none
end
/-- a list at a place as the list it is -/
def top (m : Mem) (d : D) : D := match d with
  | .loc n => match m[n]? with | some (.lst l) => .lst l | _ => d
  | _ => d
def pyOf (m : Mem) (d : D) : Option PyData := toPy (top m d)
def eqP (m : Mem) (a b : D) : Option Bool := match pyOf m a, pyOf m b with
  | some x, some y => if SeqAt.shaped x && SeqAt.shaped y then some (PyData.eqv x y) else none
  | _, _ => none
def eqD (m : Mem) (a b : D) : Option Bool := match a, b with
  | .int x, .int y => some (decide (x = y))
  | .str x, .str y => some (decide (x = y))
  | _, _ => eqP m a b
def reprD (m : Mem) (a : D) : Option D := match pyOf m a with
  | some x => if x.canLay0 && x.showable && decide (x.depth ≤ 60) && decide (x.shown.length ≤ sizeLine) then some (.str x.shown) else none
  | none => none
def inD (m : Mem) (a b : D) : Option Bool := match b with
  | .str y => match a with
    | .str x => if x.length = 1 then some (decide (x.cps.getD 0 0 ∈ y.cps.toList)) else none
    | _ => none
  | _ => match pyOf m a, pyOf m b with
    | some x, some (.list ys) => if SeqAt.shaped x && SeqAt.shaped (.list ys) then some (ys.any fun z => PyData.eqv z x) else none
    | some x, some (.tuple ys) => if SeqAt.shaped x && SeqAt.shaped (.tuple ys) then some (ys.any fun z => PyData.eqv z x) else none
    | _, _ => none
def isNone : D → Bool
  | .non => true
  | _ => false
def cmpD (op : CmpOp) (m : Mem) (a b : D) : Option Bool := match op with
  | .Eq => eqD m a b
  | .NotEq => (eqD m a b).map (!·)
  | .Lt => match a, b with | .int i, .int j => some (decide (i < j)) | _, _ => none
  | .LtE => match a, b with | .int i, .int j => some (decide (i ≤ j)) | _, _ => none
  | .Gt => match a, b with | .int i, .int j => some (decide (j < i)) | _, _ => none
  | .GtE => match a, b with | .int i, .int j => some (decide (j ≤ i)) | _, _ => none
  | .Is => match b with | .non => some (isNone a) | _ => none
  | .IsNot => match b with | .non => some (!isNone a) | _ => none
  | .In => inD m a b
  | .NotIn => (inD m a b).map (!·)

def smallMul (i j : Int) : Bool := (decide (-(2 ^ 64) < i) && decide (i < 2 ^ 64)) || (decide (-(2 ^ 64) < j) && decide (j < 2 ^ 64))
def binD (op : Operator) (m : Mem) (a b : D) : Option D := match op with
  | .Add => match a, b with
    | .int i, .int j => some (.int (i + j))
    | .str x, .str y => if x.length + y.length ≤ sizeLine then some (.str (x ++ y)) else none
    | .tup x, .tup y => if x.length + y.length ≤ sizeLine then some (.tup (x ++ y)) else none
    | _, _ => match rdL m a, rdL m b with
      | some x, some y => if x.length + y.length ≤ sizeLine then some (.lst (x ++ y)) else none
      | _, _ => none
  | .Sub => match a, b with | .int i, .int j => some (.int (i - j)) | _, _ => none
  | .Mult => match a, b with
    | .int i, .int j => if smallMul i j then some (.int (i * j)) else none
    | .tup l, .int k => if decide (-(2 ^ 63) ≤ k) && decide (k ≤ 1000) && decide (l.length ≤ 1000) then some (.tup (List.replicate k.toNat l).flatten) else none
    | _, .int k => match rdL m a with
      | some l => if decide (-(2 ^ 63) ≤ k) && decide (k < 2 ^ 63) && decide (l.length * k.toNat ≤ sizeLine) then some (.lst (List.replicate k.toNat l).flatten) else none
      | none => none
    | _, _ => none
  | .Mod => match a, b with | .int i, .int j => if 0 < j then some (.int (i % j)) else none | _, _ => none
  | .FloorDiv => match a, b with | .int i, .int j => if 0 < j ∧ j < 1073741824 then some (.int (i / j)) else none | _, _ => none
  | .Pow => match a, b with | .int i, .int j => if 0 ≤ j ∧ j ≤ 1000000 ∧ i.natAbs < 2 ^ 64 then some (.int (i ^ j.toNat)) else none | _, _ => none
  | _ => none
/-- a op= b: on flat things alone (a list would be changed where it stands) -/
def augD (op : Operator) (a b : D) : Option D := match op, a, b with
  | .Add, .int i, .int j => some (.int (i + j))
  | .Add, .str x, .str y => if x.length + y.length ≤ sizeLine then some (.str (x ++ y)) else none
  | .Sub, .int i, .int j => some (.int (i - j))
  | .Mult, .int i, .int j => if smallMul i j then some (.int (i * j)) else none
  | _, _, _ => none
def negD : D → Option D
  | .int i => some (.int (-i))
  | _ => none
/-- a part of a slice: none, or an int -/
def cutD (m : Mem) (a : D) (lo hi : Option Int) : Option D := match rdS m a with
  | some (true, l) => some (.lst ((l.drop (HT.sIx l.length 0 lo)).take (HT.sIx l.length l.length hi - HT.sIx l.length 0 lo)))
  | some (false, l) => some (.tup ((l.drop (HT.sIx l.length 0 lo)).take (HT.sIx l.length l.length hi - HT.sIx l.length 0 lo)))
  | none => none
def revD (m : Mem) (a : D) : Option D := match rdS m a with
  | some (true, l) => some (.lst l.reverse)
  | some (false, l) => some (.tup l.reverse)
  | none => none
def getK (kvs : List (Key × D)) (k : Key) : Option D := (kvs.find? fun kv => decide (kv.1 = k)).map (·.2)
def setK (kvs : List (Key × D)) (k : Key) (v : D) : List (Key × D) :=
  if (kvs.any fun kv => decide (kv.1 = k)) = true then kvs.map fun kv => if kv.1 = k then (kv.1, v) else kv
  else kvs ++ [(k, v)]
def subD (m : Mem) (a i : D) : Option D := match i with
  | .int k => match rdS m a with
    | some (_, l) => L2.atI l k
    | none => none
  | .str x => match a with
    | .loc n => match m[n]? with
      | some (.dk kvs) => getK kvs (.inr x)
      | _ => none
    | .dct ks vs => getK (ks.zip vs) (.inr x)
    | _ => none
  | _ => none

/-! ### built-in functions -/
inductive Bi where
  | isinst | all | any | sum | len | list | tuple | sorted | repr | str | int | min | max | min2 | max2
  deriving DecidableEq, Inhabited
def tyName (m : Mem) : D → Option String
  | .non => some "NoneType"
  | .bl _ => some "bool"
  | .int _ => some "int"
  | .str _ => some "str"
  | .tup _ => some "tuple"
  | .lst _ => some "list"
  | .loc n => match m[n]? with
    | some (.lst _) => some "list"
    | some (.dk _) => some "dict"
    | _ => none
  | _ => none
def isKind (t : String) : Bool := ["int", "bool", "str", "tuple", "list"].contains t
def isinstD (m : Mem) (d : D) (t : String) : Option Bool := match tyName m d with
  | some u => if isKind t then some (u == t || (u == "bool" && t == "int")) else none
  | none => none
def asBools : List D → Option (List Bool)
  | [] => some []
  | .bl b :: l => (asBools l).map (b :: ·)
  | _ => none
def asInts : List D → Option (List Int)
  | [] => some []
  | .int i :: l => (asInts l).map (i :: ·)
  | _ => none
/-- data as data (what is none stands for None) -/
def pyd (d : D) : PyData := match toPy d with
  | some x => x
  | none => .none
def isRow : PyData → Bool
  | .tuple (_ :: _) => true
  | _ => false
def isPlain : PyData → Bool
  | .none => false
  | .tuple _ => false
  | _ => true
/-- what may be sorted, in Python's order -/
def rowPre : PyData → PyData → Bool
  | .tuple (x :: r), .tuple (y :: t) => preAll (x :: r) (y :: t)
  | _, _ => false
def sortOk (l : List D) : Bool := (l.all fun d => (toPy d).isSome && decide ((pyd d).depth ≤ 60)) && (((l.all fun a => l.all fun b => PySem.W.alike (pyd a) (pyd b)) && ((l.all fun d => isRow (pyd d)) || l.all fun d => isPlain (pyd d))) || l.all fun a => l.all fun b => rowPre (pyd a) (pyd b))
def sortD (l : List D) : List D := l.mergeSort (PySem.W.dataLe false pyd)
def biD (b : Bi) (m : Mem) (l : List D) : Option D := match b, l with
  | .isinst, [x, .ty t] => (isinstD m x t).map D.bl
  | .all, [x] => match rdL m x with | some l => (asBools l).map fun bs => .bl (bs.all id) | none => none
  | .any, [x] => match rdL m x with | some l => (asBools l).map fun bs => .bl (bs.any id) | none => none
  | .sum, [x] => match rdL m x with | some l => (asInts l).map fun ns => .int ns.sum | none => none
  | .len, [x] => match rdS m x with
    | some (_, l) => some (.int l.length)
    | none => match x with | .str s => if s.length ≤ sizeLine then some (.int s.length) else none | _ => none
  | .list, [x] => match rdS m x with | some (_, l) => some (.lst l) | none => none
  | .tuple, [x] => match rdS m x with | some (_, l) => some (.tup l) | none => none
  | .sorted, [x] => match rdS m x with
    | some (_, l) => match asInts l with
      | some ns => some (.lst ((ns.mergeSort (fun a b => decide (a ≤ b))).map D.int))
      | none => if sortOk l then some (.lst (sortD l)) else none
    | none => none
  | .repr, [x] => reprD m x
  | .str, [.int i] => if i.natAbs.log2 < 1920 then some (.str (toString i)) else none
  | .int, [.int i] => some (.int i)
  | .int, [.bl b] => some (.int (if b then 1 else 0))
  | .min, [x] => match rdS m x with | some (_, l) => (asInts l).bind (fun ns => match ns with | n :: ns => some (.int (ns.foldl min n)) | [] => none) | none => none
  | .max, [x] => match rdS m x with | some (_, l) => (asInts l).bind (fun ns => match ns with | n :: ns => some (.int (ns.foldl max n)) | [] => none) | none => none
  | .min2, [.int i, .int j] => some (.int (if j < i then j else i))
  | .max2, [.int i, .int j] => some (.int (if j > i then j else i))
  | _, _ => none

/-! ### targets -/
mutual
inductive T where
  | nm (i : Nat) | tp (l : Ts)
inductive Ts where
  | nil | cons (t : T) (l : Ts)
end
instance : Inhabited T := ⟨.nm 0⟩
mutual
/-- a name, or targets of a tuple's items -/
def T.bind : T → D → Env → Option Env
  | .nm i, d, e => some (e.set i (some d))
  | .tp l, .tup ds, e => l.bind ds e
  | .tp _, _, _ => none
def Ts.bind : Ts → List D → Env → Option Env
  | .nil, [], e => some e
  | .cons t l, d :: ds, e => match t.bind d e with
    | some e => l.bind ds e
    | none => none
  | .nil, _ :: _, _ => none
  | .cons _ _, [], _ => none
end
mutual
def T.ixs : T → List Nat
  | .nm i => [i]
  | .tp l => l.ixs
def Ts.ixs : Ts → List Nat
  | .nil => []
  | .cons t l => t.ixs ++ l.ixs
end
def wipe (e : Env) : List Nat → Env
  | [] => e
  | v :: vs => (wipe e vs).set v none

/-- sorted(x, reverse=True), ints -/
def srtRD (m : Mem) (x : D) : Option D := match rdS m x with
  | some (_, l) => (asInts l).map fun ns => .lst ((ns.mergeSort (fun a b => decide (a ≤ b))).reverse.map D.int)
  | none => none
/-! ### methods -/
inductive Me where
  | append | extend | remove | pop | index | count
  deriving DecidableEq, Inhabited
def atList (m : Mem) (o : D) : Bool := match o with
  | .loc n => (match m[n]? with | some (.lst _) => true | _ => false)
  | _ => false
/-- the receiver is of the method's type -/
def isMe (me : Me) (m : Mem) (o : D) : Bool := match me with
  | .index => (rdL m o).isSome
  | .count => (rdL m o).isSome
  | _ => atList m o
def mtD (me : Me) (m : Mem) (o : D) (l : List D) : Option (D × Mem) := match me with
  | .index => match l with
    | [v] => match pyOf m o, pyOf m v with
      | some (.list ds), some d => if SeqAt.shaped (.list ds) && SeqAt.shaped d then (match ds.findIdx? (fun z => PyData.eqv z d) with | some j => some (.int (j : Nat), m) | none => none) else none
      | _, _ => none
    | _ => none
  | .count => match l with
    | [.int k] => match rdL m o with
      | some l => (match asInts l with | some ns => some (.int (ns.count k : Nat), m) | none => none)
      | none => none
    | _ => none
  | .append => match o, l with
    | .loc n, [v] => match m[n]? with
      | some (.lst l) => if l.length < sizeLine then some (.non, m.set n (.lst (l ++ [v]))) else none
      | _ => none
    | _, _ => none
  | .extend => match o, l with
    | .loc n, [v] => match m[n]?, rdL m v with
      | some (.lst l), some k => if l.length + k.length ≤ sizeLine then some (.non, m.set n (.lst (l ++ k))) else none
      | _, _ => none
    | _, _ => none
  | .remove => match o, l with
    | .loc n, [.int k] => match m[n]? with
      | some (.lst l) => match asInts l with
        | some ns => if k ∈ ns then some (.non, m.set n (.lst ((ns.erase k).map D.int))) else none
        | none => none
      | _ => none
    | _, _ => none
  | .pop => match o, l with
    | .loc n, [] => match m[n]? with
      | some (.lst l) => match l[l.length - 1]? with
        | some d => some (d, m.set n (.lst l.dropLast))
        | none => none
      | _ => none
    | .loc n, [.int i] => match m[n]? with
      | some (.lst l) => if decide (-(2 ^ 63) ≤ i) && decide (i < 2 ^ 63) then match seqIndex? i l.length with
        | some k => match l[k]? with
          | some d => some (d, m.set n (.lst (l.eraseIdx k)))
          | none => none
        | none => none else none
      | _ => none
    | _, _ => none
/-! ### code -/
mutual
inductive C where
  | var (i : Nat) | con (d : D)
  | tup (l : Cs) | lst (l : Cs) | new (c : C) | dict (ks : List Str) (vs : Cs)
  | bin (op : Operator) (a b : C) | neg (a : C)
  | cmp (op : CmpOp) (a b : C) | chn (o1 o2 : CmpOp) (a b c : C)
  | and (a b : C) | or (a b : C) | not (a : C) | ite (t a b : C)
  | sub (a i : C) | cut (a : C) (lo hi : Co) | rev (a : C)
  | call (f : Nat) (l : Cs) | callk (f np : Nat) (l : Cs) (ix : List Nat) (kw : Cs) (df : List (Nat × D)) | calv (i : Nat) (l : Cs)
  | bi (b : Bi) (l : Cs)
  | mt (me : Me) (o : C) (l : Cs) | srtR (a : C)
  | rng (a : C) | rng2 (a b : C) | zip (a b : C) | enum (a : C)
  | comp (own : List Nat) (elt : C) (t : T) (it : C) (ifs : Cs)
  | comp2 (own : List Nat) (elt : C) (t : T) (it : C) (ifs : Cs) (t1 : T) (it1 : C) (ifs1 : Cs)
  | dcomp (own : List Nat) (k v : C) (t : T) (it : C) (ifs : Cs)
  | lrg (a b : C)
  | nev
  | srtc (own : List Nat) (elt : C) (t : T) (it : C) (ifs : Cs)
inductive Cs where
  | nil | cons (c : C) (l : Cs)
inductive Co where
  | none | some (c : C)
end
instance : Inhabited C := ⟨.con .non⟩
abbrev Sg := Nat → List D → Mem → Out D

def sameL (m : Mem) (n : Nat) (l : List D) : Bool := match m[n]? with
  | some (.lst l') => D.sames l' l
  | _ => false
/-- the source of a walk: its items, and the place that must stay as it is -/
structure Src where
  items : List D
  at_ : Option Nat
def Src.stays (s : Src) (m : Mem) : Bool := match s.at_ with
  | none => true
  | some n => sameL m n s.items
def srcOf (m : Mem) (d : D) : Option Src := match d with
  | .loc n => match m[n]? with | some (.lst l) => some ⟨l, some n⟩ | _ => none
  | .str s => if s.length ≤ sizeLine then some ⟨s.cps.toList.map fun c => .str ⟨#[c]⟩, none⟩ else none
  | _ => match rdS m d with | some (_, l) => some ⟨l, none⟩ | none => none
def zipS (m : Mem) (a b : D) : Option Src := match a, b with
  | .tup x, .tup y => some ⟨(x.zip y).map fun p => .tup [p.1, p.2], none⟩
  | .lst x, .lst y => some ⟨(x.zip y).map fun p => .tup [p.1, p.2], none⟩
  | _, _ => none
def enumS (a : D) : Option Src := match a with
  | .lst l => some ⟨l.zipIdx.map fun p => .tup [.int (p.2 : Int), p.1], none⟩
  | .tup l => some ⟨l.zipIdx.map fun p => .tup [.int (p.2 : Int), p.1], none⟩
  | _ => none
def compGo (stays : Mem → Bool) (f : Env → Mem → Out D) (p : Env → Mem → Out Bool) (t : T) : List D → Env → Mem → Out (List D)
  | [], _, m => if stays m then .ok [] m else .bad
  | d :: ds, e, m => if stays m then match t.bind d e with
    | none => .bad
    | some e' => (p e' m).bind fun b m => if b then (f e' m).bind fun x m => (compGo stays f p t ds e m).bind fun xs m => .ok (x :: xs) m
      else compGo stays f p t ds e m
    else .bad
/-- .. with lists put one behind another -/
def compGoL (stays : Mem → Bool) (f : Env → Mem → Out (List D)) (p : Env → Mem → Out Bool) (t : T) : List D → Env → Mem → Out (List D)
  | [], _, m => if stays m then .ok [] m else .bad
  | d :: ds, e, m => if stays m then match t.bind d e with
    | none => .bad
    | some e' => (p e' m).bind fun b m => if b then (f e' m).bind fun x m => (compGoL stays f p t ds e m).bind fun xs m => .ok (x ++ xs) m
      else compGoL stays f p t ds e m
    else .bad
/-- the ints without doubles, rising -/
def insU (k : Int) : List Int → List Int
  | [] => [k]
  | a :: l => if k < a then k :: a :: l else if k = a then a :: l else a :: insU k l
def uniqI (ns : List Int) : List Int := ns.foldr insU []
def srtuD (l : List D) : Option D := match asInts l with
  | some ns => if ns.length < 64 then some (.lst ((uniqI ns).map D.int)) else none
  | none => none
def keyOf : D → Option Key
  | .int i => some (.inl i)
  | .str s => some (.inr s)
  | _ => none
/-- .. with entries put into a dict -/
def dcGo (stays : Mem → Bool) (fk fv : Env → Mem → Out D) (p : Env → Mem → Out Bool) (t : T) : List D → Env → List (Key × D) → Mem → Out (List (Key × D))
  | [], _, kvs, m => if stays m then .ok kvs m else .bad
  | d :: ds, e, kvs, m => if stays m then match t.bind d e with
    | none => .bad
    | some e' => (p e' m).bind fun b m => if b then (fk e' m).bind fun k m => (fv e' m).bind fun v m => match keyOf k with
        | some k => if kvs.length < sizeLine then dcGo stays fk fv p t ds e (setK kvs k v) m else .bad
        | none => .bad
      else dcGo stays fk fv p t ds e kvs m
    else .bad
def lrgD (x y : D) : Option D := match x, y with
  | .int i, .int j => if (-(2 ^ 60) ≤ i ∧ i ≤ sizeLine) ∧ (-(2 ^ 60) ≤ j ∧ j ≤ sizeLine) ∧ j - i ≤ sizeLine then some (.lst ((List.range (j - i).toNat).map fun (k : Nat) => D.int (i + (k : Int)))) else none
  | _, _ => none
def asBl (d : D) (m : Mem) : Out Bool := match d with
  | .bl b => .ok b m
  | _ => .bad
/-- the arguments in the parameters' order: us by place, ws by name (ix: their places), df those left out -/
def placed {α : Type} (np : Nat) (us : List α) (ix : List Nat) (ws : List α) (df : List (Nat × α)) (z : α) : List α :=
  (List.range np).map fun i => match us[i]? with
    | some u => u
    | none => match (ix.zip ws).lookup i with
      | some w => w
      | none => (df.lookup i).getD z
mutual
def evalC (G : Sg) : C → Env → Mem → Out D
  | .var i, e, m => lift (e.getD i none) m
  | .con d, _, m => .ok d m
  | .tup l, e, m => (evalCs G l e m).bind fun l m => .ok (.tup l) m
  | .lst l, e, m => (evalCs G l e m).bind fun l m => .ok (.lst l) m
  | .new c, e, m => (evalC G c e m).bind fun d m => match d with
    | .lst l => .ok (.loc m.length) (m ++ [.lst l])
    | _ => .bad
  | .dict ks vs, e, m => (evalCs G vs e m).bind fun l m => .ok (.loc m.length) (m ++ [.dk ((ks.map Sum.inr).zip l)])
  | .bin op a b, e, m => (evalC G a e m).bind fun x m => (evalC G b e m).bind fun y m => lift (binD op m x y) m
  | .neg a, e, m => (evalC G a e m).bind fun x m => lift (negD x) m
  | .cmp op a b, e, m => (evalC G a e m).bind fun x m => (evalC G b e m).bind fun y m => lift ((cmpD op m x y).map D.bl) m
  | .chn o1 o2 a b c, e, m => (evalC G a e m).bind fun x m => (evalC G b e m).bind fun y m => (lift (cmpD o1 m x y) m).bind fun k m =>
      if k then (evalC G c e m).bind fun z m => lift ((cmpD o2 m y z).map D.bl) m else .ok (.bl false) m
  | .and a b, e, m => (evalC G a e m).bind fun x m => (asBl x m).bind fun k m => if k then evalC G b e m else .ok (.bl false) m
  | .or a b, e, m => (evalC G a e m).bind fun x m => (asBl x m).bind fun k m => if k then .ok (.bl true) m else evalC G b e m
  | .not a, e, m => (evalC G a e m).bind fun x m => (asBl x m).bind fun k m => .ok (.bl (!k)) m
  | .ite t a b, e, m => (evalC G t e m).bind fun x m => (asBl x m).bind fun k m => if k then evalC G a e m else evalC G b e m
  | .sub a i, e, m => (evalC G a e m).bind fun x m => (evalC G i e m).bind fun y m => lift (subD m x y) m
  | .cut a lo hi, e, m => (evalC G a e m).bind fun x m => (evalCo G lo e m).bind fun l m => (evalCo G hi e m).bind fun h m => lift (cutD m x l h) m
  | .rev a, e, m => (evalC G a e m).bind fun x m => lift (revD m x) m
  | .call f l, e, m => (evalCs G l e m).bind fun l m => G f l m
  | .callk f np l ix kw df, e, m => (evalCs G l e m).bind fun l m => (evalCs G kw e m).bind fun k m => G f (placed np l ix k df .non) m
  | .calv i l, e, m => match e.getD i none with
    | some (.fn n c) => (evalCs G l e m).bind fun l m => if l.length = c then G n l m else .bad
    | _ => .bad
  | .bi b l, e, m => (evalCs G l e m).bind fun l m => lift (biD b m l) m
  | .mt me o l, e, m => (evalC G o e m).bind fun x m => if isMe me m x then (evalCs G l e m).bind fun ys m => match mtD me m x ys with
      | some (d, m) => .ok d m
      | none => .bad
    else .bad
  | .srtR a, e, m => (evalC G a e m).bind fun x m => lift (srtRD m x) m
  | .rng _, _, _ => .bad
  | .rng2 _ _, _, _ => .bad
  | .zip _ _, _, _ => .bad
  | .enum _, _, _ => .bad
  | .comp own elt t it ifs, e, m => ((evalIt G it e m).bind fun s m =>
      (compGo s.stays (fun e m => evalC G elt e m) (fun e m => evalIfs G ifs e m) t s.items (wipe e own) m).calm).bind fun l m => .ok (.lst l) m
  | .comp2 own elt t it ifs t1 it1 ifs1, e, m => ((evalIt G it e m).bind fun s m =>
      (compGoL s.stays (fun e m => (evalIt G it1 e m).bind fun s1 m => compGo s1.stays (fun e m => evalC G elt e m) (fun e m => evalIfs G ifs1 e m) t1 s1.items (wipe e t1.ixs) m) (fun e m => evalIfs G ifs e m) t s.items (wipe e own) m).calm).bind fun l m => if l.length ≤ sizeLine then .ok (.lst l) m else .bad
  | .dcomp own k v t it ifs, e, m => ((evalIt G it e m).bind fun s m =>
      (dcGo s.stays (fun e m => evalC G k e m) (fun e m => evalC G v e m) (fun e m => evalIfs G ifs e m) t s.items (wipe e own) [] m).calm).bind fun kvs m => .ok (.dct (kvs.map (·.1)) (kvs.map (·.2))) m
  | .lrg a b, e, m => (evalC G a e m).bind fun x m => (evalC G b e m).bind fun y m => lift (lrgD x y) m
  | .nev, _, _ => .bad
  | .srtc own elt t it ifs, e, m => ((evalIt G it e m).bind fun s m =>
      (compGo s.stays (fun e m => evalC G elt e m) (fun e m => evalIfs G ifs e m) t s.items (wipe e own) m).calm).bind fun l m => lift (srtuD l) m
def evalCs (G : Sg) : Cs → Env → Mem → Out (List D)
  | .nil, _, m => .ok [] m
  | .cons c l, e, m => (evalC G c e m).bind fun d m => (evalCs G l e m).bind fun ds m => .ok (d :: ds) m
def evalIfs (G : Sg) : Cs → Env → Mem → Out Bool
  | .nil, _, m => .ok true m
  | .cons c l, e, m => (evalC G c e m).bind fun d m => (asBl d m).bind fun k m => if k then evalIfs G l e m else .ok false m
def evalCo (G : Sg) : Co → Env → Mem → Out (Option Int)
  | .none, _, m => .ok none m
  | .some c, e, m => (evalC G c e m).bind fun d m => match d with
    | .int i => .ok (some i) m
    | _ => .bad
def evalIt (G : Sg) : C → Env → Mem → Out Src
  | .rng a, e, m => (evalC G a e m).bind fun d m => match d with
    | .int n => if -(2 ^ 62) ≤ n ∧ n ≤ sizeLine then .ok ⟨(List.range n.toNat).map fun (k : Nat) => D.int (k : Int), none⟩ m else .bad
    | _ => .bad
  | .rng2 a b, e, m => (evalC G a e m).bind fun x m => (evalC G b e m).bind fun y m => match x, y with
    | .int i, .int j => if (-(2 ^ 62) ≤ i ∧ i ≤ sizeLine) ∧ (-(2 ^ 62) ≤ j ∧ j ≤ sizeLine) ∧ j - i ≤ sizeLine then .ok ⟨(List.range (j - i).toNat).map fun (k : Nat) => D.int (i + (k : Int)), none⟩ m else .bad
    | _, _ => .bad
  | .zip a b, e, m => (evalC G a e m).bind fun x m => (evalC G b e m).bind fun y m => lift (zipS m x y) m
  | .enum a, e, m => (evalC G a e m).bind fun x m => lift (enumS x) m
  | c, e, m => (evalC G c e m).bind fun d m => lift (srcOf m d) m
end

/-! ### statements -/
inductive Fl where
  | nx (e : Env) (m : Mem) | rt (d : D) (m : Mem) | bk (e : Env) (m : Mem) | ct (e : Env) (m : Mem) | exc (x : Ex) (e : Env) (m : Mem) | bad
def Fl.andThen (f : Fl) (k : Env → Mem → Fl) : Fl := match f with
  | .nx e m => k e m
  | f => f
@[simp] theorem Fl.andThen_nx (e : Env) (m : Mem) (k : Env → Mem → Fl) : (Fl.nx e m).andThen k = k e m := rfl
@[simp] theorem Fl.andThen_rt (d : D) (m : Mem) (k : Env → Mem → Fl) : (Fl.rt d m).andThen k = .rt d m := rfl
@[simp] theorem Fl.andThen_bk (e : Env) (m : Mem) (k : Env → Mem → Fl) : (Fl.bk e m).andThen k = .bk e m := rfl
@[simp] theorem Fl.andThen_ct (e : Env) (m : Mem) (k : Env → Mem → Fl) : (Fl.ct e m).andThen k = .ct e m := rfl
@[simp] theorem Fl.andThen_exc (x : Ex) (e : Env) (m : Mem) (k : Env → Mem → Fl) : (Fl.exc x e m).andThen k = .exc x e m := rfl
@[simp] theorem Fl.andThen_bad (k : Env → Mem → Fl) : Fl.bad.andThen k = .bad := rfl
def Out.fl (o : Out α) (e : Env) (k : α → Mem → Fl) : Fl := match o with
  | .ok a m => k a m
  | .exc x m => .exc x e m
  | .bad => .bad
@[simp] theorem Out.fl_ok (a : α) (m : Mem) (e : Env) (k : α → Mem → Fl) : (Out.ok a m).fl e k = k a m := rfl
@[simp] theorem Out.fl_exc (x : Ex) (m : Mem) (e : Env) (k : α → Mem → Fl) : (Out.exc x m : Out α).fl e k = .exc x e m := rfl
@[simp] theorem Out.fl_bad (e : Env) (k : α → Mem → Fl) : (Out.bad : Out α).fl e k = .bad := rfl
mutual
inductive S where
  | drop (c : C) | set (i : Nat) (c : C) | unp (t : T) (c : C) | par (is : List Nat) (cs : Cs) | aug (op : Operator) (i : Nat) (c : C)
  | put (o k v : C) | app (i : Nat) (c : C) | meth (x : Option Nat) (i : Nat) (me : Me) (l : Cs) | mv (i j : Nat)
  | ret (c : C) | retN | ite (t : C) (a b : Ss) | for_ (t : T) (it : C) (b : Ss) | while_ (t : C) (b : Ss) | brk | cont | pass
  | nev | unpS (l : Ts) (c : C)
inductive Ss where
  | nil | cons (s : S) (l : Ss)
end
def Ts.num : Ts → Nat
  | .nil => 0
  | .cons _ l => l.num + 1
/-- items for n targets of which the last one is starred -/
def starD (n : Nat) : D → Option (List D)
  | .tup ds => if 0 < n ∧ n ≤ ds.length + 1 ∧ ds.length ≤ 16000 then some (ds.take (n - 1) ++ [.lst (ds.drop (n - 1))]) else none
  | .lst ds => if 0 < n ∧ n ≤ ds.length + 1 ∧ ds.length ≤ 16000 then some (ds.take (n - 1) ++ [.lst (ds.drop (n - 1))]) else none
  | _ => none
def forGo (stays : Mem → Bool) (b : Env → Mem → Fl) (t : T) : List D → Env → Mem → Fl
  | [], e, m => if stays m then .nx e m else .bad
  | d :: ds, e, m => if stays m then match t.bind d e with
    | none => .bad
    | some e' => match b e' m with
      | .nx e m => forGo stays b t ds e m
      | .ct e m => forGo stays b t ds e m
      | .bk e m => .nx e m
      | f => f
    else .bad
def whileN (c : Env → Mem → Out Bool) (b : Env → Mem → Fl) : Nat → Env → Mem → Option Fl
  | 0, _, _ => none
  | n + 1, e, m => match c e m with
    | .ok false m => some (.nx e m)
    | .ok true m => match b e m with
      | .nx e m => whileN c b n e m
      | .ct e m => whileN c b n e m
      | .bk e m => some (.nx e m)
      | f => some f
    | .exc x m => some (.exc x e m)
    | .bad => some .bad
open Classical in
noncomputable def whileF (c : Env → Mem → Out Bool) (b : Env → Mem → Fl) (e : Env) (m : Mem) : Fl :=
  if h : ∃ n, (whileN c b n e m).isSome = true then (whileN c b h.choose e m).getD .bad else .bad
def evalT (G : Sg) (c : C) (e : Env) (m : Mem) : Out Bool := (evalC G c e m).bind fun d m => asBl d m
def setSome : List Nat → List D → Env → Env
  | i :: is, d :: ds, e => setSome is ds (e.set i (some d))
  | _, _, e => e
/-- a method of a list that stands as a value: what it brings, the list behind it -/
def mtV (me : Me) (xs ys : List D) : Option (D × List D) := match mtD me [.ins 0 [], .lst xs] (.loc 1) ys with
  | some (d, [_, .lst zs]) => some (d, zs)
  | _ => none
def setO (x : Option Nat) (d : D) (e : Env) : Env := match x with
  | some x => e.set x (some d)
  | none => e
/-- o[k] = v -/
def putD (m : Mem) (o k v : D) : Option Mem := match o with
  | .loc n => match m[n]?, k with
    | some (.dk kvs), .str x => if kvs.length < sizeLine then some (m.set n (.dk (setK kvs (.inr x) v))) else none
    | _, _ => none
  | _ => none
def appD (m : Mem) (o v : D) : Option Mem := match o with
  | .loc n => match m[n]? with
    | some (.lst l) => if l.length < sizeLine then some (m.set n (.lst (l ++ [v]))) else none
    | _ => none
  | _ => none
mutual
noncomputable def execS (G : Sg) : S → Env → Mem → Fl
  | .drop c, e, m => (evalC G c e m).fl e fun _ m => .nx e m
  | .set i c, e, m => (evalC G c e m).fl e fun d m => .nx (e.set i (some d)) m
  | .unp t c, e, m => (evalC G c e m).fl e fun d m => match t.bind d e with | some e => .nx e m | none => .bad
  | .par is cs, e, m => (evalCs G cs e m).fl e fun ds m => .nx (setSome is ds e) m
  | .aug op i c, e, m => match e.getD i none with
    | some x => (evalC G c e m).fl e fun y m => match augD op x y with | some z => .nx (e.set i (some z)) m | none => .bad
    | none => .bad
  | .put o k v, e, m => (evalC G v e m).fl e fun v m => (evalC G o e m).fl e fun o m => (evalC G k e m).fl e fun k m =>
      match putD m o k v with | some m => .nx e m | none => .bad
  | .app i c, e, m => match e.getD i none with
    | some o => match rdL m o with
      | some _ => (evalC G c e m).fl e fun v m => match appD m o v with | some m => .nx e m | none => .bad
      | none => .bad
    | none => .bad
  | .meth x i me l, e, m => match e.getD i none with
    | some (.lst xs) => (evalCs G l e m).fl e fun ys m => match mtV me xs ys with
      | some (d, zs) => .nx ((setO x d e).set i (some (.lst zs))) m
      | none => .bad
    | _ => .bad
  | .mv i j, e, m => match e.getD j none with
    | some d => .nx ((e.set i (some d)).set j none) m
    | none => .bad
  | .ret c, e, m => (evalC G c e m).fl e fun d m => .rt d m
  | .retN, _, m => .rt .non m
  | .ite t a b, e, m => (evalT G t e m).fl e fun k m => if k then execSs G a e m else execSs G b e m
  | .for_ t it b, e, m => (evalIt G it e m).fl e fun s m => forGo s.stays (fun e m => execSs G b e m) t s.items e m
  | .while_ t b, e, m => whileF (fun e m => evalT G t e m) (fun e m => execSs G b e m) e m
  | .brk, e, m => .bk e m
  | .cont, e, m => .ct e m
  | .pass, e, m => .nx e m
  | .nev, _, _ => .bad
  | .unpS l c, e, m => (evalC G c e m).fl e fun d m => match starD l.num d with
    | some ds => match l.bind ds e with | some e => .nx e m | none => .bad
    | none => .bad
noncomputable def execSs (G : Sg) : Ss → Env → Mem → Fl
  | .nil, e, m => .nx e m
  | .cons s l, e, m => (execS G s e m).andThen fun e m => execSs G l e m
end
def Fl.out (f : Fl) : Out D := match f with
  | .rt d m => .ok d m
  | .nx _ m => .ok .non m
  | .exc x _ m => .exc x m
  | _ => .bad
/-- a def's body at its arguments -/
noncomputable def bodyD (G : Sg) (n : Nat) (b : Ss) (args : List D) (m : Mem) : Out D :=
  (execSs G b (args.map some ++ List.replicate (n - args.length) none) m).out
end Z
set_option maxHeartbeats 4000000
/-! X5: tuple * int at any count: the tuple itself (once, or empty), the empty one (never), a longer one. -/
namespace L2
open PySem PySem.Spec PyProof.Rows
/-- where a product holds no item twice: the tuple itself, or nothing -/
abbrev OneMul (items : Array Value) (x : Int) : Prop := (items.isEmpty || x == 1) = true
def tupObjX (items : Array Value) (n : Nat) (dd : Option Addr) (sl : Array (Option Value)) : Obj := ⟨.type "tuple", dd, .seq items n, sl⟩
theorem mulFew_meets {l : Addr} {items : Array Value} {n : Nat} {dd : Option Addr} {sl : Array (Option Value)} {x : Int} {u : Tok} (lo : -(2 ^ 63) ≤ x) (few : items.isEmpty = true ∨ x ≤ 1) (hi : x < 2 ^ 63) :
    Meets (Builtin.«tuple.__mul__» ⟨[.ref l, .int x u], []⟩) fun _ R s => s.heap.get? l = some (tupObjX items n dd sl) ∧ (OneMul items x → R (.ok (.ret (.ref l))) s) ∧
      (¬ OneMul items x → R (.ok (.ret (.ref s.heap.objs.size))) { s with heap := s.heap.push (tupObjX #[] 0 none #[]) }) := by
  refine .of_wp fun prog w A R s ⟨at_, yes, no⟩ => ?_
  obtain ⟨hp, g, d, tk, os⟩ := s
  unfold tupObjX at at_
  have fits : (decide (x < -(2 ^ 63)) || decide (x ≥ 2 ^ 63)) = false := by simp; omega
  have ix := AutoSeq1.idx_int
  by_cases same : OneMul items x
  · have res := yes same
    wp_walk using wpAny_loadPart' at_
    refine wpAny_ite_false (decide_eq_false (by rw [fits]; decide)) ?_
    wp_walk using wpAny_loadPart' at_
    exact ⟨_, rfl, res⟩
  · have res := no same
    have none_ : (decide (x ≤ 0) || items.isEmpty) = true := by
      simp only [OneMul, Bool.or_eq_true, beq_iff_eq, not_or] at same
      rcases few with z | z
      · exact absurd z same.1
      · rw [decide_eq_true (show x ≤ 0 by omega)]; rfl
    wp_walk using wpAny_loadPart' at_
    refine wpAny_ite_false (decide_eq_false (by rw [fits]; decide)) ?_
    wp_walk using wpAny_loadPart' at_
    exact ⟨_, rfl, res⟩
section
variable {prog : Program} {w : World} {A : Around} {s : Shared} {E Q : Value → Shared → Prop}
/-- the operator, at such a product -/
theorem mulFew_op {l : Addr} {items : Array Value} {n : Nat} {dd : Option Addr} {sl : Array (Option Value)} {x : Int} {u : Tok} (lo : -(2 ^ 63) ≤ x) (few : items.isEmpty = true ∨ x ≤ 1) (hi : x < 2 ^ 63)
    (at_ : s.heap.get? l = some (tupObjX items n dd sl)) (yes : OneMul items x → Q (.ref l) s) (no : ¬ OneMul items x → Q (.ref s.heap.objs.size) { s with heap := s.heap.push (tupObjX #[] 0 none #[]) }) : wpAny (model prog w) A (binaryOp .Mult (.ref l) (.int x u)) Q E s := by
  have ty : s.TypeIs (.ref l) "tuple" := ⟨_, at_, rfl⟩
  have inner := call_meets (Q := Q) (E := E) (A := A) (prog := prog) (w := w) F.slot_tuple_mul ty F.entry_tuple_mul (F.args_tuple_mul_2 _ _) (mulFew_meets (u := u) lo few hi) ⟨at_, yes, no⟩
  refine wpAny_binaryOp_repeat_ref (by decide) ty (fun z => typeIs_int z x u) noFill_tuple_mul F.fills_int_mul F.slot_int_rmul repeat_tuple F.slot_int_index.lookup ?_
  refine call_meets F.slot_int_rmul (typeIs_int s x u) F.entry_int_rmul (F.args_int_rmul_2 _ _) (int_rmul_tuple x u l items n dd sl) ⟨at_, rfl, ty, inner⟩
end
def rRepTA (K : PySem.W.Frag) : R2 := fun x y H Q => ∃ l k xs, x = .ref l ∧ y = .int k ∧ SqT K H l xs ∧ -(2 ^ 63) ≤ k ∧ k ≤ 1000 ∧ xs.length ≤ 1000 ∧
  (xs = [] ∨ k = 1 → Q (.ref l) H) ∧ (xs ≠ [] → k ≠ 1 → ∀ p, H p = none → Q (.ref p) (upd H p (.tup (List.replicate k.toNat xs).flatten)))
theorem op_repTA {X : Cx} : OpR X (binaryOp .Mult) (rRepTA X.K) := by
  rintro pins s σ H _ _ v u Q I rx ry ⟨l, k, xs, rfl, rfl, hT, lo, up, len, same, other⟩
  by_cases many : xs ≠ [] ∧ 2 ≤ k
  · exact op_repT pins s σ H _ _ v u Q I rx ry ⟨l, k, xs, rfl, rfl, hT, many.1, many.2, up, len, other many.1 (by omega)⟩
  · cases rx
    obtain ⟨t, rfl⟩ := ry
    obtain ⟨its, rel, ⟨⟨_, dd, _, sl⟩, at_, rfl, n, rfl⟩, _⟩ := I.tuple hT
    have nil : its.toArray.isEmpty = true ↔ xs = [] := by
      cases rel <;> simp
    have eqv : OneMul its.toArray k ↔ xs = [] ∨ k = 1 := by rw [OneMul, Bool.or_eq_true, nil, beq_iff_eq]
    have few_ : its.toArray.isEmpty = true ∨ k ≤ 1 := by
      by_cases e : xs = []
      · exact .inl (nil.mpr e)
      · exact .inr (by have : ¬ 2 ≤ k := fun two => many ⟨e, two⟩; omega)
    refine mulFew_op (n := n) (dd := dd) (sl := sl) lo (few_ ) (by omega) at_ (fun z => ⟨.ref l, H, I, rfl, same (eqv.mp z)⟩) fun z => ?_
    have apart := not_or.mp (mt eqv.mpr z)
    have none_ : k.toNat = 0 := by
      have := apart.1
      have : ¬ 2 ≤ k := fun two => many ⟨apart.1, two⟩
      have := apart.2
      omega
    have q := other apart.1 apart.2 _ (I.hok.fresh (Nat.le_refl _))
    rw [none_] at q
    exact ⟨V.ref s.heap.objs.size, _, I.laid (t' := s.toks) (o := .tup (List.replicate 0 xs).flatten) (fun b ob e => Heap.get?_push_of_some _ e) (Nat.le_refl _) ⟨Nat.zero_le _, [], .nil, IsTup.new _ _⟩, rfl, q⟩
end L2
/-! Z2: data in the abstract heap. -/
namespace Z
open PySem PySem.Spec PyProof.Rows L2

/-- what stands where: the places of the things that change, the lists that never will -/
structure Cfg where
  al : List Addr
  fz : Addr → Prop
/-- the fixed part: the written part of the heap, where each def stands -/
structure Bs where
  K : PySem.W.Frag
  fa : Nat → Option Addr
  /-- how many arguments a def takes by place -/
  ar : Nat → Option Nat
  /-- the classes of exceptions, their fields -/
  ec : Nat → Option (Addr × List Str)

mutual
inductive Den (B : Bs) (g : Cfg) (H : Hp) : V → D → Prop
  | non : Den B g H .non .non
  | bl (b : Bool) : Den B g H (.bl b) (.bl b)
  | int (i : Int) : Den B g H (.int i) (.int i)
  | str (s : Str) : Den B g H (.str s) (.str s)
  | tup {a : Addr} {xs : List V} {l : List D} : SqT B.K H a xs → Dens B g H xs l → Den B g H (.ref a) (.tup l)
  | lst {a : Addr} {xs : List V} {l : List D} : g.fz a → H a = some (.lst xs) → Dens B g H xs l → Den B g H (.ref a) (.lst l)
  | scr {a : Addr} {l : List Int} {o : Obj} : H a = some (.frz o (.lst (l.map V.int))) → Den B g H (.ref a) (.scr l)
  | scrK {a : Addr} {l : List Int} : (∀ H', SqL B.K H' a (l.map V.int)) → Den B g H (.ref a) (.scr l)
  | loc {a : Addr} {n : Nat} : g.al[n]? = some a → Den B g H (.ref a) (.loc n)
  | fn {a : Addr} {n c : Nat} : B.fa n = some a → B.ar n = some c → Den B g H (.ref a) (.fn n c)
  | ty (s : String) : Den B g H (.ty s) (.ty s)
  | dct {a : Addr} {kvs : List (Key × V)} {ks : List Key} {vs : List D} : g.fz a → H a = some (.dK kvs) → kvs.map (·.1) = ks → Dens B g H (kvs.map (·.2)) vs → Den B g H (.ref a) (.dct ks vs)
inductive Dens (B : Bs) (g : Cfg) (H : Hp) : List V → List D → Prop
  | nil : Dens B g H [] []
  | cons {v : V} {vs : List V} {d : D} {l : List D} : Den B g H v d → Dens B g H vs l → Dens B g H (v :: vs) (d :: l)
end
variable {B : Bs} {g g' g1 g2 : Cfg} {H H' H1 H2 : Hp} {m m' : Mem}

/-- a thing that changes, at its place -/
def MoR (B : Bs) (g : Cfg) (H : Hp) (a : Addr) : MO → Prop
  | .lst l => ∃ xs, H a = some (.lst xs) ∧ Dens B g H xs l
  | .dk kvs => ∃ ks, H a = some (.dK ks) ∧ Paired (fun (p : Key × V) (q : Key × D) => p.1 = q.1 ∧ Den B g H p.2 q.2) ks kvs
  | .ins _ _ => False

/-- a list or a dict -/
def Stood (H : Hp) (a : Addr) : Prop := (∃ xs, H a = some (.lst xs)) ∨ ∃ ks, H a = some (.dK ks)
theorem Stood.to {H H' : Hp} {a : Addr} (h : Stood H a) (e : ∀ o, H a = some o → H' a = some o) : Stood H' a := by
  rcases h with ⟨xs, q⟩ | ⟨xs, q⟩
  · exact .inl ⟨xs, e _ q⟩
  · exact .inr ⟨xs, e _ q⟩
theorem Stood.not {H : Hp} {a : Addr} (h : Stood H a) (e : H a = none) : False := by
  rcases h with ⟨_, q⟩ | ⟨_, q⟩ <;> (rw [e] at q; cases q)
structure Rl (B : Bs) (g : Cfg) (m : Mem) (H : Hp) : Prop where
  nd : g.al.Nodup
  len : g.al.length = m.length
  mem : ∀ (n : Nat) (a : Addr) (mo : MO), g.al[n]? = some a → m[n]? = some mo → MoR B g H a mo
  sep : ∀ a ∈ g.al, ¬ g.fz a
  trk : ∀ a, g.fz a → Stood H a

/-- what a step leaves -/
structure Mon (g : Cfg) (H : Hp) (g' : Cfg) (H' : Hp) : Prop where
  pre : ∃ t, g'.al = g.al ++ t
  sub : ∀ a, g.fz a → g'.fz a
  kf : ∀ a xs, g.fz a → H a = some (.lst xs) → H' a = some (.lst xs)
  kd : ∀ a ks, g.fz a → H a = some (.dK ks) → H' a = some (.dK ks)
  kt : ∀ a xs, H a = some (.tup xs) → H' a = some (.tup xs)
  kz : ∀ a o u, H a = some (.frz o u) → H' a = some (.frz o u)
structure Ext (g : Cfg) (H : Hp) (g' : Cfg) (H' : Hp) : Prop where
  pre : ∃ t, g'.al = g.al ++ t
  sub : ∀ a, g.fz a → g'.fz a
  keep : ∀ a o, H a = some o → a ∉ g.al → H' a = some o
  newF : ∀ a, g'.fz a → g.fz a ∨ H a = none
  newA : ∀ a ∈ g'.al, a ∈ g.al ∨ H a = none
  trk : ∀ a, H a ≠ none → H' a ≠ none
theorem Ext.refl (g : Cfg) (H : Hp) : Ext g H g H := ⟨⟨[], by simp⟩, fun _ h => h, fun _ _ h _ => h, fun _ h => .inl h, fun _ h => .inl h, fun _ h => h⟩
theorem Ext.trans (a : Ext g H g1 H1) (b : Ext g1 H1 g2 H2) : Ext g H g2 H2 := by
  have non : ∀ {x : Addr}, H1 x = none → H x = none := fun {x} h => by
    cases e : H x with
    | none => rfl
    | some o => exact absurd h (a.trk x (by rw [e]; simp))
  refine ⟨?_, fun x h => b.sub x (a.sub x h), fun x o h hn => ?_, fun x h => ?_, fun x h => ?_, fun x h => b.trk x (a.trk x h)⟩
  · obtain ⟨t, e⟩ := a.pre
    obtain ⟨u, e2⟩ := b.pre
    exact ⟨t ++ u, by rw [e2, e, List.append_assoc]⟩
  · refine b.keep x o (a.keep x o h hn) fun hx => ?_
    rcases a.newA x hx with z | z
    · exact hn z
    · rw [z] at h; cases h
  · rcases b.newF x h with z | z
    · exact a.newF x z
    · exact .inr (non z)
  · rcases b.newA x h with z | z
    · exact a.newA x z
    · exact .inr (non z)

theorem Rl.alive (R : Rl B g m H) {a : Addr} (h : a ∈ g.al) : (∃ xs, H a = some (.lst xs)) ∨ ∃ ks, H a = some (.dK ks) := by
  obtain ⟨n, hn, e⟩ := List.getElem_of_mem h
  have h1 : g.al[n]? = some a := by rw [List.getElem?_eq_getElem hn, e]
  have hm : n < m.length := by rw [← R.len]; exact hn
  have q := R.mem n a m[n] h1 (List.getElem?_eq_getElem hm)
  cases e2 : m[n] with
  | lst l => rw [e2] at q; obtain ⟨xs, h, _⟩ := q; exact .inl ⟨xs, h⟩
  | dk kvs => rw [e2] at q; obtain ⟨ks, h, _⟩ := q; exact .inr ⟨ks, h⟩
  | ins c fs => rw [e2] at q; exact q.elim
theorem Rl.tupOut (R : Rl B g m H) {a : Addr} {xs : List V} (h : H a = some (.tup xs)) : a ∉ g.al := fun z => by
  rcases R.alive z with ⟨_, q⟩ | ⟨_, q⟩ <;> (rw [h] at q; cases q)
theorem Rl.frzOut (R : Rl B g m H) {a : Addr} {o : Obj} {u : HO} (h : H a = some (.frz o u)) : a ∉ g.al := fun z => by
  rcases R.alive z with ⟨_, q⟩ | ⟨_, q⟩ <;> (rw [h] at q; cases q)
theorem Ext.toMon (x : Ext g H g' H') (R : Rl B g m H) : Mon g H g' H' :=
  ⟨x.pre, x.sub, fun a xs f h => x.keep a _ h fun z => R.sep a z f, fun a xs f h => x.keep a _ h fun z => R.sep a z f, fun a xs h => x.keep a _ h (R.tupOut h), fun a o u h => x.keep a _ h (R.frzOut h)⟩
theorem Mon.sqT (x : Mon g H g' H') (R : Rl B g m H) {a : Addr} {xs : List V} (h : SqT B.K H a xs) : SqT B.K H' a xs := by
  rcases h with (h | ⟨o, h⟩) | h
  · exact .inl (.inl (x.kt _ _ h))
  · exact .inl (.inr ⟨o, x.kz _ _ _ h⟩)
  · exact .inr h
mutual
theorem Den.mon (x : Mon g H g' H') (R : Rl B g m H) : ∀ {v : V} {d : D}, Den B g H v d → Den B g' H' v d
  | _, _, .non => .non
  | _, _, .bl b => .bl b
  | _, _, .int i => .int i
  | _, _, .str s => .str s
  | _, _, .tup h r => .tup (x.sqT R h) (Dens.mon x R r)
  | _, _, .lst f h r => .lst (x.sub _ f) (x.kf _ _ f h) (Dens.mon x R r)
  | _, _, .scr h => .scr (x.kz _ _ _ h)
  | _, _, .scrK h => .scrK h
  | _, _, .loc (n := n) h => .loc (by
      obtain ⟨t, e⟩ := x.pre
      rw [e]
      have hn : n < g.al.length := (List.getElem?_eq_some_iff.mp h).1
      rw [List.getElem?_append_left hn]
      exact h)
  | _, _, .fn h h2 => .fn h h2
  | _, _, .ty s => .ty s
  | _, _, .dct f h e r => .dct (x.sub _ f) (x.kd _ _ f h) e (Dens.mon x R r)
theorem Dens.mon (x : Mon g H g' H') (R : Rl B g m H) : ∀ {vs : List V} {l : List D}, Dens B g H vs l → Dens B g' H' vs l
  | _, _, .nil => .nil
  | _, _, .cons h r => .cons (Den.mon x R h) (Dens.mon x R r)
end
theorem Den.ext (x : Ext g H g' H') (R : Rl B g m H) {v : V} {d : D} (h : Den B g H v d) : Den B g' H' v d := h.mon (x.toMon R) R
theorem Dens.ext (x : Ext g H g' H') (R : Rl B g m H) {v : List V} {d : List D} (h : Dens B g H v d) : Dens B g' H' v d := h.mon (x.toMon R) R
theorem Dens.length : ∀ {vs : List V} {l : List D}, Dens B g H vs l → vs.length = l.length
  | _, _, .nil => rfl
  | _, _, .cons _ r => by rw [List.length_cons, List.length_cons, Dens.length r]
theorem Dens.append : ∀ {vs ws : List V} {l k : List D}, Dens B g H vs l → Dens B g H ws k → Dens B g H (vs ++ ws) (l ++ k)
  | _, _, _, _, .nil, s => s
  | _, _, _, _, .cons h r, s => .cons h (Dens.append r s)
theorem Dens.take : ∀ {vs : List V} {l : List D} (n : Nat), Dens B g H vs l → Dens B g H (vs.take n) (l.take n)
  | _, _, 0, _ => by simp only [List.take_zero]; exact .nil
  | _, _, n + 1, .nil => .nil
  | _, _, n + 1, .cons h r => .cons h (Dens.take n r)
theorem Dens.drop : ∀ {vs : List V} {l : List D} (n : Nat), Dens B g H vs l → Dens B g H (vs.drop n) (l.drop n)
  | _, _, 0, r => r
  | _, _, n + 1, .nil => .nil
  | _, _, n + 1, .cons _ r => Dens.drop n r
theorem Dens.reverse : ∀ {vs : List V} {l : List D}, Dens B g H vs l → Dens B g H vs.reverse l.reverse
  | _, _, .nil => .nil
  | _, _, .cons h r => by rw [List.reverse_cons, List.reverse_cons]; exact (Dens.reverse r).append (.cons h .nil)
theorem Dens.get : ∀ {vs : List V} {l : List D} {i : Nat} {d : D}, Dens B g H vs l → l[i]? = some d → ∃ v, vs[i]? = some v ∧ Den B g H v d
  | _, _, _, _, .nil, e => by simp at e
  | _, _, 0, d, .cons h _, e => by simp at e; subst e; exact ⟨_, rfl, h⟩
  | _, _, i + 1, d, .cons _ r, e => by
    obtain ⟨v, h1, h2⟩ := Dens.get (i := i) (d := d) r (by simpa using e)
    exact ⟨v, by simpa using h1, h2⟩
theorem Dens.rep {vs : List V} {l : List D} (h : Dens B g H vs l) : ∀ k : Nat, Dens B g H (List.replicate k vs).flatten (List.replicate k l).flatten
  | 0 => .nil
  | k + 1 => by
    rw [List.replicate_succ, List.replicate_succ, List.flatten_cons, List.flatten_cons]
    exact h.append (Dens.rep h k)
theorem Dens.ints : ∀ {vs : List V} {ns : List Int}, Dens B g H vs (ns.map D.int) → vs = ns.map V.int
  | _, [], .nil => rfl
  | _, n :: ns, .cons h r => by
    cases h
    rw [Dens.ints r, List.map_cons]
theorem Dens.of_ints : ∀ ns : List Int, Dens B g H (ns.map V.int) (ns.map D.int)
  | [] => .nil
  | n :: ns => .cons (.int n) (Dens.of_ints ns)
theorem asInts_eq : ∀ {l : List D} {ns : List Int}, asInts l = some ns → l = ns.map D.int
  | [], ns, h => by simp [asInts] at h; subst h; rfl
  | d :: l, ns, h => by
    cases d <;> simp [asInts] at h
    obtain ⟨ks, h1, h2⟩ := h
    subst h2
    rw [asInts_eq h1, List.map_cons]
theorem asBools_eq : ∀ {l : List D} {ns : List Bool}, asBools l = some ns → l = ns.map D.bl
  | [], ns, h => by simp [asBools] at h; subst h; rfl
  | d :: l, ns, h => by
    cases d <;> simp [asBools] at h
    obtain ⟨ks, h1, h2⟩ := h
    subst h2
    rw [asBools_eq h1, List.map_cons]
theorem Dens.bls : ∀ {vs : List V} {ns : List Bool}, Dens B g H vs (ns.map D.bl) → vs = ns.map V.bl
  | _, [], .nil => rfl
  | _, n :: ns, .cons h r => by
    cases h
    rw [Dens.bls r, List.map_cons]

theorem Mon.trans (a : Mon g H g1 H1) (b : Mon g1 H1 g2 H2) : Mon g H g2 H2 :=
  ⟨let ⟨t, e⟩ := a.pre; let ⟨u, e2⟩ := b.pre; ⟨t ++ u, by rw [e2, e, List.append_assoc]⟩, fun x h => b.sub x (a.sub x h), fun x xs f h => b.kf x xs (a.sub x f) (a.kf x xs f h), fun x xs f h => b.kd x xs (a.sub x f) (a.kd x xs f h), fun x xs h => b.kt x xs (a.kt x xs h), fun x o u h => b.kz x o u (a.kz x o u h)⟩
/-! ### new things -/
/-- a new object at p that is not listed in any way -/
theorem Ext.upd (R : Rl B g m H) {p : Addr} {o : HO} (hp : H p = none) : Ext g H g (L2.upd H p o) :=
  ⟨⟨[], by simp⟩, fun _ h => h, fun a o' h _ => by rw [upd_ne (ne_of_none h hp)]; exact h, fun _ h => .inl h, fun _ h => .inl h, fun a h => by
    by_cases e : a = p
    · subst e; rw [upd_same]; simp
    · rw [upd_ne e]; exact h⟩
theorem MoR.ext (x : Mon g H g' H') (R : Rl B g m H) (hk : ∀ a ∈ g.al, H' a = H a) {a : Addr} {mo : MO} (ha : a ∈ g.al) (h : MoR B g H a mo) : MoR B g' H' a mo := by
  cases mo with
  | lst l =>
    obtain ⟨xs, h1, h2⟩ := h
    exact ⟨xs, by rw [hk a ha]; exact h1, h2.mon x R⟩
  | dk kvs =>
    obtain ⟨ks, h1, h2⟩ := h
    exact ⟨ks, by rw [hk a ha]; exact h1, Paired.mapP h2 fun p q z => ⟨z.1, z.2.mon x R⟩⟩
  | ins c fs => exact h.elim
theorem Rl.fzNone (R : Rl B g m H) {p : Addr} (hp : H p = none) : ¬ g.fz p := fun z => (R.trk p z).not hp
theorem Rl.notIn (R : Rl B g m H) {p : Addr} (hp : H p = none) : p ∉ g.al := fun z => by
  rcases R.alive z with ⟨_, q⟩ | ⟨_, q⟩ <;> (rw [hp] at q; cases q)
theorem Rl.upd (R : Rl B g m H) {p : Addr} {o : HO} (hp : H p = none) : Rl B g m (L2.upd H p o) := by
  have np := R.notIn hp
  refine ⟨R.nd, R.len, fun n a mo h1 h2 => ?_, R.sep, fun a h => ?_⟩
  · have ha : a ∈ g.al := List.mem_of_getElem? h1
    exact MoR.ext ((Ext.upd R hp).toMon R) R (fun b hb => upd_ne fun e => np (e ▸ hb)) ha (R.mem n a mo h1 h2)
  · exact (R.trk a h).to fun o q => by rw [upd_ne (ne_of_none q hp)]; exact q
/-- more lists told never to change -/
def Cfg.frz (g : Cfg) (p : Addr) : Cfg := ⟨g.al, fun a => g.fz a ∨ a = p⟩
theorem Ext.frzO (R : Rl B g m H) {p : Addr} (hp : H p = none) {o : HO} : Ext g H (g.frz p) (L2.upd H p o) := by
  have x := Ext.upd R (o := o) hp
  exact ⟨⟨[], by simp [Cfg.frz]⟩, fun _ h => .inl h, x.keep, fun a h => h.elim .inl fun e => .inr (by rw [e]; exact hp), fun _ h => .inl h, x.trk⟩
theorem Ext.frz (R : Rl B g m H) {p : Addr} (hp : H p = none) {xs : List V} : Ext g H (g.frz p) (L2.upd H p (.lst xs)) := Ext.frzO R hp
theorem Rl.frz (R : Rl B g m H) {p : Addr} (hp : H p = none) {xs : List V} : Rl B (g.frz p) m (L2.upd H p (.lst xs)) := by
  have np := R.notIn hp
  refine ⟨R.nd, R.len, fun n a mo h1 h2 => ?_, fun a ha h => ?_, fun a h => ?_⟩
  · have ha : a ∈ g.al := List.mem_of_getElem? h1
    exact MoR.ext ((Ext.frz R hp).toMon R) R (fun b hb => upd_ne fun e => np (e ▸ hb)) ha (R.mem n a mo h1 h2)
  · rcases h with h | h
    · exact R.sep a ha h
    · exact np (h ▸ ha)
  · rcases h with h | h
    · exact (R.trk a h).to fun o q => by rw [upd_ne (ne_of_none q hp)]; exact q
    · exact .inl ⟨xs, by rw [h, upd_same]⟩
/-- a new thing that changes -/
def Cfg.more (g : Cfg) (p : Addr) : Cfg := ⟨g.al ++ [p], g.fz⟩
theorem Ext.more (R : Rl B g m H) {p : Addr} (hp : H p = none) {o : HO} : Ext g H (g.more p) (L2.upd H p o) := by
  have x := Ext.upd R (o := o) hp
  exact ⟨⟨[p], rfl⟩, fun _ h => h, x.keep, fun a h => .inl h, fun a h => by
    rcases List.mem_append.mp h with h | h
    · exact .inl h
    · rw [List.mem_singleton.mp h]; exact .inr hp, x.trk⟩
theorem Rl.more (R : Rl B g m H) {p : Addr} (hp : H p = none) {o : HO} {mo : MO} (hm : MoR B (g.more p) (L2.upd H p o) p mo) : Rl B (g.more p) (m ++ [mo]) (L2.upd H p o) := by
  have np := R.notIn hp
  have nf : ¬ g.fz p := R.fzNone hp
  refine ⟨?_, by simp [Cfg.more, R.len], fun n a mo' h1 h2 => ?_, fun a ha h => ?_, fun a h => ?_⟩
  · show (g.al ++ [p]).Nodup
    rw [List.nodup_append]
    exact ⟨R.nd, by simp, fun a ha b hb e => np (by rw [List.mem_singleton.mp hb] at e; exact e ▸ ha)⟩
  · have h1 : (g.al ++ [p])[n]? = some a := h1
    by_cases hn : n < g.al.length
    · rw [List.getElem?_append_left hn] at h1
      rw [List.getElem?_append_left (by rw [← R.len]; exact hn)] at h2
      have ha : a ∈ g.al := List.mem_of_getElem? h1
      exact MoR.ext ((Ext.more R hp).toMon R) R (fun b hb => upd_ne fun e => np (e ▸ hb)) ha (R.mem n a mo' h1 h2)
    · rw [List.getElem?_append_right (Nat.le_of_not_lt hn)] at h1
      rw [List.getElem?_append_right (by rw [← R.len]; exact Nat.le_of_not_lt hn)] at h2
      have hz : n - g.al.length = 0 := by
        cases q : n - g.al.length with
        | zero => rfl
        | succ k => rw [q] at h1; simp at h1
      rw [hz] at h1
      rw [← R.len, hz] at h2
      simp at h1 h2
      subst h1 h2
      exact hm
  · rcases List.mem_append.mp ha with ha | ha
    · exact R.sep a ha h
    · rw [List.mem_singleton.mp ha] at h
      exact nf h
  · exact (R.trk a h).to fun o q => by rw [upd_ne (ne_of_none q hp)]; exact q
/-- a thing changed -/
theorem Ext.put (R : Rl B g m H) {n : Nat} {a : Addr} (ha : g.al[n]? = some a) {o : HO} : Ext g H g (L2.upd H a o) := by
  have hm := List.mem_of_getElem? ha
  exact ⟨⟨[], by simp⟩, fun _ h => h, fun b o' h hb => by rw [upd_ne (show b ≠ a from fun e => hb (e ▸ hm))]; exact h, fun _ h => .inl h, fun _ h => .inl h, fun b h => by
    by_cases e : b = a
    · subst e; rw [upd_same]; simp
    · rw [upd_ne e]; exact h⟩
theorem Rl.put (R : Rl B g m H) {n : Nat} {a : Addr} (ha : g.al[n]? = some a) {o : HO} {mo : MO} (hm : MoR B g (L2.upd H a o) a mo) : Rl B g (m.set n mo) (L2.upd H a o) := by
  have x := Ext.put R ha (o := o)
  have hma := List.mem_of_getElem? ha
  refine ⟨R.nd, by rw [List.length_set]; exact R.len, fun k b mo' h1 h2 => ?_, R.sep, fun b h => ?_⟩
  · by_cases hk : n = k
    · subst hk
      rw [ha] at h1; cases h1
      have hl : n < m.length := by rw [← R.len]; exact (List.getElem?_eq_some_iff.mp ha).1
      rw [List.getElem?_set_self hl] at h2
      cases h2
      exact hm
    · rw [List.getElem?_set_ne hk] at h2
      have hb : b ∈ g.al := List.mem_of_getElem? h1
      have nb : b ≠ a := fun e => by
        subst e
        obtain ⟨i1, e1⟩ := List.getElem?_eq_some_iff.mp h1
        obtain ⟨i2, e2⟩ := List.getElem?_eq_some_iff.mp ha
        exact hk ((List.getElem_inj R.nd).mp (e2.trans e1.symm))
      have q := R.mem k b mo' h1 h2
      cases mo' with
      | lst l =>
        obtain ⟨xs, q1, q2⟩ := q
        exact ⟨xs, by rw [upd_ne nb]; exact q1, q2.ext x R⟩
      | dk kvs =>
        obtain ⟨ks, q1, q2⟩ := q
        exact ⟨ks, by rw [upd_ne nb]; exact q1, Paired.mapP q2 fun p q z => ⟨z.1, z.2.ext x R⟩⟩
      | ins c fs => exact q.elim
  · exact (R.trk b h).to fun o q => by rw [upd_ne (show b ≠ a from fun e => R.sep a hma (e ▸ h))]; exact q

/-! ### adopting what stands already -/
theorem Mon.frz (g : Cfg) (H : Hp) (a : Addr) : Mon g H (g.frz a) H := ⟨⟨[], by simp [Cfg.frz]⟩, fun _ h => .inl h, fun _ _ _ h => h, fun _ _ _ h => h, fun _ _ h => h, fun _ _ _ h => h⟩
theorem Mon.more (g : Cfg) (H : Hp) (a : Addr) : Mon g H (g.more a) H := ⟨⟨[a], rfl⟩, fun _ h => h, fun _ _ _ h => h, fun _ _ _ h => h, fun _ _ h => h, fun _ _ _ h => h⟩
theorem Ext.adoptF {g0 : Cfg} {H0 : Hp} (x : Ext g0 H0 g H) {a : Addr} (h : H0 a = none) : Ext g0 H0 (g.frz a) H :=
  ⟨x.pre, fun b h => .inl (x.sub b h), x.keep, fun b hb => hb.elim (x.newF b) fun e => .inr (by rw [e]; exact h), x.newA, x.trk⟩
theorem Ext.adoptA {g0 : Cfg} {H0 : Hp} (x : Ext g0 H0 g H) {a : Addr} (h : H0 a = none) : Ext g0 H0 (g.more a) H :=
  ⟨let ⟨t, e⟩ := x.pre; ⟨t ++ [a], by show g.al ++ [a] = _; rw [e, List.append_assoc]⟩, x.sub, x.keep, x.newF, fun b hb => by
    rcases List.mem_append.mp hb with z | z
    · exact x.newA b z
    · rw [List.mem_singleton.mp z]; exact .inr h, x.trk⟩
theorem Rl.adoptO (R : Rl B g m H) {a : Addr} (na : a ∉ g.al) (h : Stood H a) : Rl B (g.frz a) m H :=
  ⟨R.nd, R.len, fun n b mo h1 h2 => MoR.ext (Mon.frz g H a) R (fun _ _ => rfl) (List.mem_of_getElem? h1) (R.mem n b mo h1 h2), fun b hb h => h.elim (R.sep b hb) fun e => na (e ▸ hb),
    fun b hb => hb.elim (R.trk b) fun e => by rw [e]; exact h⟩
theorem Rl.adoptF (R : Rl B g m H) {a : Addr} {xs : List V} (na : a ∉ g.al) (h : H a = some (.lst xs)) : Rl B (g.frz a) m H := R.adoptO na (.inl ⟨xs, h⟩)
theorem Rl.adoptA (R : Rl B g m H) {a : Addr} {mo : MO} (na : a ∉ g.al) (nf : ¬ g.fz a) (hm : MoR B (g.more a) H a mo) : Rl B (g.more a) (m ++ [mo]) H := by
  refine ⟨?_, by simp [Cfg.more, R.len], fun n b mo' h1 h2 => ?_, fun b hb h => ?_, R.trk⟩
  · show (g.al ++ [a]).Nodup
    rw [List.nodup_append]
    exact ⟨R.nd, by simp, fun x hx y hy e => na (by rw [List.mem_singleton.mp hy] at e; exact e ▸ hx)⟩
  · have h1 : (g.al ++ [a])[n]? = some b := h1
    by_cases hn : n < g.al.length
    · rw [List.getElem?_append_left hn] at h1
      rw [List.getElem?_append_left (by rw [← R.len]; exact hn)] at h2
      exact MoR.ext (Mon.more g H a) R (fun _ _ => rfl) (List.mem_of_getElem? h1) (R.mem n b mo' h1 h2)
    · rw [List.getElem?_append_right (Nat.le_of_not_lt hn)] at h1
      rw [List.getElem?_append_right (by rw [← R.len]; exact Nat.le_of_not_lt hn)] at h2
      have hz : n - g.al.length = 0 := by
        cases q : n - g.al.length with
        | zero => rfl
        | succ k => rw [q] at h1; simp at h1
      rw [hz] at h1
      rw [← R.len, hz] at h2
      simp at h1 h2
      subst h1 h2
      exact hm
  · rcases List.mem_append.mp hb with hb | hb
    · exact R.sep b hb h
    · rw [List.mem_singleton.mp hb] at h
      exact nf h

/-- an object that is nobody's is changed -/
def isLD : HO → Bool
  | .lst _ => true
  | .dK _ => true
  | _ => false
theorem Rl.updOut (R : Rl B g m H) {p : Addr} {o0 o : HO} (h : H p = some o0) (h0 : isLD o0 = true) (np : p ∉ g.al) (nf : ¬ g.fz p) : Mon g H g (L2.upd H p o) ∧ Rl B g m (L2.upd H p o) := by
  have nt : ∀ a u, H a = some u → isLD u = false → a ≠ p := fun a u h1 h2 e => by
    rw [e, h] at h1; cases h1; rw [h0] at h2; cases h2
  have x : Mon g H g (L2.upd H p o) := ⟨⟨[], by simp⟩, fun _ h => h, fun a xs f h1 => by rw [upd_ne (show a ≠ p from fun e => nf (e ▸ f))]; exact h1, fun a xs f h1 => by rw [upd_ne (show a ≠ p from fun e => nf (e ▸ f))]; exact h1,
    fun a xs h1 => by rw [upd_ne (nt a _ h1 rfl)]; exact h1, fun a o u h1 => by rw [upd_ne (nt a _ h1 rfl)]; exact h1⟩
  refine ⟨x, R.nd, R.len, fun n a mo h1 h2 => ?_, R.sep, fun a h1 => ?_⟩
  · have ha : a ∈ g.al := List.mem_of_getElem? h1
    exact MoR.ext x R (fun b hb => upd_ne fun e => np (e ▸ hb)) ha (R.mem n a mo h1 h2)
  · exact (R.trk a h1).to fun o q => by rw [upd_ne (show a ≠ p from fun e => nf (e ▸ h1))]; exact q

/-- the slots -/
structure EnvR (B : Bs) (g : Cfg) (H : Hp) (σ : L2.St) (e : Env) : Prop where
  len : e.length = σ.length
  at_ : ∀ (i : Nat) (d : D), e[i]? = some (some d) → ∃ v, σ[i]? = some (some v) ∧ Den B g H v d
theorem EnvR.ext {σ : L2.St} {e : Env} (x : Ext g H g' H') (R : Rl B g m H) (E : EnvR B g H σ e) : EnvR B g' H' σ e :=
  ⟨E.len, fun i d h => let ⟨v, h1, h2⟩ := E.at_ i d h; ⟨v, h1, h2.ext x R⟩⟩
theorem EnvR.mon {σ : L2.St} {e : Env} (x : Mon g H g' H') (R : Rl B g m H) (E : EnvR B g H σ e) : EnvR B g' H' σ e :=
  ⟨E.len, fun i d h => let ⟨v, h1, h2⟩ := E.at_ i d h; ⟨v, h1, h2.mon x R⟩⟩
theorem EnvR.set {σ : L2.St} {e : Env} (E : EnvR B g H σ e) (i : Nat) {v : V} {d : D} (h : Den B g H v d) : EnvR B g H (σ.set i (some v)) (e.set i (some d)) := by
  refine ⟨by rw [List.length_set, List.length_set]; exact E.len, fun j d' h1 => ?_⟩
  by_cases hj : i = j
  · subst hj
    have hl : i < e.length := by
      have := (List.getElem?_eq_some_iff.mp h1).1
      rwa [List.length_set] at this
    rw [List.getElem?_set_self hl] at h1
    cases h1
    exact ⟨v, by rw [List.getElem?_set_self (by rw [← E.len]; exact hl)], h⟩
  · rw [List.getElem?_set_ne hj] at h1
    obtain ⟨w, h2, h3⟩ := E.at_ j d' h1
    exact ⟨w, by rw [List.getElem?_set_ne hj]; exact h2, h3⟩
theorem EnvR.wipe {σ : L2.St} {e : Env} (E : EnvR B g H σ e) : ∀ vs : List Nat, EnvR B g H (L2.wipe σ vs) (Z.wipe e vs)
  | [] => E
  | v :: vs => by
    have ih := EnvR.wipe E vs
    unfold L2.wipe Z.wipe
    refine ⟨by rw [List.length_set, List.length_set]; exact ih.len, fun j d' h1 => ?_⟩
    by_cases hj : v = j
    · subst hj
      have hl : v < (Z.wipe e vs).length := by
        have := (List.getElem?_eq_some_iff.mp h1).1
        rwa [List.length_set] at this
      rw [List.getElem?_set_self hl] at h1
      cases h1
    · rw [List.getElem?_set_ne hj] at h1
      obtain ⟨w, h2, h3⟩ := ih.at_ j d' h1
      exact ⟨w, by rw [List.getElem?_set_ne hj]; exact h2, h3⟩
theorem EnvR.unset {σ : L2.St} {e : Env} (E : EnvR B g H σ e) (j : Nat) : EnvR B g H σ (e.set j none) := by
  refine ⟨by rw [List.length_set]; exact E.len, fun k d h1 => ?_⟩
  by_cases hj : j = k
  · subst hj
    have hl : j < e.length := by
      have := (List.getElem?_eq_some_iff.mp h1).1
      rwa [List.length_set] at this
    rw [List.getElem?_set_self hl] at h1
    cases h1
  · rw [List.getElem?_set_ne hj] at h1
    exact E.at_ k d h1
theorem EnvR.get {σ : L2.St} {e : Env} (E : EnvR B g H σ e) {i : Nat} {d : D} (h : e.getD i none = some d) : ∃ v, σ[i]? = some (some v) ∧ Den B g H v d := by
  refine E.at_ i d ?_
  rw [List.getD_eq_getElem?_getD] at h
  cases q : e[i]? with
  | none => rw [q] at h; cases h
  | some o => rw [q] at h; simp at h; rw [h]

/-! ### readings -/
/-- what is wanted of an exception: its class and dict by the class's number -/
abbrev XW := Ex → Cfg → Mem → Hp → Prop
/-- .. at a place of a body: the slots, what they stand for -/
abbrev WE := L2.St → Env → XW
def Post (B : Bs) (g : Cfg) (H : Hp) (W : XW) {α : Type} (R : Cfg → Mem → Hp → α → Prop) : Out α → Prop
  | .ok a m' => ∀ g' H', Ext g H g' H' → Rl B g' m' H' → R g' m' H' a
  | .exc x m' => ∀ g' H', Ext g H g' H' → Rl B g' m' H' → W x g' m' H'
  | .bad => False
theorem Post.ext {W : XW} {α : Type} {R : Cfg → Mem → Hp → α → Prop} {o : Out α} (x : Ext g H g1 H1) (h : Post B g H W R o) : Post B g1 H1 W R o := by
  cases o with
  | ok a m' => exact fun g' H' y r => h g' H' (x.trans y) r
  | exc a m' => exact fun g' H' y r => h g' H' (x.trans y) r
  | bad => exact h
/-- the reading of an expression's code -/
def tEv (B : Bs) (G : Sg) (W : WE) (c : C) : TE := fun σ H Q => ∃ g m e, Rl B g m H ∧ EnvR B g H σ e ∧
  Post B g H (W σ e) (fun g' m' H' d => ∀ v, Den B g' H' v d → Q v H') (evalC G c e m)
def tEvs (B : Bs) (G : Sg) (W : WE) (l : Cs) : TA := fun σ H Q => ∃ g m e, Rl B g m H ∧ EnvR B g H σ e ∧
  Post B g H (W σ e) (fun g' m' H' ds => ∀ vs, Dens B g' H' vs ds → Q vs H') (evalCs G l e m)
def tEvT (B : Bs) (G : Sg) (W : WE) (c : C) : TT := fun σ H Q => ∃ g m e, Rl B g m H ∧ EnvR B g H σ e ∧
  Post B g H (W σ e) (fun g' m' H' k => Q k H') (evalT G c e m)
end Z
/-! Z3: expressions. -/
namespace Z
open PySem PySem.Spec PyProof.Rows L2
variable {B : Bs} {G : Sg} {W : WE} {U : XW} {X : Cx} {g g' g1 g2 : Cfg} {H H' H1 H2 : Hp} {m m' m1 : Mem}

theorem peI {e : Expr} {t t' : TE} (h : PE X e t) (i : ∀ σ H Q, t' σ H Q → t σ H Q) : PE X e t' := ⟨fun pins s σ H Q I q => h.run pins s σ H Q I (i σ H Q q)⟩
theorem ptI {e : Expr} {t t' : TT} (h : PT X e t) (i : ∀ σ H Q, t' σ H Q → t σ H Q) : PT X e t' := ⟨fun pins s σ H Q I q => h.run pins s σ H Q I (i σ H Q q)⟩
theorem paI {es : List Expr} {t t' : TA} (h : PA X es t) (i : ∀ σ H Q, t' σ H Q → t σ H Q) : PA X es t' := ⟨fun pos pins s σ H Q I q => h.run pos pins s σ H Q I (i σ H Q q)⟩
theorem Post.imp {α : Type} {R R' : Cfg → Mem → Hp → α → Prop} {o : Out α} (h : Post B g H U R o) (i : ∀ g' m' H' a, Ext g H g' H' → Rl B g' m' H' → o = .ok a m' → R g' m' H' a → R' g' m' H' a) : Post B g H U R' o := by
  cases o with
  | ok a m' => exact fun g' H' x r => i g' m' H' a x r rfl (h g' H' x r)
  | exc x m' => exact h
  | bad => exact h
theorem Post.bind {α β : Type} {R : Cfg → Mem → Hp → β → Prop} {o : Out α} {f : α → Mem → Out β} (h : Post B g H U R (o.bind f)) :
    Post B g H U (fun g1 m1 H1 a => Post B g1 H1 U R (f a m1)) o := by
  cases o with
  | ok a m1 => exact fun g' H' x r => Post.ext x h
  | exc x m' => exact h
  | bad => exact h
theorem Post.lifted {α : Type} {R : Cfg → Mem → Hp → α → Prop} {o : Option α} (h : Post B g H U R (Z.lift o m)) : ∃ a, o = some a ∧ ∀ g' H', Ext g H g' H' → Rl B g' m H' → R g' m H' a := by
  cases o with
  | none => exact h.elim
  | some a => exact ⟨a, rfl, h⟩
theorem Post.ok0 {α : Type} {R : Cfg → Mem → Hp → α → Prop} {a : α} (r : Rl B g m H) (h : Post B g H U R (.ok a m)) : R g m H a := h g H (Ext.refl g H) r

/-- where the rules hold -/
structure Ctx (B : Bs) (X : Cx) : Prop where
  K : X.K = B.K
  calm : X.calm = true
  nd : X.N.Nodup
  un : X.A.units + 200 < cLine
  gd : X.A.guards = some []

/-! ### a value's fate -/
/-- what comes of an operation: d, from the state g m H -/
def Res (B : Bs) (g : Cfg) (m : Mem) (H : Hp) (Q : VK) (d : D) : Prop := ∀ g' H', Ext g H g' H' → Rl B g' m H' → ∀ v, Den B g' H' v d → Q v H'
theorem Res.same {Q : VK} {d : D} (R : Rl B g m H) (h : Res B g m H Q d) {v : V} (hv : Den B g H v d) : Q v H := h g H (Ext.refl g H) R v hv
/-- a new list -/
theorem Res.lst {Q : VK} {l : List D} (R : Rl B g m H) (h : Res B g m H Q (.lst l)) {p : Addr} (hp : H p = none) {xs : List V} (hx : Dens B g H xs l) : Q (.ref p) (L2.upd H p (.lst xs)) :=
  h _ _ (Ext.frz R hp) (Rl.frz R hp) _ (.lst (.inr rfl) upd_same (hx.ext (Ext.frz R hp) R))
/-- a new tuple -/
theorem Res.tup {Q : VK} {l : List D} (R : Rl B g m H) (h : Res B g m H Q (.tup l)) {p : Addr} (hp : H p = none) {xs : List V} (hx : Dens B g H xs l) : Q (.ref p) (L2.upd H p (.tup xs)) :=
  h _ _ (Ext.upd R hp) (Rl.upd R hp) _ (.tup (SqT.of upd_same) (hx.ext (Ext.upd R hp) R))

/-! ### fresh lists -/
/-- from the state g H a list stands at a, new, at nobody's hand -/
structure Fresh (B : Bs) (H : Hp) (g' : Cfg) (H' : Hp) (a : Addr) (l : List D) : Prop where
  new : H a = none
  nf : ¬ g'.fz a
  na : a ∉ g'.al
  is_ : ∃ xs, H' a = some (.lst xs) ∧ Dens B g' H' xs l
/-- the fate of an operation that brings a new list, which nobody else has -/
def FinF (B : Bs) (g : Cfg) (H : Hp) (Q : VK) (d : D) (m' : Mem) : Prop := ∀ g' H', Ext g H g' H' → Rl B g' m' H' →
  match d with
  | .lst l => ∀ a, Fresh B H g' H' a l → Q (.ref a) H'
  | _ => ∀ v, Den B g' H' v d → Q v H'
def PostF (B : Bs) (g : Cfg) (H : Hp) (U : XW) (Q : VK) : Out D → Prop
  | .ok d m' => FinF B g H Q d m'
  | .exc x m' => ∀ g' H', Ext g H g' H' → Rl B g' m' H' → U x g' m' H'
  | .bad => False
/-- the reading of code that brings a new list, which nobody else has -/
def tEvF (B : Bs) (G : Sg) (W : WE) (c : C) : TE := fun σ H Q => ∃ g m e, Rl B g m H ∧ EnvR B g H σ e ∧ PostF B g H (W σ e) Q (evalC G c e m)
theorem finF_of {Q : VK} {d : D} {m' : Mem} (h : ∀ g' H', Ext g H g' H' → Rl B g' m' H' → ∀ v, Den B g' H' v d → Q v H') : FinF B g H Q d m' := fun g' H' x R => by
  cases d with
  | lst l => exact fun a f => let ⟨xs, h1, h2⟩ := f.is_; h _ _ (x.adoptF f.new) (R.adoptF f.na h1) _ (.lst (.inr rfl) h1 (h2.mon (Mon.frz _ _ _) R))
  | _ => exact h g' H' x R
/-- told never to change -/
theorem rd_frz {c : C} {σ : L2.St} {H : Hp} {Q : VK} (h : tEv B G W c σ H Q) : tEvF B G W c σ H Q := by
  obtain ⟨g, m, e, R, E, p⟩ := h
  refine ⟨g, m, e, R, E, ?_⟩
  generalize evalC G c e m = o at p
  cases o with
  | ok d m' => exact finF_of p
  | exc x m' => exact p
  | bad => exact p
theorem tEvF_of {e : Expr} {c : C} (h : PE X e (tEvF B G W c)) : PE X e (tEv B G W c) := peI h fun _ _ _ => rd_frz
/-- laid among the things that change -/
theorem rd_new {c : C} {σ : L2.St} {H : Hp} {Q : VK} (h : tEv B G W (.new c) σ H Q) : tEvF B G W c σ H Q := by
  obtain ⟨g, m, e, R, E, p⟩ := h
  refine ⟨g, m, e, R, E, ?_⟩
  unfold evalC at p
  generalize evalC G c e m = o at p
  cases o with
  | ok d m' =>
    cases d with
    | lst l =>
      refine fun g' H' x R' a f => ?_
      obtain ⟨xs, h1, h2⟩ := f.is_
      have ha : (g'.more a).al[m'.length]? = some a := by
        show (g'.al ++ [a])[m'.length]? = some a
        rw [← R'.len, List.getElem?_append_right (Nat.le_refl _)]
        simp
      exact p _ _ (x.adoptA f.new) (R'.adoptA f.na f.nf (mo := .lst l) ⟨xs, h1, h2.mon (Mon.more _ _ _) R'⟩) _ (.loc ha)
    | _ => exact p.elim
  | exc x m' => exact p
  | bad => exact p
theorem tEv_new {e : Expr} {c : C} (h : PE X e (tEvF B G W c)) : PE X e (tEv B G W (.new c)) := peI h fun _ _ _ => rd_new
/-- a new list at p -/
theorem fresh_upd (R : Rl B g m H) {p : Addr} (hp : H p = none) {xs : List V} {l : List D} (hx : Dens B g H xs l) : Fresh B H g (L2.upd H p (.lst xs)) p l :=
  ⟨hp, R.fzNone hp, R.notIn hp, xs, upd_same, hx.ext (Ext.upd R hp) R⟩
theorem Fresh.from {g0 : Cfg} {H0 : Hp} {a : Addr} {l : List D} (x : Ext g0 H0 g H) (f : Fresh B H g' H' a l) : Fresh B H0 g' H' a l :=
  ⟨by
    cases e : H0 a with
    | none => rfl
    | some o => exact absurd f.new (x.trk a (by rw [e]; simp)), f.nf, f.na, f.is_⟩
theorem FinF.ext {Q : VK} {d : D} {m' : Mem} (x : Ext g H g1 H1) (h : FinF B g H Q d m') : FinF B g1 H1 Q d m' := fun g' H' y R => by
  have q := h g' H' (x.trans y) R
  cases d with
  | lst l => exact fun a f => q a (f.from x)
  | _ => exact q
theorem PostF.ext {Q : VK} {o : Out D} (x : Ext g H g1 H1) (h : PostF B g H U Q o) : PostF B g1 H1 U Q o := by
  cases o with
  | ok d m' => exact FinF.ext x h
  | exc y m' => exact fun g' H' z R => h g' H' (x.trans z) R
  | bad => exact h
theorem PostF.bind {α : Type} {Q : VK} {o : Out α} {f : α → Mem → Out D} (h : PostF B g H U Q (o.bind f)) : Post B g H U (fun g1 m1 H1 a => PostF B g1 H1 U Q (f a m1)) o := by
  cases o with
  | ok a m1 => exact fun g' H' x r => PostF.ext x h
  | exc x m' => exact h
  | bad => exact h
/-- the end of an operation at g m H that brings a new list at p -/
theorem FinF.lst {Q : VK} {l : List D} (R : Rl B g m H) (h : FinF B g H Q (.lst l) m) {p : Addr} (hp : H p = none) {xs : List V} (hx : Dens B g H xs l) : Q (.ref p) (L2.upd H p (.lst xs)) :=
  h g _ (Ext.upd R hp) (Rl.upd R hp) p (fresh_upd R hp hx)
theorem FinF.flat {Q : VK} {d : D} (R : Rl B g m H) (h : FinF B g H Q d m) (nl : ∀ l, d ≠ .lst l) {v : V} (hv : Den B g H v d) : Q v H := by
  have q := h g H (Ext.refl g H) R
  cases d with
  | lst l => exact absurd rfl (nl l)
  | _ => exact q v hv
theorem FinF.tup {Q : VK} {l : List D} (R : Rl B g m H) (h : FinF B g H Q (.tup l) m) {p : Addr} (hp : H p = none) {xs : List V} (hx : Dens B g H xs l) : Q (.ref p) (L2.upd H p (.tup xs)) :=
  h g _ (Ext.upd R hp) (Rl.upd R hp) _ (.tup (SqT.of upd_same) (hx.ext (Ext.upd R hp) R))

/-! ### names, constants, argument lists, displays -/
theorem pz_var {i : Nat} {x : Str} {pos : Pos} (hN : X.N[i]? = some x) (hv : Vis X.env.scope x) (hd : (x == ("__debug__" : Str)) = false) (hcd : (x == ("__classdict__" : Str)) = false) : PE X (.Name x pos) (tEv B G W (.var i)) := by
  refine peI (pe_var hN hv hd hcd) fun σ H Q ⟨g, m, e, R, E, p⟩ => ?_
  unfold evalC at p
  obtain ⟨d, e1, q⟩ := p.lifted
  obtain ⟨v, h1, h2⟩ := E.get e1
  exact ⟨v, h1, q g H (Ext.refl g H) R v h2⟩
theorem pz_con {e : Expr} {v : V} {d : D} (h : PE X e (tC v)) (hd : ∀ g H, Den B g H v d) : PE X e (tEv B G W (.con d)) := by
  refine peI h fun σ H Q ⟨g, m, e, R, E, p⟩ => ?_
  unfold evalC at p
  exact p.ok0 R v (hd g H)
theorem az_nil : PA X [] (tEvs B G W .nil) := by
  refine paI pa_nil fun σ H Q ⟨g, m, e, R, E, p⟩ => ?_
  unfold evalCs at p
  exact p.ok0 R [] .nil
theorem az_cons {e : Expr} {es : List Expr} {c : C} {l : Cs} (h : PE X e (tEv B G W c)) (t : PA X es (tEvs B G W l)) (hs : starEach (e :: es) X.env = (false, eval e X.env) :: starEach es X.env) : PA X (e :: es) (tEvs B G W (.cons c l)) := by
  refine paI (pa_cons h t hs) fun σ H Q ⟨g, m, e, R, E, p⟩ => ⟨g, m, e, R, E, ?_⟩
  unfold evalCs at p
  refine p.bind.imp fun g1 m1 H1 d x R1 _ q v hv => ⟨g1, m1, e, R1, E.ext x R, ?_⟩
  refine q.bind.imp fun g2 m2 H2 ds y R2 _ z vs hvs => ?_
  exact z.ok0 R2 (v :: vs) (.cons (hv.ext y R1) hvs)
def Cs.len : Cs → Nat
  | .nil => 0
  | .cons _ l => l.len + 1
theorem evalCs_len : ∀ {l : Cs} {e : Env} {m m' : Mem} {ds : List D}, evalCs G l e m = .ok ds m' → ds.length = l.len
  | .nil, e, m, m', ds, h => by
    unfold evalCs at h
    cases h
    rfl
  | .cons c l, e, m, m', ds, h => by
    unfold evalCs at h
    cases h1 : evalC G c e m with
    | ok d m1 =>
      rw [h1, Out.bind_ok] at h
      cases h2 : evalCs G l e m1 with
      | ok xs m2 =>
        rw [h2, Out.bind_ok] at h
        cases h
        rw [List.length_cons, evalCs_len h2]
        rfl
      | exc x m2 => rw [h2] at h; cases h
      | bad => rw [h2] at h; cases h
    | exc x m2 => rw [h1] at h; cases h
    | bad => rw [h1] at h; cases h
theorem small_of {n : Nat} (h : n ≤ 1000) : n ≤ sizeLine := Nat.le_of_lt (small1000 h)
theorem pz_tup {es : List Expr} {x1 : Nat} {pos : Pos} {l : Cs} (h : PA X es (tEvs B G W l)) (hl : l.len ≤ 1000) : PE X (.Tuple es x1 pos) (tEv B G W (.tup l)) := by
  refine peI (pe_tup h) fun σ H Q ⟨g, m, e, R, E, p⟩ => ⟨g, m, e, R, E, ?_⟩
  unfold evalC at p
  refine p.bind.imp fun g1 m1 H1 ds x R1 eq q vs hvs => ⟨?_, fun a ha => ?_⟩
  · rw [hvs.length, evalCs_len eq]; exact small_of hl
  · exact Res.tup R1 q ha hvs
theorem pf_lst {es : List Expr} {pos : Pos} {l : Cs} (h : PA X es (tEvs B G W l)) (hl : l.len ≤ 1000) : PE X (.List es pos) (tEvF B G W (.lst l)) := by
  refine peI (pe_lst h) fun σ H Q ⟨g, m, e, R, E, p⟩ => ⟨g, m, e, R, E, ?_⟩
  unfold evalC at p
  refine p.bind.imp fun g1 m1 H1 ds x R1 eq q vs hvs => ⟨?_, fun a ha => ?_⟩
  · rw [hvs.length, evalCs_len eq]; exact small_of hl
  · exact FinF.lst R1 q ha hvs

/-! ### what is read of data -/
theorem Den.rdL {v : V} {d : D} {l : List D} (R : Rl B g m H) (h : Den B g H v d) (e : rdL m d = some l) : ∃ a xs, v = .ref a ∧ H a = some (.lst xs) ∧ Dens B g H xs l := by
  cases h with
  | lst f h r => cases e; exact ⟨_, _, rfl, h, r⟩
  | @loc a n h =>
    unfold Z.rdL at e
    cases q : m[n]? with
    | none => simp [q] at e
    | some mo =>
      cases mo with
      | lst l' =>
        simp [q] at e
        subst e
        obtain ⟨xs, h1, h2⟩ := R.mem n a _ h q
        exact ⟨_, _, rfl, h1, h2⟩
      | _ => simp [q] at e
  | _ => cases e
/-- a list or a tuple read -/
theorem Den.rdS {v : V} {d : D} {k : Bool} {l : List D} (R : Rl B g m H) (h : Den B g H v d) (e : rdS m d = some (k, l)) : ∃ a xs, v = .ref a ∧ Dens B g H xs l ∧
    (k = true → SqL B.K H a xs) ∧ (k = false → SqT B.K H a xs) := by
  cases h with
  | lst f h r => cases e; exact ⟨_, _, rfl, r, fun _ => SqL.of h, fun z => Bool.noConfusion z⟩
  | tup h r => cases e; exact ⟨_, _, rfl, r, fun z => Bool.noConfusion z, fun _ => h⟩
  | scr h => cases e; exact ⟨_, _, rfl, Dens.of_ints _, fun _ => .inl (.inr ⟨_, h⟩), fun z => Bool.noConfusion z⟩
  | scrK h => cases e; exact ⟨_, _, rfl, Dens.of_ints _, fun _ => h H, fun z => Bool.noConfusion z⟩
  | @loc a n h =>
    unfold Z.rdS at e
    cases q : m[n]? with
    | none => simp [q] at e
    | some mo =>
      cases mo with
      | lst l' =>
        simp [q] at e
        obtain ⟨e1, e2⟩ := e
        subst e1 e2
        obtain ⟨xs, h1, h2⟩ := R.mem n a _ h q
        exact ⟨_, _, rfl, h2, fun _ => SqL.of h1, fun z => Bool.noConfusion z⟩
      | _ => simp [q] at e
  | _ => cases e
mutual
theorem Den.dp : ∀ {v : V} {d : D} {x : PyData}, Den B g H v d → toPy d = some x → Dp B.K H v x
  | _, _, x, .non, e => by simp only [toPy, Option.some.injEq] at e; subst e; exact .non
  | _, _, x, .bl b, e => by simp only [toPy, Option.some.injEq] at e; subst e; exact .bl b
  | _, _, x, .int i, e => by simp only [toPy, Option.some.injEq] at e; subst e; exact .int i
  | _, _, x, .str s, e => by simp only [toPy, Option.some.injEq] at e; subst e; exact .str s
  | _, _, x, .tup (l := l) h r, e => by
    simp only [toPy] at e
    cases q : toPys l with
    | none => rw [q] at e; cases e
    | some xs => rw [q] at e; cases e; exact .tup h (Dens.dp r q)
  | _, _, x, .lst (l := l) f h r, e => by
    simp only [toPy] at e
    cases q : toPys l with
    | none => rw [q] at e; cases e
    | some xs => rw [q] at e; cases e; exact .lst (SqL.of h) (Dens.dp r q)
  | _, _, x, .scr h, e => by simp [toPy] at e
  | _, _, x, .scrK h, e => by simp [toPy] at e
  | _, _, x, .loc h, e => by simp [toPy] at e
  | _, _, x, .fn h h2, e => by simp [toPy] at e
  | _, _, x, .ty s, e => by simp [toPy] at e
theorem Dens.dp : ∀ {vs : List V} {l : List D} {xs : List PyData}, Dens B g H vs l → toPys l = some xs → DpAll B.K H vs xs
  | _, _, xs, .nil, e => by simp only [toPys, Option.some.injEq] at e; subst e; exact .nil
  | _, _, xs, .cons (d := d) (l := l) h r, e => by
    simp only [toPys] at e
    cases q1 : toPy d with
    | none => rw [q1] at e; cases e
    | some y =>
      cases q2 : toPys l with
      | none => rw [q1, q2] at e; cases e
      | some ys => rw [q1, q2] at e; cases e; exact .cons (Den.dp h q1) (Dens.dp r q2)
end
/-- data read, a list at a place too -/
theorem Den.py {v : V} {d : D} {x : PyData} (R : Rl B g m H) (h : Den B g H v d) (e : pyOf m d = some x) : Dp B.K H v x := by
  unfold pyOf top at e
  cases h with
  | @loc a n h =>
    simp only at e
    cases q : m[n]? with
    | none => simp [q, toPy] at e
    | some mo =>
      cases mo with
      | lst l' =>
        simp only [q, toPy] at e
        obtain ⟨xs, h1, h2⟩ := R.mem n a _ h q
        cases q2 : toPys l' with
        | none => rw [q2] at e; cases e
        | some ys => rw [q2] at e; cases e; exact .lst (SqL.of h1) (h2.dp q2)
      | _ => simp [q, toPy] at e
  | non => exact Den.dp (Den.non (g := g)) e
  | bl b => exact Den.dp (Den.bl (g := g) b) e
  | int b => exact Den.dp (Den.int (g := g) b) e
  | str b => exact Den.dp (Den.str (g := g) b) e
  | tup h r => exact Den.dp (.tup h r) e
  | lst f h r => exact Den.dp (.lst f h r) e
  | _ => simp [toPy] at e
end Z
/-! Z4: operators, comparisons. -/
namespace Z
open PySem PySem.Spec PyProof.Rows L2
variable {B : Bs} {G : Sg} {W : WE} {U : XW} {X : Cx} {g g' g1 g2 : Cfg} {H H' H1 H2 : Hp} {m m' m1 : Mem}

def rBin (B : Bs) (op : Operator) : R2 := fun x y H Q => ∃ g m d1 d2 d, Rl B g m H ∧ Den B g H x d1 ∧ Den B g H y d2 ∧ binD op m d1 d2 = some d ∧ FinF B g H Q d m
theorem cmul_of {i j : Int} (h : smallMul i j = true) : CMul i j := by
  unfold smallMul at h
  simp only [Bool.or_eq_true, Bool.and_eq_true, decide_eq_true_eq] at h
  exact h
theorem op_bin (cx : Ctx B X) : ∀ op : Operator, OpR X (binaryOp op) (rBin B op) := by
  intro op pins s σ H x y v u Q I rx ry h
  obtain ⟨g, m, d1, d2, d, R, h1, h2, e, q⟩ := h
  have lists : ∀ {l1 l2 : List D}, rdL m d1 = some l1 → rdL m d2 = some l2 → op = .Add → (if l1.length + l2.length ≤ sizeLine then some (D.lst (l1 ++ l2)) else none) = some d → wpAny (model X.prog X.w) X.A (binaryOp op v u) (EP X pins σ Q) X.xe s := by
    intro l1 l2 r1 r2 eo e1
    clear e
    have e := e1
    subst eo
    by_cases hz : l1.length + l2.length ≤ sizeLine
    · rw [if_pos hz] at e
      cases e
      obtain ⟨a, xs, e1, ha, hx⟩ := h1.rdL R r1
      obtain ⟨b, ys, e2, hb, hy⟩ := h2.rdL R r2
      exact op_cat pins s σ H x y v u Q I rx ry ⟨a, b, xs, ys, e1, e2, ha, hb, by rw [hx.length, hy.length]; exact hz, fun p hp => q.lst R hp (hx.append hy)⟩
    · rw [if_neg hz] at e; cases e
  have reps : ∀ {l1 : List D} {k : Int}, rdL m d1 = some l1 → d2 = .int k → op = .Mult → (if (decide (-(2 ^ 63) ≤ k) && decide (k < 2 ^ 63) && decide (l1.length * k.toNat ≤ sizeLine)) = true then some (D.lst (List.replicate k.toNat l1).flatten) else none) = some d →
      wpAny (model X.prog X.w) X.A (binaryOp op v u) (EP X pins σ Q) X.xe s := by
    intro l1 k r1 e2 eo e1
    clear e
    have e := e1
    subst eo e2
    split at e
    · rename_i hz
      simp only [Bool.and_eq_true, decide_eq_true_eq] at hz
      cases e
      obtain ⟨a, xs, e1, ha, hx⟩ := h1.rdL R r1
      cases h2
      exact op_rep pins s σ H x _ v u Q I rx ry ⟨a, k, xs, e1, rfl, ha, hz.1.1, hz.1.2, by rw [hx.length]; exact hz.2, fun p hp => q.lst R hp (hx.rep _)⟩
    · cases e
  cases op with
  | Add =>
    cases d1 with
    | int i =>
      cases d2 <;> simp [binD, rdL] at e
      subst e
      cases h1; cases h2
      exact op_add pins s σ H _ _ v u Q I rx ry ⟨_, _, rfl, rfl, q.flat R (by simp) (.int _)⟩
    | str i =>
      cases d2 <;> simp [binD, rdL] at e
      obtain ⟨hz, e⟩ := e
      subst e
      cases h1; cases h2
      exact op_add_str pins s σ H _ _ v u Q I rx ry ⟨_, _, rfl, rfl, hz, q.flat R (by simp) (.str _)⟩
    | tup l =>
      cases d2 with
      | tup k =>
        simp [binD] at e
        obtain ⟨hz, e⟩ := e
        subst e
        cases h1 with
        | @tup a xs _ ha hx =>
          cases h2 with
          | @tup b ys _ hb hy =>
            refine op_catA pins s σ H _ _ v u Q I rx ry ⟨a, b, xs, ys, rfl, rfl, by rw [cx.K]; exact ha, by rw [cx.K]; exact hb, by rw [hx.length, hy.length]; exact hz, fun e => ?_, fun _ e => ?_, fun _ _ p hp => ?_⟩
            · subst e
              cases hx
              exact q.flat R (by simp) (.tup hb hy)
            · subst e
              cases hy
              rw [List.append_nil] at q
              exact q.flat R (by simp) (.tup ha hx)
            · exact q.tup R hp (hx.append hy)
      | _ => simp [binD, rdL] at e
    | lst l =>
      cases d2 with
      | lst k => exact lists rfl rfl rfl (by simpa [binD, rdL] using e)
      | loc k =>
        simp only [binD] at e
        cases r2 : rdL m (.loc k) with
        | none => rw [r2] at e; simp [rdL] at e
        | some l2 => rw [r2] at e; exact lists rfl r2 rfl e
      | _ => simp [binD, rdL] at e
    | loc n =>
      simp only [binD] at e
      cases r1 : rdL m (.loc n) with
      | none => rw [r1] at e; simp at e
      | some l1 =>
        rw [r1] at e
        cases r2 : rdL m d2 with
        | none => rw [r2] at e; simp at e
        | some l2 => rw [r2] at e; exact lists r1 r2 rfl e
    | _ => cases d2 <;> simp [binD, rdL] at e
  | Sub =>
    cases d1 <;> cases d2 <;> simp [binD] at e
    subst e
    cases h1; cases h2
    exact op_sub pins s σ H _ _ v u Q I rx ry ⟨_, _, rfl, rfl, q.flat R (by simp) (.int _)⟩
  | Mult =>
    cases d2 with
    | int k =>
      cases d1 with
      | int i =>
        simp [binD] at e
        obtain ⟨hz, e⟩ := e
        subst e
        cases h1; cases h2
        exact op_mul pins s σ H _ _ v u Q I rx ry ⟨_, _, rfl, rfl, cmul_of hz, q.flat R (by simp) (.int _)⟩
      | tup l =>
        simp only [binD] at e
        split at e
        · rename_i hz
          simp only [Bool.and_eq_true, decide_eq_true_eq] at hz
          cases e
          cases h2
          cases h1 with
          | @tup a xs _ ha hx =>
            refine op_repTA pins s σ H _ _ v u Q I rx ry ⟨a, k, xs, rfl, rfl, by rw [cx.K]; exact ha, hz.1.1, hz.1.2, by rw [hx.length]; exact hz.2, fun e => ?_, fun _ _ p hp => q.tup R hp (hx.rep _)⟩
            rcases e with e | e
            · subst e
              cases hx
              rw [show (List.replicate k.toNat ([] : List D)).flatten = [] from List.flatten_eq_nil_iff.mpr fun l hl => (List.mem_replicate.mp hl).2] at q
              exact q.flat R (by simp) (.tup ha .nil)
            · subst e
              rw [show (List.replicate (1 : Int).toNat l).flatten = l by simp] at q
              exact q.flat R (by simp) (.tup ha hx)
        · cases e
      | lst l => exact reps rfl rfl rfl (by simpa [binD, rdL] using e)
      | loc n =>
        simp only [binD] at e
        cases r1 : rdL m (.loc n) with
        | none => rw [r1] at e; simp at e
        | some l1 => rw [r1] at e; exact reps r1 rfl rfl e
      | _ => simp [binD, rdL] at e
    | _ => cases d1 <;> simp [binD] at e
  | Mod =>
    cases d1 <;> cases d2 <;> simp [binD] at e
    obtain ⟨hz, e⟩ := e
    subst e
    cases h1; cases h2
    exact op_mod pins s σ H _ _ v u Q I rx ry ⟨_, _, rfl, rfl, hz, q.flat R (by simp) (.int _)⟩
  | FloorDiv =>
    cases d1 <;> cases d2 <;> simp [binD] at e
    obtain ⟨hz, e⟩ := e
    subst e
    cases h1; cases h2
    exact op_fdiv pins s σ H _ _ v u Q I rx ry ⟨_, _, rfl, rfl, hz, q.flat R (by simp) (.int _)⟩
  | Pow =>
    cases d1 <;> cases d2 <;> simp only [binD] at e <;> first | (cases e; done) | skip
    split at e
    · rename_i hz
      cases e
      cases h1; cases h2
      exact op_pow pins s σ H _ _ v u Q I rx ry ⟨_, _, rfl, rfl, hz, q.flat R (by simp) (.int _)⟩
    · cases e
  | _ => simp [binD] at e
theorem pf_bin (cx : Ctx B X) {op : Operator} {a b : Expr} {ca cb : Z.C} {pos : Pos} (ha : PE X a (tEv B G W ca)) (hb : PE X b (tEv B G W cb)) : PE X (.BinOp a op b pos) (tEvF B G W (.bin op ca cb)) := by
  refine peI (pe_op (op_bin cx op) ha hb) fun σ H Q ⟨g, m, e, R, E, p⟩ => ⟨g, m, e, R, E, ?_⟩
  unfold evalC at p
  refine p.bind.imp fun g1 m1 H1 d x R1 _ q v hv => ⟨g1, m1, e, R1, E.ext x R, ?_⟩
  refine q.bind.imp fun g2 m2 H2 d2 y R2 _ z w hw => ?_
  cases eo : binD op m2 d d2 with
  | none => rw [eo] at z; exact z.elim
  | some d3 =>
    rw [eo] at z
    exact ⟨g2, m2, d, d2, d3, R2, hv.ext y R1, hw, eo, z⟩
theorem pz_neg {a : Expr} {ca : Z.C} {pos : Pos} (ha : PE X a (tEv B G W ca)) : PE X (.UnaryOp .USub a pos) (tEv B G W (.neg ca)) := by
  refine peI (pe_un un_neg ha) fun σ H Q ⟨g, m, e, R, E, p⟩ => ⟨g, m, e, R, E, ?_⟩
  unfold evalC at p
  refine p.bind.imp fun g1 m1 H1 d x R1 _ q v hv => ?_
  obtain ⟨d', e', q⟩ := q.lifted
  cases d <;> simp [negD] at e'
  subst e'
  cases hv
  exact ⟨_, rfl, q g1 H1 (Ext.refl _ _) R1 _ (.int _)⟩

/-! ### comparisons -/
def rCmp (B : Bs) (op : CmpOp) : R2 := fun x y H Q => ∃ g m d1 d2 k, Rl B g m H ∧ Den B g H x d1 ∧ Den B g H y d2 ∧ cmpD op m d1 d2 = some k ∧ Q (.bl k) H
theorem isNone_iff {v : V} {d : D} (h : Den B g H v d) : decide (v = .non) = isNone d := by
  cases h <;> simp [isNone]
theorem one_sign {x : Str} (h : x.length = 1) : x = ⟨#[x.cps.getD 0 0]⟩ := by
  obtain ⟨⟨l⟩⟩ := x
  cases l with
  | nil => simp [Str.length] at h
  | cons c r =>
    cases r with
    | nil => rfl
    | cons d r => simp [Str.length] at h
/-- in, by data -/
theorem in_data (cx : Ctx B X) {pins : List (Addr × Obj)} {s : Shared} {σ : L2.St} {x y : V} {v u : Value} {d1 d2 : D} {k : Bool} (I : Inv X pins σ H s) (rx : RelV x v) (ry : RelV y u) (R : Rl B g m H)
    (h1 : Den B g H x d1) (h2 : Den B g H y d2) (e : inD m d1 d2 = some k) : (∀ Q : VK, Q (.bl k) H → wpAny (model X.prog X.w) X.A (compareOp .In v u) (EP X pins σ Q) X.xe s) ∧
      ∀ Q : VK, Q (.bl (!k)) H → wpAny (model X.prog X.w) X.A (compareOp .NotIn v u) (EP X pins σ Q) X.xe s := by
  have hu : X.A.units + 65 < cLine := by have := cx.un; omega
  unfold inD at e
  split at e
  · split at e
    · rename_i y' x'
      cases h1; cases h2
      split at e
      · rename_i hl
        cases e
        have hx := one_sign hl
        refine ⟨fun Q q => ?_, fun Q q => ?_⟩
        · exact op_in_sign pins s σ H _ _ v u Q I rx ry ⟨_, _, by rw [← hx], rfl, q⟩
        · exact op_notIn_sign pins s σ H _ _ v u Q I rx ry ⟨_, _, by rw [← hx], rfl, q⟩
      · cases e
    · cases e
  · split at e
    · rename_i a b ea eb
      split at e
      · rename_i hz
        simp only [Bool.and_eq_true] at hz
        cases e
        refine ⟨fun Q q => ?_, fun Q q => ?_⟩
        · exact op_inD hu pins s σ H x y v u Q I rx ry ⟨a, b, by rw [cx.K]; exact h1.py R ea, by rw [cx.K]; exact h2.py R eb, hz.1, hz.2, q⟩
        · exact op_notInD hu pins s σ H x y v u Q I rx ry ⟨a, b, by rw [cx.K]; exact h1.py R ea, by rw [cx.K]; exact h2.py R eb, hz.1, hz.2, q⟩
      · cases e
    · rename_i a b ea eb
      split at e
      · rename_i hz
        simp only [Bool.and_eq_true] at hz
        cases e
        obtain ⟨as, r1⟩ := Dp.reads I _ x v (by rw [cx.K]; exact h1.py R ea) rx
        obtain ⟨bs, r2⟩ := Dp.reads I _ y u (by rw [cx.K]; exact h2.py R eb) ry
        refine ⟨fun Q q => ?_, fun Q q => ?_⟩
        · exact SeqAt.in_tuple_reads r2 r1 (SeqAt.canLay_of_shaped hz.2) (SeqAt.canLay_of_shaped hz.1) (room_in_shaped hz.1 hu) ⟨.bl _, H, I, rfl, q⟩
        · exact SeqAt.notIn_tuple_reads r2 r1 (SeqAt.canLay_of_shaped hz.2) (SeqAt.canLay_of_shaped hz.1) (room_in_shaped hz.1 hu) ⟨.bl _, H, I, rfl, q⟩
      · cases e
    · cases e
theorem op_cmp (cx : Ctx B X) : ∀ op : CmpOp, OpR X (compareOp op) (rCmp B op) := by
  intro op pins s σ H x y v u Q I rx ry h
  obtain ⟨g, m, d1, d2, k, R, h1, h2, e, q⟩ := h
  have hu : X.A.units + 64 < cLine := by have := cx.un; omega
  cases op with
  | Eq =>
    simp only [cmpD, eqD] at e
    split at e
    · cases e
      cases h1
      cases h2
      exact op_eq pins s σ H _ _ v u Q I rx ry ⟨rfl, by simpa using q⟩
    · cases e
      cases h1
      cases h2
      exact op_eq pins s σ H _ _ v u Q I rx ry ⟨rfl, by simpa using q⟩
    · simp only [eqP] at e
      split at e
      · rename_i a b ea eb
        split at e
        · rename_i hz
          simp only [Bool.and_eq_true] at hz
          cases e
          exact op_eqD hu pins s σ H x y v u Q I rx ry ⟨a, b, by rw [cx.K]; exact h1.py R ea, by rw [cx.K]; exact h2.py R eb, hz.1, hz.2, q⟩
        · cases e
      · cases e
  | NotEq =>
    simp only [cmpD, eqD] at e
    split at e
    · cases e
      cases h1
      cases h2
      exact op_ne pins s σ H _ _ v u Q I rx ry ⟨rfl, by simpa using q⟩
    · cases e
      cases h1
      cases h2
      exact op_ne pins s σ H _ _ v u Q I rx ry ⟨rfl, by simpa using q⟩
    · simp only [eqP] at e
      split at e
      · rename_i a b ea eb
        split at e
        · rename_i hz
          simp only [Bool.and_eq_true] at hz
          cases e
          exact op_neD hu pins s σ H x y v u Q I rx ry ⟨a, b, by rw [cx.K]; exact h1.py R ea, by rw [cx.K]; exact h2.py R eb, hz.1, hz.2, q⟩
        · cases e
      · cases e
  | Lt =>
    cases d1 <;> cases d2 <;> simp [cmpD] at e
    subst e
    cases h1; cases h2
    exact op_lt pins s σ H _ _ v u Q I rx ry ⟨_, _, rfl, rfl, q⟩
  | LtE =>
    cases d1 <;> cases d2 <;> simp [cmpD] at e
    subst e
    cases h1; cases h2
    exact op_le pins s σ H _ _ v u Q I rx ry ⟨_, _, rfl, rfl, q⟩
  | Gt =>
    cases d1 <;> cases d2 <;> simp [cmpD] at e
    subst e
    cases h1; cases h2
    exact op_gt pins s σ H _ _ v u Q I rx ry ⟨_, _, rfl, rfl, q⟩
  | GtE =>
    cases d1 <;> cases d2 <;> simp [cmpD] at e
    subst e
    cases h1; cases h2
    exact op_ge pins s σ H _ _ v u Q I rx ry ⟨_, _, rfl, rfl, q⟩
  | Is =>
    cases d2 <;> simp [cmpD] at e
    subst e
    cases h2
    exact op_isN pins s σ H _ _ v u Q I rx ry ⟨rfl, by rw [isNone_iff h1]; exact q⟩
  | IsNot =>
    cases d2 <;> simp only [cmpD] at e <;> first | (cases e; done) | skip
    cases e
    cases h2
    exact op_notN pins s σ H _ _ v u Q I rx ry ⟨rfl, by rw [isNone_iff h1]; exact q⟩
  | In => exact (in_data cx I rx ry R h1 h2 e).1 Q q
  | NotIn =>
    simp only [cmpD] at e
    cases ei : inD m d1 d2 with
    | none => rw [ei] at e; cases e
    | some b =>
      rw [ei] at e
      cases e
      exact (in_data cx I rx ry R h1 h2 ei).2 Q q
theorem pz_cmp (cx : Ctx B X) {op : CmpOp} {a b : Expr} {ca cb : Z.C} {pos : Pos} (ha : PE X a (tEv B G W ca)) (hb : PE X b (tEv B G W cb)) (hm : behindInMarks op b = false) : PE X (.Compare a [op] [b] pos) (tEv B G W (.cmp op ca cb)) := by
  refine peI (pe_cmpR (op_cmp cx op) ha hb hm) fun σ H Q ⟨g, m, e, R, E, p⟩ => ⟨g, m, e, R, E, ?_⟩
  unfold evalC at p
  refine p.bind.imp fun g1 m1 H1 d x R1 _ q v hv => ⟨g1, m1, e, R1, E.ext x R, ?_⟩
  refine q.bind.imp fun g2 m2 H2 d2 y R2 _ z w hw => ?_
  obtain ⟨k, ek, z⟩ := z.lifted
  obtain ⟨k', ek', e2⟩ := Option.map_eq_some_iff.mp ek
  subst e2
  exact ⟨g2, m2, d, d2, k', R2, hv.ext y R1, hw, ek', z g2 H2 (Ext.refl _ _) R2 _ (.bl _)⟩
theorem pz_chn (cx : Ctx B X) {op op2 : CmpOp} {a b c : Expr} {ca cb cc : Z.C} {pos : Pos} (ha : PE X a (tEv B G W ca)) (hb : PE X b (tEv B G W cb)) (hc : PE X c (tEv B G W cc)) (hm : lastMarks [op, op2] [b, c] = false) :
    PE X (.Compare a [op, op2] [b, c] pos) (tEv B G W (.chn op op2 ca cb cc)) := by
  refine peI (pe_chain (op_cmp cx op) (op_cmp cx op2) ha hb hc hm) fun σ H Q ⟨g, m, e, R, E, p⟩ => ⟨g, m, e, R, E, ?_⟩
  unfold evalC at p
  refine p.bind.imp fun g1 m1 H1 d x R1 _ q v hv => ⟨g1, m1, e, R1, E.ext x R, ?_⟩
  refine q.bind.imp fun g2 m2 H2 d2 y R2 _ z w hw => ?_
  obtain ⟨k, ek, z⟩ := z.bind.lifted
  have z := z g2 H2 (Ext.refl _ _) R2
  refine ⟨g2, m2, d, d2, k, R2, hv.ext y R1, hw, ek, k, rfl, ?_⟩
  cases k with
  | false =>
    rw [if_neg Bool.false_ne_true] at z ⊢
    exact z.ok0 R2 _ (.bl _)
  | true =>
    rw [if_pos rfl] at z ⊢
    refine ⟨g2, m2, e, R2, (E.ext x R).ext y R1, z.bind.imp fun g3 m3 H3 d3 y3 R3 _ z v3 h3 => ?_⟩
    obtain ⟨k, ek, z⟩ := z.lifted
    obtain ⟨k', ek', e2⟩ := Option.map_eq_some_iff.mp ek
    subst e2
    exact ⟨g3, m3, d2, d3, k', R3, hw.ext y3 R2, h3, ek', z g3 H3 (Ext.refl _ _) R3 _ (.bl _)⟩

/-! ### tests -/
theorem asBl_post {R : Cfg → Mem → Hp → Bool → Prop} {d : D} (h : Post B g H U R (asBl d m)) : ∃ k, d = .bl k ∧ ∀ g' H', Ext g H g' H' → Rl B g' m H' → R g' m H' k := by
  cases d with
  | bl k => exact ⟨k, rfl, h⟩
  | _ => exact h.elim
/-- a value that is a truth, as a test -/
theorem tz_val {a : Expr} {ca : Z.C} (h : PE X a (tEv B G W ca)) (he : ∀ whole, isTrue a X.env whole = (do let v ← whole; standAt a.pos; holding [v] (truthy v))) : PT X a (tEvT B G W ca) := by
  refine ptI (pt_val h he) fun σ H Q ⟨g, m, e, R, E, p⟩ => ⟨g, m, e, R, E, ?_⟩
  refine (show Post B g H _ _ ((evalC G ca e m).bind fun d m => asBl d m) from p).bind.imp fun g1 m1 H1 d x R1 _ q v hv => ?_
  obtain ⟨k, rfl, q⟩ := asBl_post q
  cases hv
  exact ⟨k, rfl, q g1 H1 (Ext.refl _ _) R1⟩
theorem tz_cmp (cx : Ctx B X) {op : CmpOp} {a b : Expr} {ca cb : Z.C} {pos : Pos} (ha : PE X a (tEv B G W ca)) (hb : PE X b (tEv B G W cb)) (hm : behindInMarks op b = false) : PT X (.Compare a [op] [b] pos) (tEvT B G W (.cmp op ca cb)) := by
  refine ptI (pt_cmpR (op_cmp cx op) ha hb hm) fun σ H Q ⟨g, m, e, R, E, p⟩ => ⟨g, m, e, R, E, ?_⟩
  unfold evalT evalC at p
  refine p.bind.bind.imp fun g1 m1 H1 d x R1 _ q v hv => ⟨g1, m1, e, R1, E.ext x R, ?_⟩
  refine q.bind.imp fun g2 m2 H2 d2 y R2 _ z w hw => ?_
  obtain ⟨k, ek, z⟩ := z.lifted
  obtain ⟨k', ek', e2⟩ := Option.map_eq_some_iff.mp ek
  subst e2
  exact ⟨g2, m2, d, d2, k', R2, hv.ext y R1, hw, ek', k', rfl, (z g2 H2 (Ext.refl _ _) R2).ok0 R2⟩
theorem tz_chn (cx : Ctx B X) {op op2 : CmpOp} {a b c : Expr} {ca cb cc : Z.C} {pos : Pos} (ha : PE X a (tEv B G W ca)) (hb : PE X b (tEv B G W cb)) (hc : PE X c (tEv B G W cc)) (hm : lastMarks [op, op2] [b, c] = false) :
    PT X (.Compare a [op, op2] [b, c] pos) (tEvT B G W (.chn op op2 ca cb cc)) := by
  refine ptI (pt_chain (op_cmp cx op) (op_cmp cx op2) ha hb hc hm) fun σ H Q ⟨g, m, e, R, E, p⟩ => ⟨g, m, e, R, E, ?_⟩
  unfold evalT evalC at p
  refine p.bind.bind.imp fun g1 m1 H1 d x R1 _ q v hv => ⟨g1, m1, e, R1, E.ext x R, ?_⟩
  refine q.bind.imp fun g2 m2 H2 d2 y R2 _ z w hw => ?_
  obtain ⟨k, ek, z⟩ := z.bind.lifted
  have z := z g2 H2 (Ext.refl _ _) R2
  refine ⟨g2, m2, d, d2, k, R2, hv.ext y R1, hw, ek, k, rfl, ?_⟩
  cases k with
  | false =>
    rw [if_neg Bool.false_ne_true] at z ⊢
    exact ⟨false, rfl, (z.ok0 R2).ok0 R2⟩
  | true =>
    rw [if_pos rfl] at z ⊢
    refine ⟨g2, m2, e, R2, (E.ext x R).ext y R1, z.bind.imp fun g3 m3 H3 d3 y3 R3 _ z v3 h3 => ?_⟩
    obtain ⟨k, ek, z⟩ := z.lifted
    obtain ⟨k', ek', e2⟩ := Option.map_eq_some_iff.mp ek
    subst e2
    exact ⟨g3, m3, d2, d3, k', R3, hw.ext y3 R2, h3, ek', k', rfl, (z g3 H3 (Ext.refl _ _) R3).ok0 R3⟩
end Z
/-! Z5: and, or, not, if; parts; built-in functions. -/
namespace Z
open PySem PySem.Spec PyProof.Rows L2
variable {B : Bs} {G : Sg} {W : WE} {U : XW} {X : Cx} {g g' g1 g2 : Cfg} {H H' H1 H2 : Hp} {m m' m1 : Mem}

theorem pz_and {a b : Expr} {rest : List Expr} {ca cb : Z.C} {pos : Pos} (ha : PE X a (tEv B G W ca)) (hb : PE X (.BoolOp .And (b :: rest) pos) (tEv B G W cb)) : PE X (.BoolOp .And (a :: b :: rest) pos) (tEv B G W (.and ca cb)) := by
  refine peI (pe_and ha hb) fun σ H Q ⟨g, m, e, R, E, p⟩ => ⟨g, m, e, R, E, ?_⟩
  unfold evalC at p
  refine p.bind.imp fun g1 m1 H1 d x R1 _ q v hv => ?_
  obtain ⟨k, rfl, q2⟩ := asBl_post q.bind
  cases hv
  have q := q2 g1 H1 (Ext.refl _ _) R1
  refine ⟨k, rfl, ?_⟩
  cases k with
  | false =>
    rw [if_neg Bool.false_ne_true] at q ⊢
    exact q.ok0 R1 _ (.bl _)
  | true =>
    rw [if_pos rfl] at q ⊢
    exact ⟨g1, m1, e, R1, E.ext x R, q⟩
theorem pz_or {a b : Expr} {rest : List Expr} {ca cb : Z.C} {pos : Pos} (ha : PE X a (tEv B G W ca)) (hb : PE X (.BoolOp .Or (b :: rest) pos) (tEv B G W cb)) : PE X (.BoolOp .Or (a :: b :: rest) pos) (tEv B G W (.or ca cb)) := by
  refine peI (pe_or ha hb) fun σ H Q ⟨g, m, e, R, E, p⟩ => ⟨g, m, e, R, E, ?_⟩
  unfold evalC at p
  refine p.bind.imp fun g1 m1 H1 d x R1 _ q v hv => ?_
  obtain ⟨k, rfl, q2⟩ := asBl_post q.bind
  cases hv
  have q := q2 g1 H1 (Ext.refl _ _) R1
  refine ⟨k, rfl, ?_⟩
  cases k with
  | true =>
    rw [if_pos rfl] at q ⊢
    exact q.ok0 R1 _ (.bl _)
  | false =>
    rw [if_neg Bool.false_ne_true] at q ⊢
    exact ⟨g1, m1, e, R1, E.ext x R, q⟩
theorem pz_one {a : Expr} {op : BoolOp} {ca : Z.C} {pos : Pos} (ha : PE X a (tEv B G W ca)) : PE X (.BoolOp op [a] pos) (tEv B G W ca) := pe_one ha
theorem pz_not {a : Expr} {ca : Z.C} {pos : Pos} (ha : PE X a (tEv B G W ca)) : PE X (.UnaryOp .Not a pos) (tEv B G W (.not ca)) := by
  refine peI (pe_not ha) fun σ H Q ⟨g, m, e, R, E, p⟩ => ⟨g, m, e, R, E, ?_⟩
  unfold evalC at p
  refine p.bind.imp fun g1 m1 H1 d x R1 _ q v hv => ?_
  obtain ⟨k, rfl, q2⟩ := asBl_post q.bind
  cases hv
  have q3 := q2 g1 H1 (Ext.refl _ _) R1
  exact ⟨k, rfl, q3 g1 H1 (Ext.refl _ _) R1 _ (.bl _)⟩
theorem tz_and {a b : Expr} {rest : List Expr} {ca cb : Z.C} {pos : Pos} (ha : PT X a (tEvT B G W ca)) (hb : PW X (.BoolOp .And (b :: rest) pos) (tEvT B G W cb)) : PW X (.BoolOp .And (a :: b :: rest) pos) (tEvT B G W (.and ca cb)) := by
  refine ⟨fun wh pins s σ H Q I h => (pw_and ha hb).run wh pins s σ H Q I ?_⟩
  obtain ⟨g, m, e, R, E, p⟩ := h
  refine ⟨g, m, e, R, E, ?_⟩
  unfold evalT evalC at p
  refine (show Post B g H _ _ (evalT G ca e m) from ?_)
  unfold evalT
  cases h1 : evalC G ca e m with
  | bad => rw [h1] at p; exact p
  | exc x m' => rw [h1] at p; exact p
  | ok d m1 =>
    rw [h1] at p
    cases d with
    | bl k =>
      intro g1 H1 x R1
      have p := Post.ext x p
      cases k with
      | false => exact (show Post B g1 H1 _ _ (((Out.ok (D.bl false) m1).bind fun d m => asBl d m)) from p).ok0 R1
      | true => exact ⟨g1, m1, e, R1, E.ext x R, p⟩
    | _ => exact p
theorem tz_or {a b : Expr} {rest : List Expr} {ca cb : Z.C} {pos : Pos} (ha : PT X a (tEvT B G W ca)) (hb : PW X (.BoolOp .Or (b :: rest) pos) (tEvT B G W cb)) : PW X (.BoolOp .Or (a :: b :: rest) pos) (tEvT B G W (.or ca cb)) := by
  refine ⟨fun wh pins s σ H Q I h => (pw_or ha hb).run wh pins s σ H Q I ?_⟩
  obtain ⟨g, m, e, R, E, p⟩ := h
  refine ⟨g, m, e, R, E, ?_⟩
  unfold evalT evalC at p
  refine (show Post B g H _ _ (evalT G ca e m) from ?_)
  unfold evalT
  cases h1 : evalC G ca e m with
  | bad => rw [h1] at p; exact p
  | exc x m' => rw [h1] at p; exact p
  | ok d m1 =>
    rw [h1] at p
    cases d with
    | bl k =>
      intro g1 H1 x R1
      have p := Post.ext x p
      cases k with
      | true => exact (show Post B g1 H1 _ _ (((Out.ok (D.bl true) m1).bind fun d m => asBl d m)) from p).ok0 R1
      | false => exact ⟨g1, m1, e, R1, E.ext x R, p⟩
    | _ => exact p
theorem tw_and1 {a : Expr} {ca : Z.C} {pos : Pos} (ha : PT X a (tEvT B G W ca)) : PW X (.BoolOp .And [a] pos) (tEvT B G W ca) := pw_and1 ha
theorem tw_or1 {a : Expr} {ca : Z.C} {pos : Pos} (ha : PT X a (tEvT B G W ca)) : PW X (.BoolOp .Or [a] pos) (tEvT B G W ca) := pw_or1 ha
theorem tz_not {a : Expr} {ca : Z.C} {pos : Pos} (ha : PT X a (tEvT B G W ca)) : PT X (.UnaryOp .Not a pos) (tEvT B G W (.not ca)) := by
  refine ptI (pt_not ha) fun σ H Q ⟨g, m, e, R, E, p⟩ => ⟨g, m, e, R, E, ?_⟩
  unfold evalT evalC at p
  unfold evalT
  cases h1 : evalC G ca e m with
  | bad => rw [h1] at p; exact p
  | exc x m' => rw [h1] at p; exact p
  | ok d m1 =>
    rw [h1] at p
    cases d with
    | bl k => exact p
    | _ => exact p
theorem pz_ite {t a b : Expr} {ct ca cb : Z.C} {pos : Pos} (ht : PT X t (tEvT B G W ct)) (ha : PE X a (tEv B G W ca)) (hb : PE X b (tEv B G W cb)) : PE X (.IfExp t a b pos) (tEv B G W (.ite ct ca cb)) := by
  refine peI (pe_ifExp ht ha hb) fun σ H Q ⟨g, m, e, R, E, p⟩ => ⟨g, m, e, R, E, ?_⟩
  unfold evalC at p
  unfold evalT
  cases h1 : evalC G ct e m with
  | bad => rw [h1] at p; exact p
  | exc x m' => rw [h1] at p; exact p
  | ok d m1 =>
    rw [h1] at p
    cases d with
    | bl k =>
      intro g1 H1 x R1
      have p := Post.ext x p
      cases k with
      | true => exact ⟨g1, m1, e, R1, E.ext x R, p⟩
      | false => exact ⟨g1, m1, e, R1, E.ext x R, p⟩
    | _ => exact p

/-! ### parts -/
theorem atI_den {vs : List V} {l : List D} {k : Int} {d : D} (h : Dens B g H vs l) (e : atI l k = some d) : ∃ v, atI vs k = some v ∧ Den B g H v d := by
  unfold atI at e ⊢
  rw [h.length]
  cases q : ixN l.length k with
  | none => rw [q] at e; cases e
  | some j =>
    rw [q] at e
    obtain ⟨v, h1, h2⟩ := h.get (i := j) (by simpa using e)
    exact ⟨v, by simpa using h1, h2⟩
theorem getK_den {ks : List (Key × V)} {kvs : List (Key × D)} {k : Key} {d : D} (h : Paired (fun (p : Key × V) (q : Key × D) => p.1 = q.1 ∧ Den B g H p.2 q.2) ks kvs) (e : getK kvs k = some d) : ∃ v, valV ks k = some v ∧ Den B g H v d := by
  induction h with
  | nil => simp [getK] at e
  | @cons p q ps qs h t ih =>
    obtain ⟨h1, h2⟩ := h
    by_cases hk : q.1 = k
    · have e1 : getK (q :: qs) k = some q.2 := by simp [getK, List.find?_cons, hk]
      rw [e1] at e
      cases e
      exact ⟨p.2, valV_pos (h1.trans hk), h2⟩
    · have e1 : getK (q :: qs) k = getK qs k := by simp [getK, List.find?_cons, hk]
      rw [e1] at e
      rw [valV_neg (fun z => hk (h1.symm.trans z))]
      exact ih e
/-- one part: of a list, a tuple, a dict by texts -/
def rSub (B : Bs) : R2 := fun x y H Q => ∃ g m d1 d2 d, Rl B g m H ∧ Den B g H x d1 ∧ Den B g H y d2 ∧ subD m d1 d2 = some d ∧ ∀ v, Den B g H v d → Q v H
theorem ix_dict (hu : X.A.units + 1 < cLine) : IxR X (fun x y H Q => ∃ a v, x = .ref a ∧ DGet H a y (some v) ∧ Q v H) := by
  intro value slice pins s σ H x y v u Q I rx ry h hs
  obtain ⟨a, w', rfl, dg, q⟩ := h
  cases rx
  exact tail_any (dict_typeIs I dg) PySem.F.slot_dict_getitem.lookup (d_getItem hu I dg ry fun r s' I' rr => ⟨w', H, I', rr, q⟩) hs
theorem plainL (hK : X.K = B.K) {a : Addr} {xs : List V} (h : SqL B.K H a xs) : SqL X.K H a xs := by rw [hK]; exact h
theorem plainT (hK : X.K = B.K) {a : Addr} {xs : List V} (h : SqT B.K H a xs) : SqT X.K H a xs := by rw [hK]; exact h
theorem paired_zip {kvs : List (Key × V)} : ∀ {vs : List D}, Dens B g H (kvs.map (·.2)) vs → Paired (fun (p : Key × V) (q : Key × D) => p.1 = q.1 ∧ Den B g H p.2 q.2) kvs ((kvs.map (·.1)).zip vs) := by
  induction kvs with
  | nil => intro vs h; cases h; exact .nil
  | cons kv kvs ih =>
    intro vs h
    cases h with
    | cons h1 h2 => exact .cons ⟨rfl, h1⟩ (ih h2)
theorem ix_sub (cx : Ctx B X) : IxR X (rSub B) := by
  intro value slice pins s σ H x y v u Q I rx ry h hs
  obtain ⟨g, m, d1, d2, d, R, h1, h2, e, q⟩ := h
  have hu : X.A.units + 1 < cLine := by have := cx.un; omega
  cases d2 with
  | int k =>
    simp only [subD] at e
    cases h2
    cases q1 : rdS m d1 with
    | none => rw [q1] at e; cases e
    | some p =>
      obtain ⟨b, l⟩ := p
      rw [q1] at e
      obtain ⟨a, xs, e1, hx, hl, ht⟩ := h1.rdS R q1
      obtain ⟨w', e2, hw⟩ := atI_den hx e
      cases b with
      | true => exact ix_list value slice pins s σ H x _ v u Q I rx ry ⟨a, xs, k, w', e1, rfl, plainL cx.K (hl rfl), e2, q w' hw⟩ hs
      | false => exact ix_tup value slice pins s σ H x _ v u Q I rx ry ⟨a, xs, k, w', e1, rfl, plainT cx.K (ht rfl), e2, q w' hw⟩ hs
  | str z =>
    cases h2
    cases d1 with
    | loc n =>
      simp only [subD] at e
      cases h1 with
      | @loc a _ ha =>
        cases q1 : m[n]? with
        | none => rw [q1] at e; cases e
        | some mo =>
          cases mo with
          | dk kvs =>
            rw [q1] at e
            obtain ⟨ks, k1, k2⟩ := R.mem n a _ ha q1
            obtain ⟨w', e2, hw⟩ := getK_den k2 e
            exact ix_dict hu value slice pins s σ H _ _ v u Q I rx ry ⟨a, w', rfl, by rw [← e2]; exact DGet.k (k := Sum.inr z) k1, q w' hw⟩ hs
          | _ => rw [q1] at e; cases e
    | dct ks vs =>
      simp only [subD] at e
      cases h1 with
      | @dct a kvs _ _ f hH hk hv =>
        subst hk
        have hp : Paired (fun (p : Key × V) (q : Key × D) => p.1 = q.1 ∧ Den B g H p.2 q.2) kvs ((kvs.map (·.1)).zip vs) := paired_zip hv
        obtain ⟨w', e2, hw⟩ := getK_den hp e
        exact ix_dict hu value slice pins s σ H _ _ v u Q I rx ry ⟨a, w', rfl, by rw [← e2]; exact DGet.k (k := Sum.inr z) hH, q w' hw⟩ hs
    | _ => simp [subD] at e
  | _ => simp [subD] at e
theorem pz_sub (cx : Ctx B X) {a b : Expr} {ca cb : Z.C} {pos : Pos} (ha : PE X a (tEv B G W ca)) (hb : PE X b (tEv B G W cb)) (hs : PlainIx b) : PE X (.Subscript a b pos) (tEv B G W (.sub ca cb)) := by
  refine peI (pe_ix (ix_sub cx) ha hb hs) fun σ H Q ⟨g, m, e, R, E, p⟩ => ⟨g, m, e, R, E, ?_⟩
  unfold evalC at p
  refine p.bind.imp fun g1 m1 H1 d x R1 _ q v hv => ⟨g1, m1, e, R1, E.ext x R, ?_⟩
  refine q.bind.imp fun g2 m2 H2 d2 y R2 _ z w hw => ?_
  obtain ⟨k, ek, z⟩ := z.lifted
  exact ⟨g2, m2, d, d2, k, R2, hv.ext y R1, hw, ek, z g2 H2 (Ext.refl _ _) R2⟩

/-! ### cuts -/
def tCo (B : Bs) (G : Sg) (W : WE) (c : Co) : TO := fun σ H Q => ∃ g m e, Rl B g m H ∧ EnvR B g H σ e ∧ Post B g H (W σ e) (fun g' m' H' o => Q o H') (evalCo G c e m)
theorem poI {e : Option Expr} {t t' : TO} (h : PO X e t) (i : ∀ σ H Q, t' σ H Q → t σ H Q) : PO X e t' := ⟨fun pins s σ H Q I q => h.run pins s σ H Q I (i σ H Q q)⟩
theorem oz_none : PO X none (tCo B G W .none) := by
  refine poI po_none fun σ H Q ⟨g, m, e, R, E, p⟩ => ?_
  unfold evalCo at p
  exact p.ok0 R
theorem oz_some {a : Expr} {ca : Z.C} (ha : PE X a (tEv B G W ca)) : PO X (some a) (tCo B G W (.some ca)) := by
  refine poI (po_some ha) fun σ H Q ⟨g, m, e, R, E, p⟩ => ⟨g, m, e, R, E, ?_⟩
  unfold evalCo at p
  refine p.bind.imp fun g1 m1 H1 d x R1 _ q v hv => ?_
  cases d with
  | int i => cases hv; exact ⟨i, rfl, q.ok0 R1⟩
  | _ => exact q.elim
theorem cutV_den {vs : List V} {l : List D} (h : Dens B g H vs l) (lo hi : Option Int) : Dens B g H (cutV vs lo hi) ((l.drop (HT.sIx l.length 0 lo)).take (HT.sIx l.length l.length hi - HT.sIx l.length 0 lo)) := by
  unfold cutV
  rw [h.length]
  exact (h.drop _).take _
def rCut (B : Bs) : V → Option Int → Option Int → Hp → VK → Prop := fun x lo hi H Q => ∃ g m d1 d, Rl B g m H ∧ Den B g H x d1 ∧ cutD m d1 lo hi = some d ∧ FinF B g H Q d m
theorem sl_cut (cx : Ctx B X) : SlR X (rCut B) := by
  intro pins s σ H x v vl vu lo hi sl Q I rx hs pl pu h
  obtain ⟨g, m, d1, d, R, h1, e, q⟩ := h
  unfold cutD at e
  cases q1 : rdS m d1 with
  | none => rw [q1] at e; cases e
  | some p =>
    obtain ⟨b, l⟩ := p
    rw [q1] at e
    obtain ⟨a, xs, e1, hx, hl, ht⟩ := h1.rdS R q1
    cases b with
    | true =>
      cases e
      exact sl_list pins s σ H x v vl vu lo hi sl Q I rx hs pl pu ⟨a, xs, e1, plainL cx.K (hl rfl), fun p hp => q.lst R hp (cutV_den hx lo hi)⟩
    | false =>
      cases e
      refine sl_tupA pins s σ H x v vl vu lo hi sl Q I rx hs pl pu ⟨a, xs, e1, plainT cx.K (ht rfl), fun hw => ?_, fun _ p hp => q.tup R hp (cutV_den hx lo hi)⟩
      rw [hx.length] at hw
      rw [hw.1, hw.2, List.drop_zero, Nat.sub_zero, List.take_length] at q
      exact q.flat R (by simp) (.tup (ht rfl) hx)
theorem pf_cut (cx : Ctx B X) {a : Expr} {lo hi : Option Expr} {ca : Z.C} {cl ch : Co} {p2 pos : Pos} (ha : PE X a (tEv B G W ca)) (hl : PO X lo (tCo B G W cl)) (hh : PO X hi (tCo B G W ch)) :
    PE X (.Subscript a (.Slice lo hi none p2) pos) (tEvF B G W (.cut ca cl ch)) := by
  refine peI (pe_slice (sl_cut cx) ha hl hh) fun σ H Q ⟨g, m, e, R, E, p⟩ => ⟨g, m, e, R, E, ?_⟩
  unfold evalC at p
  refine p.bind.imp fun g1 m1 H1 d x R1 _ q v hv => ⟨g1, m1, e, R1, E.ext x R, ?_⟩
  refine q.bind.imp fun g2 m2 H2 l y R2 _ z => ⟨g2, m2, e, R2, (E.ext x R).ext y R1, ?_⟩
  refine z.bind.imp fun g3 m3 H3 h y3 R3 _ z => ?_
  cases eo : cutD m3 d l h with
  | none => rw [eo] at z; exact z.elim
  | some d3 =>
    rw [eo] at z
    exact ⟨g3, m3, d, d3, R3, (hv.ext y R1).ext y3 R2, eo, z⟩
/-- xs[::-1], t[::-1] -/
theorem pf_revL (cx : Ctx B X) {a : Expr} {ca : Z.C} {k : Nat} {p1 p2 p3 pos : Pos} (ha : PE X a (tEv B G W ca))
    (ht : PE X (.Subscript a (.Slice none none (some (.UnaryOp .USub (.Constant (.int 1) k p1) p2)) p3) pos) (fun σ H Q => tEv B G W ca σ H fun x H1 => ∃ p xs, x = .ref p ∧
      ((SqL X.K H1 p xs ∧ ∀ q, H1 q = none → Q (.ref q) (upd H1 q (.lst xs.reverse))) ∨ (SqT X.K H1 p xs ∧ ∀ q, H1 q = none → Q (.ref q) (upd H1 q (.tup xs.reverse)))))) :
    PE X (.Subscript a (.Slice none none (some (.UnaryOp .USub (.Constant (.int 1) k p1) p2)) p3) pos) (tEvF B G W (.rev ca)) := by
  refine peI ht fun σ H Q ⟨g, m, e, R, E, p⟩ => ⟨g, m, e, R, E, ?_⟩
  unfold evalC at p
  refine p.bind.imp fun g1 m1 H1 d x R1 _ q v hv => ?_
  cases eo : revD m1 d with
  | none => rw [eo] at q; exact q.elim
  | some d3 =>
    rw [eo] at q
    unfold revD at eo
    cases q1 : rdS m1 d with
    | none => rw [q1] at eo; cases eo
    | some p =>
      obtain ⟨b, l⟩ := p
      rw [q1] at eo
      obtain ⟨a, xs, e1, hx, hl, ht⟩ := hv.rdS R1 q1
      cases b with
      | true =>
        cases eo
        exact ⟨a, xs, e1, .inl ⟨plainL cx.K (hl rfl), fun p hp => FinF.lst R1 q hp hx.reverse⟩⟩
      | false =>
        cases eo
        exact ⟨a, xs, e1, .inr ⟨plainT cx.K (ht rfl), fun p hp => FinF.tup R1 q hp hx.reverse⟩⟩
end Z
/-! Z6: t[::-1]; repr of data; isinstance; the built-in functions that are served. -/
namespace Z
open PySem PySem.Spec PyProof.Rows L2
variable {B : Bs} {G : Sg} {W : WE} {U : XW} {X : Cx} {g g' g1 g2 : Cfg} {H H' H1 H2 : Hp} {m m' m1 : Mem}

/-! ### t[::-1] -/
section
variable {prog : Program} {w : World} {A : Around} {E : Value → Shared → Prop} {s : Shared}
theorem places_back (n : Nat) : Builtin.Slice.slicePlaces ((n : Int) - 1) (-1) (-1) = n := by
  unfold Builtin.Slice.slicePlaces
  have h : ¬ ((-1 : Int) > 0) := by decide
  rw [if_neg h]
  by_cases z : (n : Int) - 1 > -1
  · rw [if_pos z, show (- -1 : Int) = 1 by decide, Int.ediv_one]; omega
  · rw [if_neg z]; omega
theorem applied_back {sl : Addr} {vs : Value} {n : Nat} {Q : Int × Int × Nat → Shared → Prop} (hs : s.heap.IsSliceOf sl .none .none vs) (p : IsPart vs (some (-1)))
    (h : Q ((n : Int) - 1, -1, n) s) : wpAny (model prog w) A (Builtin.Slice.sliceApplied (.ref sl) (pure (n : Int))) Q E s := by
  obtain ⟨o, e1, e2, e3⟩ := id hs
  unfold Builtin.Slice.sliceApplied Builtin.Slice.sliceFields
  have f0 : ∀ {R : Value → Shared → Prop}, R .none s → wpAny (model prog w) A (field (.ref sl) 0) R E s := fun r => wpAny_field e1 e3 rfl r
  have f1 : ∀ {R : Value → Shared → Prop}, R .none s → wpAny (model prog w) A (field (.ref sl) 1) R E s := fun r => wpAny_field e1 e3 rfl r
  have f2 : ∀ {R : Value → Shared → Prop}, R vs s → wpAny (model prog w) A (field (.ref sl) 2) R E s := fun r => wpAny_field e1 e3 rfl r
  refine wpAny_bind (wpAny_bind (f0 (wpAny_bind (f1 (wpAny_bind (f2 (wpAny_pure ?_)))))))
  refine wpAny_bind (HT.slicePart_ p ?_)
  show wpAny _ _ (if ((-1 : Int) == 0) = true then _ else _) _ _ s
  rw [if_neg (by decide)]
  refine wpAny_bind (slicePart_none (wpAny_bind (slicePart_none (wpAny_bind (wpAny_pure ?_)))))
  show wpAny _ _ (pure ((n : Int) - 1, (-1 : Int), Builtin.Slice.slicePlaces ((n : Int) - 1) (-1) (-1))) _ _ s
  rw [places_back]
  exact wpAny_pure h
theorem fmap_congr {α β : Type} {f k : α → Option β} : ∀ {l : List α}, (∀ a ∈ l, f a = k a) → l.filterMap f = l.filterMap k
  | [], _ => rfl
  | a :: l, h => by
    rw [List.filterMap_cons, List.filterMap_cons, h a List.mem_cons_self, fmap_congr fun b hb => h b (List.mem_cons_of_mem _ hb)]
theorem pick_back (xs : Array Value) : ((List.range xs.size).filterMap fun (k : Nat) => xs[((xs.size : Int) - 1 + (k : Int) * -1).toNat]?).toArray = xs.toList.reverse.toArray := by
  congr 1
  have e : ((List.range xs.size).filterMap fun (k : Nat) => xs[((xs.size : Int) - 1 + (k : Int) * -1).toNat]?) = ((List.range xs.size).map fun k => xs.size - 1 - k).filterMap (xs[·]?) := by
    rw [List.filterMap_map]
    apply fmap_congr
    intro k hk
    have := List.mem_range.mp hk
    show xs[((xs.size : Int) - 1 + (k : Int) * -1).toNat]? = xs[xs.size - 1 - k]?
    rw [show ((xs.size : Int) - 1 + (k : Int) * -1).toNat = xs.size - 1 - k by omega]
  rw [e, PySem.W.krv_range, List.filterMap_reverse, PySem.W.krv_all]
theorem tuple_back {t sl : Addr} {items : Array Value} {vs : Value} {Q : Value → Shared → Prop} (ht : IsTup s.heap t items) (hs : s.heap.IsSliceOf sl .none .none vs) (p : IsPart vs (some (-1)))
    (h : Q (.ref s.heap.objs.size) { s with heap := s.heap.push { cls := .type "tuple", data := .seq items.toList.reverse.toArray } }) (hz : items.size ≤ sizeLine) :
    wpAny (model prog w) A (getItem (.ref t) (.ref sl)) Q E s := by
  have fit : sizeOk (.seq items.toList.reverse.toArray) := by
    show items.toList.reverse.toArray.size ≤ sizeLine
    rw [List.size_toArray, List.length_reverse, Array.length_toList]; exact hz
  obtain ⟨o, e1, e2, e3⟩ := id hs
  have ty : s.TypeIs (.ref sl) "slice" := ⟨o, e1, e2⟩
  unfold getItem
  (try with_reducible refine wpAny_holding ?_); (first | refine wpAny_bind (wpAny_pure ?_) | skip)
  refine wpAny_bind (wpAny_sequenceKey ht.typeIs (by decide) (wpAny_bind (wpAny_callSpecial?_slot (name := Str.ofString "__getitem__") ht.typeIs PyProof.Rows.slot_tuple_getitem (wpAny_call_entry PyProof.Rows.slot_tuple_getitem ht.typeIs entry_tuple_getitem ?_ (args_tuple_getitem _ _)))))
  show wpAny _ _ (Builtin.Tuple.tupleItemsOf (.ref t) >>= _) _ _ s; refine wpAny_bind (tupleItemsOf_ ht (wpAny_bind (wpAny_typeOf ty ?_)))
  rw [if_pos (by decide)]; refine wpAny_bind (applied_back hs p ?_)
  have no : ¬ (((items.size : Int) - 1 == 0 && (-1 : Int) == 1 && items.size == items.size) = true) := by simp
  show wpAny _ _ (if ((items.size : Int) - 1 == 0 && (-1 : Int) == 1 && items.size == items.size) = true then _ else _) _ _ s
  rw [if_neg no, pick_back]
  first
    | exact wpAny_bind (m := Builtin.Tuple.tupleExact _) (wpAny_newObj_type (wpAny_pure ⟨_, rfl, wpAny_pure h⟩) fit)
    | exact wpAny_bind (m := Builtin.Tuple.tupleExact _) (wpAny_newObj_type (wpAny_bind (wpAny_pure (wpAny_pure ⟨_, rfl, wpAny_pure h⟩))) fit)
    | exact wpAny_bind (wpAny_bind (m := Builtin.Tuple.tupleExact _) (wpAny_newObj_type (wpAny_pure (wpAny_pure ⟨_, rfl, wpAny_pure h⟩)) fit))
    | exact wpAny_bind (wpAny_bind (m := Builtin.Tuple.tupleExact _) (wpAny_newObj_type (wpAny_pure ⟨_, rfl, wpAny_pure h⟩) fit))
end
theorem pe_back {e : Expr} {te : TE} {k : Nat} {p1 p2 p3 pos : Pos} (he : PE X e te) : PE X (.Subscript e (.Slice none none (some (.UnaryOp .USub (.Constant (.int 1) k p1) p2)) p3) pos)
    (fun σ H Q => te σ H fun x H1 => ∃ p xs, x = .ref p ∧ ((SqL X.K H1 p xs ∧ ∀ q, H1 q = none → Q (.ref q) (upd H1 q (.lst xs.reverse))) ∨ (SqT X.K H1 p xs ∧ ∀ q, H1 q = none → Q (.ref q) (upd H1 q (.tup xs.reverse))))) := by
  refine ⟨fun pins s σ H Q I h => Subscript_ (thn (he.run pins s σ H _ I h) fun v s1 ⟨x, H1, I1, r1, p, xs, ex, q⟩ => ?_)⟩
  subst ex; cases r1
  have step : PO X (some (.UnaryOp .USub (.Constant (.int 1) k p1) p2)) (tPart (tUn (rU fun i => .int (-i)) (tC (.int 1)))) := po_some (pe_un un_neg pe_int)
  have none0 : ∀ {s' : Shared} {H' : Hp} (_ : Inv X pins σ H' s') {R : Value → Shared → Prop}, (Inv X pins σ H' s' → R .none s') → wpAny (model X.prog X.w) X.A (evalPart none X.env) R X.xe s' := fun {s' H'} I' {R} r => by
    rw [evalPart_none]; exact wpAny_pure (r I')
  refine wpAny_Slice (none0 I1 fun I2 => none0 I2 fun I3 => ?_)
  refine thn (step.run pins s1 σ H1 (fun o H4 => o = some (-1) ∧ H4 = H1) I3 ⟨1, rfl, -1, rfl, rfl, rfl⟩) fun vs s4 ⟨o, H4, I4, ps, eo, e4⟩ => ?_
  subst eo e4
  have I5 : Inv X pins σ H4 { s4 with heap := s4.heap.push { cls := .type "slice", data := .fields #[.none, .none, vs] } } := I4.kept (t' := s4.toks) fun b ob q => Heap.get?_push_of_some _ q
  show wpAny _ X.A (subscriptTail e _ (.ref p) (.ref s4.heap.objs.size)) _ _ _
  rcases q with ⟨hx, q⟩ | ⟨hx, q⟩
  · obtain ⟨its, r, ht, hz⟩ := I5.list hx
    have hlen := r.length
    refine tail_any (ops := [.ref p, .ref s4.heap.objs.size]) ht.isList.typeIs PySem.slot_list_getitem.lookup ?_ (by with_unfolding_all rfl)
    refine wpAny_getItem_list_slice ht.isList (Heap.IsSliceOf.new ..) .none .none ps (by decide) ?_ (by rw [List.size_toArray]; omega)
    rw [PySem.W.krv_pick]
    exact ⟨.ref _, _, I5.laid (t' := s4.toks) (o := .lst xs.reverse) (fun b ob q => Heap.get?_push_of_some _ q) (Nat.le_refl _) ⟨by rw [List.length_reverse]; exact hz, _, 0, r.reverse, Heap.get?_push_size _ rfl⟩, rfl, q _ (I5.hok.fresh (Nat.le_refl _))⟩
  · obtain ⟨its, r, ht, hz⟩ := I5.tuple hx
    have hlen := r.length
    refine tail_any (ops := [.ref p, .ref s4.heap.objs.size]) ht.typeIs PyProof.Rows.slot_tuple_getitem.lookup ?_ (by with_unfolding_all rfl)
    refine tuple_back ht (Heap.IsSliceOf.new ..) ps ?_ (by rw [List.size_toArray]; omega)
    exact ⟨.ref _, _, I5.laid (t' := s4.toks) (o := .tup xs.reverse) (fun b ob q => Heap.get?_push_of_some _ q) (Nat.le_refl _) ⟨by rw [List.length_reverse]; exact hz, _, r.reverse, IsTup.new _ _⟩, rfl, q _ (I5.hok.fresh (Nat.le_refl _))⟩
theorem pf_back (cx : Ctx B X) {a : Expr} {ca : Z.C} {k : Nat} {p1 p2 p3 pos : Pos} (ha : PE X a (tEv B G W ca)) :
    PE X (.Subscript a (.Slice none none (some (.UnaryOp .USub (.Constant (.int 1) k p1) p2)) p3) pos) (tEvF B G W (.rev ca)) := pf_revL cx ha (pe_back ha)
end Z
namespace Z
open PySem PySem.Spec PyProof.Rows L2
variable {B : Bs} {G : Sg} {W : WE} {U : XW} {X : Cx} {g g' g1 g2 : Cfg} {H H' H1 H2 : Hp} {m m' m1 : Mem}

/-! ### repr -/
theorem cr_repr (cx : Ctx B X) : CallR X (.builtin "repr") (fun vs H Q => ∃ v x, vs = [v] ∧ Dp X.K H v x ∧ x.canLay0 = true ∧ x.showable = true ∧ x.depth ≤ 60 ∧ x.shown.length ≤ sizeLine ∧ Q (.str x.shown) H) := by
  intro pins s σ H vs us Q I r h
  obtain ⟨v, x, rfl, hd, hc, hs, hp, hz, q⟩ := h
  obtain ⟨u, rfl, ru⟩ := vals1 r
  obtain ⟨as, rd⟩ := Dp.reads I x v u hd ru
  have hu : X.A.units + (x.depth + 1) < cLine := by have := cx.un; omega
  have nd : x.hasDict = true → sysModules ∉ as := PyData.noDict_hsm (PyData.hasDict_of_canLay x hc)
  cases hd with
  | non => cases ru; exact PySem.P.repr_of_none ⟨.str _, H, I.tok _, ⟨_, rfl⟩, by simpa [PyData.shown] using q⟩
  | bl b => cases ru; exact PySem.P.repr_of_bool ⟨.str _, H, I.tok _, ⟨_, rfl⟩, by simpa [PyData.shown] using q⟩
  | int i =>
    obtain ⟨t, rfl⟩ := ru
    exact PySem.P.repr_of_int (by simpa [PyData.showable] using hs) ⟨.str _, H, I.tok _, ⟨_, rfl⟩, by simpa [PyData.shown] using q⟩
  | str z =>
    obtain ⟨t, rfl⟩ := ru
    exact PySem.P.repr_of_str ⟨.str _, H, I.tok _, ⟨_, rfl⟩, by simpa [PyData.shown] using q⟩ (by simpa [PyData.shown] using hz)
  | lst h1 h2 => cases ru; exact repr_of_reads' rd hs nd cx.gd hu (fun _ _ e => e) (fun h' t tk k => ⟨.str _, H, I.kept (t' := tk) k, ⟨_, rfl⟩, q⟩) hz
  | tup h1 h2 => cases ru; exact repr_of_reads' rd hs nd cx.gd hu (fun _ _ e => e) (fun h' t tk k => ⟨.str _, H, I.kept (t' := tk) k, ⟨_, rfl⟩, q⟩) hz

/-! ### isinstance -/
theorem tyX_of {K : PySem.W.Frag} (hK : K = B.K) {v : V} {d : D} {t : String} (R : Rl B g m H) (h : Den B g H v d) (e : tyName m d = some t) : TyX K H v (.type t) := by
  subst hK
  cases h with
  | non => cases e; exact .base .non
  | bl b => cases e; exact .base (.bl b)
  | int i => cases e; exact .base (.int i)
  | str s => cases e; exact .base (.str s)
  | tup h r =>
    cases e
    rcases h with (h | ⟨o, h⟩) | ⟨o, its, n, h1, h2, _⟩
    · exact .base (.tup h)
    · exact .fTuple h
    · exact .kTuple h1 h2
  | lst f h r => cases e; exact .base (.lst h)
  | scr h => cases e
  | scrK h => cases e
  | @loc a n h =>
    simp only [tyName] at e
    cases q : m[n]? with
    | none => rw [q] at e; cases e
    | some mo =>
      rw [q] at e
      cases mo with
      | lst l => cases e; obtain ⟨xs, h1, _⟩ := R.mem n a _ h q; exact .base (.lst h1)
      | dk kvs => cases e; obtain ⟨xs, h1, _⟩ := R.mem n a _ h q; exact .base (.dK h1)
      | ins c fs => cases e
  | fn h => cases e
  | ty s => cases e
  | dct f h q r => cases e
theorem kit_of_name {K : PySem.W.Frag} {m : Mem} {d : D} {u t : String} (e : tyName m d = some u) (ht : isKind t = true) : PySem.W.kitOne K (.type u) (.type t) = some (u == t || (u == "bool" && t == "int")) := by
  have hu : u = "NoneType" ∨ u = "bool" ∨ u = "int" ∨ u = "str" ∨ u = "tuple" ∨ u = "list" ∨ u = "dict" := by
    cases d <;> simp only [tyName] at e <;> (try cases e) <;> (try simp)
    split at e <;> (try cases e) <;> simp
  have ht' : t = "int" ∨ t = "bool" ∨ t = "str" ∨ t = "tuple" ∨ t = "list" := by
    unfold isKind at ht
    simpa using ht
  rcases hu with rfl | rfl | rfl | rfl | rfl | rfl | rfl <;> rcases ht' with rfl | rfl | rfl | rfl | rfl <;> first | rfl | (with_unfolding_all rfl) | kernel_rfl

/-! ### sorted -/
theorem sorted_eq {ns ms : List Int} (hp : ms.Perm ns) (hs : ms.Pairwise (· ≤ ·)) : ms = ns.mergeSort (fun a b => decide (a ≤ b)) := by
  have p2 : (ns.mergeSort (fun a b => decide (a ≤ b))).Perm ns := List.mergeSort_perm ns _
  have s2 : (ns.mergeSort (fun a b => decide (a ≤ b))).Pairwise (· ≤ ·) := by
    have := List.pairwise_mergeSort (le := fun a b : Int => decide (a ≤ b)) (by intro a b c h1 h2; simp at *; omega) (by intro a b; simp; omega) ns
    exact this.imp (by intro a b h; simpa using h)
  exact List.Perm.eq_of_pairwise (le := (· ≤ ·)) (fun a b _ _ h1 h2 => Int.le_antisymm h1 h2) hs s2 (hp.trans p2.symm)
end Z
/-! Z7: calls of built-in functions and types; displays of dicts. -/
namespace Z
open PySem PySem.Spec PyProof.Rows L2
variable {B : Bs} {G : Sg} {W : WE} {U : XW} {X : Cx} {g g' g1 g2 : Cfg} {H H' H1 H2 : Hp} {m m' m1 : Mem}

def biName : Bi → Str
  | .isinst => "isinstance" | .all => "all" | .any => "any" | .sum => "sum" | .len => "len" | .list => "list" | .tuple => "tuple" | .sorted => "sorted" | .repr => "repr" | .str => "str" | .int => "int" | .min => "min" | .max => "max" | .min2 => "min" | .max2 => "max"
def biVal : Bi → Value
  | .isinst => .builtin "isinstance" | .all => .builtin "all" | .any => .builtin "any" | .sum => .builtin "sum" | .len => .builtin "len" | .list => .type "list" | .tuple => .type "tuple"
  | .sorted => .builtin "sorted" | .repr => .builtin "repr" | .str => .type "str" | .int => .type "int" | .min => .builtin "min" | .max => .builtin "max" | .min2 => .builtin "min" | .max2 => .builtin "max"
def rBi (B : Bs) (b : Bi) : List V → Hp → VK → Prop := fun vs H Q => ∃ g m ds d, Rl B g m H ∧ Dens B g H vs ds ∧ biD b m ds = some d ∧ FinF B g H Q d m
theorem Dens.one {vs : List V} {d : D} (h : Dens B g H vs [d]) : ∃ v, vs = [v] ∧ Den B g H v d := by
  cases h with
  | cons h t => cases t; exact ⟨_, rfl, h⟩
theorem Dens.two {vs : List V} {d e : D} (h : Dens B g H vs [d, e]) : ∃ v w, vs = [v, w] ∧ Den B g H v d ∧ Den B g H w e := by
  cases h with
  | cons h t => cases t with | cons h2 t => cases t; exact ⟨_, _, rfl, h, h2⟩
/-! ### sorted, of lists and of tuples -/
theorem fresh_end {h h' : Heap} (k : ∀ b o, h.get? b = some o → h'.get? b = some o) : h.get? h'.objs.size = none := by
  cases e : h.get? h'.objs.size with
  | none => rfl
  | some o => exact absurd (Heap.lt_size (k _ _ e)) (Nat.lt_irrefl _)
theorem cases_seq {K : PySem.W.Frag} {H : Hp} {a : Addr} {xs : List V} (k : Bool) (h1 : k = true → SqL K H a xs) (h2 : k = false → SqT K H a xs) : SqL K H a xs ∨ SqT K H a xs := by
  cases k with
  | true => exact .inl (h1 rfl)
  | false => exact .inr (h2 rfl)
theorem sorted_at {prog : Program} {w : World} {A : Around} {E : Value → Shared → Prop} {s : Shared} {q : Addr} {T : String} {o : Obj} {items : Array Value} {n : Nat} {ns : List Int} {Q : Value → Shared → Prop} (hT : T = "list" ∨ T = "tuple") (ho : s.heap.get? q = some o) (hc : o.cls = .type T) (hd : o.data = .seq items n)
    (hi : IntsAre items.toList ns) (hz : items.size ≤ sizeLine)
    (h : ∀ (out : List Value) (p : Addr) (h2 : Heap), IntsAre out (out.map SrtO.iv) → (out.map SrtO.iv).Perm ns → (out.map SrtO.iv).Pairwise (· ≤ ·) → s.heap.get? p = none → (∀ b u, s.heap.get? b = some u → h2.get? b = some u) → (∃ e, h2.get? p = some (seqObj "list" out.toArray e)) → Q (.ref p) { s with heap := h2 }) :
    wpAny (model prog w) A (call (.builtin "sorted") [.ref q]) Q E s := by
  refine Calls.call_function_entry kind_sorted plain_sorted entry_sorted (args_sorted1 _) ?_
  unfold Builtin.«sorted»
  refine wpAny_bind (m := checkCount "sorted" 1 1 _) (wpAny_pure ?_)
  refine wpAny_bind (wpAny_collect_seq q hT ho hc hd (fun h' keep => ?_) hz)
  have hz' : items.toList.length ≤ sizeLine := by rw [Array.length_toList]; exact hz
  refine wpAny_bind (wpAny_newList ?_ hz')
  have at_ : (h'.push (seqObj "list" items.toList.toArray 0)).get? h'.objs.size = some (seqObj "list" items.toList.toArray 0) := Heap.get?_push_size _ rfl
  refine wpAny_bind (wpAny_holding (wpAny_call_entry slot_list_sort ⟨_, at_, rfl⟩ entry_list_sort (SrtO.list_sort_ord SrtO.swo_int at_ hz' (fun two => SrtO.ints_sortable hi two) fun out o1 o2 => ⟨_, rfl, ?_⟩) (args_list_sort _)))
  obtain ⟨k1, k2, k3⟩ := SrtO.ints_out hi o1 o2
  refine wpAny_pure ⟨_, rfl, h out _ _ k1 k2 k3 (fresh_end keep) (fun b u hb => ?_) (sortedHeap_at at_)⟩
  have lt : b < h'.objs.size := Heap.lt_size (keep b u hb)
  rw [sortedHeap_old (Nat.ne_of_lt lt) (by rw [Heap.size_push]; exact Nat.lt_succ_of_lt lt)]
  exact Heap.get?_push_of_some _ (keep b u hb)
theorem sorted_seq {pins : List (Addr × Obj)} {σ : L2.St} {s : Shared} {H : Hp} {a : Addr} {ns : List Int} {us : List Value} {Q : VK} (I : Inv X pins σ H s) (r : Vals [V.ref a] us) (hs : SqL X.K H a (ns.map V.int) ∨ SqT X.K H a (ns.map V.int))
    (h : ∀ (ns' : List Int) (p : Addr), ns'.Perm ns → ns'.Pairwise (· ≤ ·) → H p = none → Q (.ref p) (L2.upd H p (.lst (ns'.map V.int)))) : wpAny (model X.prog X.w) X.A (call (.builtin "sorted") us) (EP X pins σ Q) X.xe s := by
  rw [Vals.ref1 r]
  have fin : ∀ (out : List Value) (p : Addr) (h2 : Heap), ns.length ≤ sizeLine → IntsAre out (out.map SrtO.iv) → (out.map SrtO.iv).Perm ns → (out.map SrtO.iv).Pairwise (· ≤ ·) → s.heap.get? p = none → (∀ b u, s.heap.get? b = some u → h2.get? b = some u) → (∃ e, h2.get? p = some (seqObj "list" out.toArray e)) → EP X pins σ Q (.ref p) { s with heap := h2 } := fun out p h2 hz k1 k2 k3 k4 k5 k6 => by
    obtain ⟨e, k6⟩ := k6
    refine ⟨.ref p, L2.upd H p (.lst ((out.map SrtO.iv).map V.int)), I.laidN (t' := s.toks) k5 k4 (I.hok.gone k4) ⟨by rw [List.length_map, k2.length_eq]; exact hz, out, e, vals_of_ints k1, k6⟩, rfl, h _ _ k2 k3 (I.hok.gone k4)⟩
  rcases hs with hs | hs
  · obtain ⟨its, rv, ⟨o, n, e1, e2, _, e3⟩, hz⟩ := I.list hs
    have hl := rv.length
    rw [List.length_map] at hl hz
    exact sorted_at (.inl rfl) e1 e2 e3 (by simpa using rv.ints) (by rw [List.size_toArray]; omega) fun out p h2 => fin out p h2 (by omega)
  · obtain ⟨its, rv, ⟨o, e1, e2, n, e3⟩, hz⟩ := I.tuple hs
    have hl := rv.length
    rw [List.length_map] at hl hz
    exact sorted_at (.inr rfl) e1 e2 e3 (by simpa using rv.ints) (by rw [List.size_toArray]; omega) fun out p h2 => fin out p h2 (by omega)
/-! ### sorted data -/
theorem reads_lt {h : Heap} : ∀ {v : Value} {d : PyData} {as : List Addr}, Reads h v d as → ∀ a ∈ as, a < h.objs.size := by
  intro v d as r
  refine Reads.rec (motive_1 := fun v d as _ => ∀ a ∈ as, a < h.objs.size) (motive_2 := fun vs ds as _ => ∀ a ∈ as, a < h.objs.size) ?_ ?_ ?_ ?_ ?_ ?_ ?_ ?_ ?_ r
  · intro a ha; cases ha
  · intro _ a ha; cases ha
  · intro _ _ a ha; cases ha
  · intro _ _ a ha; cases ha
  · intro a o vs n xs as h1 _ _ _ ih b hb
    rcases List.mem_cons.mp hb with rfl | hb
    · exact Heap.lt_size h1
    · exact ih b hb
  · intro a o vs n xs as _ _ _ _ ih b hb
    exact ih b hb
  · intro a o es n kvs as bs h1 _ _ _ _ ih1 ih2 b hb
    rcases List.mem_append.mp hb with hb | hb
    · rcases List.mem_cons.mp hb with rfl | hb
      · exact Heap.lt_size h1
      · exact ih1 b hb
    · exact ih2 b hb
  · intro a ha; cases ha
  · intro v vs d ds as bs _ _ ih1 ih2 a ha
    exact (List.mem_append.mp ha).elim (ih1 a) (ih2 a)
theorem sortOk_of {l : List D} (h : sortOk l = true) : (∀ d ∈ l, ∃ x, toPy d = some x ∧ x.depth ≤ 60) ∧ ((PySem.W.AllAlike (l.map pyd) ∧ PySem.W.Sortable (l.map pyd)) ∨ AllPre (l.map pyd)) := by
  unfold sortOk at h
  simp only [Bool.and_eq_true, Bool.or_eq_true, List.all_eq_true, decide_eq_true_eq] at h
  obtain ⟨h1, h2⟩ := h
  refine ⟨fun d hd => ?_, ?_⟩
  · obtain ⟨a, b⟩ := h1 d hd
    obtain ⟨x, e⟩ := Option.isSome_iff_exists.mp a
    refine ⟨x, e, ?_⟩
    unfold pyd at b
    rw [e] at b
    exact b
  rcases h2 with ⟨h2, h3⟩ | h2
  · left
    refine ⟨fun x hx y hy => ?_, ?_⟩
    · obtain ⟨a, ha, rfl⟩ := List.mem_map.mp hx
      obtain ⟨b, hb, rfl⟩ := List.mem_map.mp hy
      exact h2 a ha b hb
    · refine h3.imp (fun h d hd => ?_) fun h d hd => ?_
      · obtain ⟨a, ha, rfl⟩ := List.mem_map.mp hd
        have := h a ha
        unfold isRow at this
        split at this
        · rename_i x r e; exact ⟨x, r, e⟩
        · cases this
      · obtain ⟨a, ha, rfl⟩ := List.mem_map.mp hd
        have := h a ha
        refine ⟨fun e => ?_, fun xs e => ?_⟩ <;> (rw [e] at this; cases this)
  · right
    intro x hx y hy
    obtain ⟨a, ha, rfl⟩ := List.mem_map.mp hx
    obtain ⟨b, hb, rfl⟩ := List.mem_map.mp hy
    have := h2 a ha b hb
    unfold rowPre at this
    split at this
    · rename_i x r y t e1 e2
      exact ⟨x, r, y, t, e1, e2, this⟩
    · cases this
theorem dens_pairs : ∀ {ps : List (V × D)}, (∀ p ∈ ps, Den B g H p.1 p.2) → Dens B g H (ps.map (·.1)) (ps.map (·.2))
  | [], _ => .nil
  | p :: ps, h => .cons (h p (List.mem_cons_self ..)) (dens_pairs fun q hq => h q (List.mem_cons_of_mem _ hq))
theorem dens_zip : ∀ {vs : List V} {l : List D}, Dens B g H vs l → (∀ p ∈ vs.zip l, Den B g H p.1 p.2) ∧ (vs.zip l).map (·.2) = l ∧ (vs.zip l).map (·.1) = vs
  | _, _, .nil => ⟨fun _ h => (by cases h), rfl, rfl⟩
  | _, _, .cons (v := v) (d := d) h r => by
    obtain ⟨h1, h2, h3⟩ := dens_zip r
    refine ⟨fun p hp => ?_, by rw [List.zip_cons_cons, List.map_cons, h2], by rw [List.zip_cons_cons, List.map_cons, h3]⟩
    rcases List.mem_cons.mp hp with rfl | hp
    · exact h
    · exact h1 p hp
theorem vals_zip {R2 : Value → V × D → Prop} : ∀ {vs : List V} {us : List Value} {l : List D}, Vals vs us → vs.length = l.length → (∀ v u d, (v, d) ∈ vs.zip l → RelV v u → R2 u (v, d)) → PySem.W.EachIs R2 us (vs.zip l)
  | _, _, [], .nil, _, _ => .nil
  | _, _, d :: l, .cons (a := v) (b := u) h t, hl, k => .cons (k v u d (List.mem_cons_self ..) h) (vals_zip t (by simpa using hl) fun v u d hm => k v u d (List.mem_cons_of_mem _ hm))
  | _, _, d :: l, .nil, hl, _ => by simp at hl
  | _, _, [], .cons _ _, hl, _ => by simp at hl
theorem each_vals : ∀ {us : List Value} {ps : List (V × D)}, PySem.W.EachIs (fun u (p : V × D) => RelV p.1 u) us ps → Vals (ps.map (·.1)) us
  | _, _, .nil => .nil
  | _, _, .cons h t => .cons h (each_vals t)
theorem sortd_seq {pins : List (Addr × Obj)} {σ : L2.St} {s : Shared} {H : Hp} {a : Addr} {xs : List V} {l : List D} {us : List Value} {Q : VK} (cx : Ctx B X) (I : Inv X pins σ H s) (R : Rl B g m H) (r : Vals [V.ref a] us) (hs : SqL X.K H a xs ∨ SqT X.K H a xs) (hd : Dens B g H xs l) (ok : sortOk l = true)
    (h : ∀ (ys : List V) (p : Addr), Dens B g H ys (sortD l) → H p = none → Q (.ref p) (L2.upd H p (.lst ys))) : wpAny (model X.prog X.w) X.A (call (.builtin "sorted") us) (EP X pins σ Q) X.xe s := by
  rw [Vals.ref1 r]
  obtain ⟨ok1, ok2⟩ := sortOk_of ok
  obtain ⟨z1, z2, z3⟩ := dens_zip hd
  have zm : (xs.zip l).map (fun p => pyd p.2) = l.map pyd := by
    have q := congrArg (List.map pyd) z2
    rw [List.map_map] at q
    exact q
  have main : ∀ {q : Addr} {T : String} {o : Obj} {its : List Value} {n : Nat}, (T = "list" ∨ T = "tuple") → s.heap.get? q = some o → o.cls = .type T → o.data = .seq its.toArray n → Vals xs its → xs.length ≤ sizeLine →
      wpAny (model X.prog X.w) X.A (call (.builtin "sorted") [.ref q]) (EP X pins σ Q) X.xe s := fun {q T o its n} hT ho hc ht rv hz => by
    have hl := rv.length
    refine Calls.call_function_entry kind_sorted plain_sorted entry_sorted (args_sorted1 _) ?_
    unfold Builtin.«sorted»
    refine wpAny_bind (m := checkCount "sorted" 1 1 _) (wpAny_pure ?_)
    refine wpAny_bind (wpAny_collect_seq q hT ho hc ht (fun h' keep => ?_) (by rw [List.size_toArray]; omega))
    rw [List.toList_toArray]
    refine wpAny_bind (wpAny_newList ?_ (by omega))
    have at_ : (h'.push (seqObj "list" its.toArray 0)).get? h'.objs.size = some (seqObj "list" its.toArray 0) := Heap.get?_push_size _ rfl
    have k2 : ∀ b u, s.heap.get? b = some u → (h'.push (seqObj "list" its.toArray 0)).get? b = some u := fun b u e => Heap.get?_push_of_some _ (keep b u e)
    refine wpAny_bind (wpAny_holding (list_sort_any (R := fun u (p : V × D) => RelV p.1 u) (bs := xs.zip l) (enc := fun p => pyd p.2) at_ (vals_zip rv hd.length fun v u d _ rl => rl) (vals_zip rv hd.length fun v u d hm rl => ?_) ?_ ?_ ?_ fun out lo eo => ?_))
    · have hv := z1 _ hm
      have dl : d ∈ l := by rw [← z2]; exact List.mem_map.mpr ⟨_, hm, rfl⟩
      obtain ⟨x, ex, _⟩ := ok1 d dl
      have dp := hv.dp ex
      rw [← cx.K] at dp
      obtain ⟨as, rd⟩ := Dp.reads I x v u dp rl
      have epd : pyd d = x := by unfold pyd; rw [ex]
      refine ⟨as, by rw [epd]; exact Reads.keeps k2 rd, fun ha => ?_⟩
      have q1 : h'.objs.size < h'.objs.size := by
        have e := Reads.keeps keep rd
        exact reads_lt e _ ha
      exact Nat.lt_irrefl _ q1
    · rw [zm]; exact ok2
    · rw [List.length_zip]; omega
    · intro p hp
      have dl : p.2 ∈ l := by rw [← z2]; exact List.mem_map.mpr ⟨_, hp, rfl⟩
      obtain ⟨x, ex, dx⟩ := ok1 _ dl
      have epd : pyd p.2 = x := by unfold pyd; rw [ex]
      rw [epd]
      have := cx.un
      show X.A.units + 1 + 1 + x.depth < cLine
      omega
    · have perm : ((xs.zip l).mergeSort (PySem.W.dataLe false fun p => pyd p.2)).Perm (xs.zip l) := List.mergeSort_perm _ _
      have hy : Dens B g H (((xs.zip l).mergeSort (PySem.W.dataLe false fun p => pyd p.2)).map (·.1)) (((xs.zip l).mergeSort (PySem.W.dataLe false fun p => pyd p.2)).map (·.2)) := dens_pairs fun p hp => z1 p (perm.mem_iff.mp hp)
      have e2 : ((xs.zip l).mergeSort (PySem.W.dataLe false fun p => pyd p.2)).map (·.2) = sortD l := by
        unfold sortD
        have q := List.map_mergeSort (r := PySem.W.dataLe false fun p : V × D => pyd p.2) (s := PySem.W.dataLe false pyd) (f := fun p : V × D => p.2) (l := xs.zip l) (fun a _ b _ => rfl)
        exact q.trans (by rw [z2])
      rw [e2] at hy
      obtain ⟨e, he⟩ := sortedHeap_at (vs := its) (out := out.toArray) at_
      have none_ : s.heap.get? h'.objs.size = none := fresh_end keep
      refine wpAny_pure ⟨_, rfl, .ref h'.objs.size, L2.upd H h'.objs.size (.lst (((xs.zip l).mergeSort (PySem.W.dataLe false fun p => pyd p.2)).map fun p => p.1)), I.laidN (t' := s.toks) (fun b u hb => ?_) none_ (I.hok.gone none_) ⟨?_, out, e, each_vals eo, he⟩, rfl, h _ _ hy (I.hok.gone none_)⟩
      · have lt : b < h'.objs.size := Heap.lt_size (keep b u hb)
        rw [sortedHeap_old (Nat.ne_of_lt lt) (by rw [Heap.size_push]; exact Nat.lt_succ_of_lt lt)]
        exact k2 b u hb
      · rw [List.length_map, List.length_mergeSort, List.length_zip]; omega
  rcases hs with hs | hs
  · obtain ⟨its, rv, ⟨o, n, e1, e2, _, e3⟩, hz⟩ := I.list hs
    exact main (.inl rfl) e1 e2 e3 rv hz
  · obtain ⟨its, rv, ⟨o, e1, e2, n, e3⟩, hz⟩ := I.tuple hs
    exact main (.inr rfl) e1 e2 e3 rv hz
/-! ### min, max of ints, in lists and tuples -/
theorem reads_ints {h : Heap} : ∀ {vs : List Value} {ns : List Int}, IntsAre vs ns → ∃ as, ReadsAll h vs (ns.map PyData.int) as
  | _, _, .nil => ⟨[], .nil⟩
  | _, _, .cons n t r => by
    obtain ⟨as, q⟩ := reads_ints (h := h) r
    exact ⟨[] ++ as, .cons (.int n t) q⟩
theorem alike_all_ints (ns : List Int) : PySem.W.AlikeAll (ns.map PyData.int) := by
  refine ⟨fun x hx y hy => ?_, fun x hx => ?_⟩
  · obtain ⟨i, _, rfl⟩ := List.mem_map.mp hx
    obtain ⟨j, _, rfl⟩ := List.mem_map.mp hy
    simp only [PySem.W.alike]
  · obtain ⟨i, _, rfl⟩ := List.mem_map.mp hx
    exact fun e => nomatch e
theorem depth_all_ints : ∀ ns : List Int, PyData.depthAll (ns.map PyData.int) = 0
  | [] => rfl
  | n :: ns => by simp only [List.map_cons, PyData.depthAll, PyData.depth, depth_all_ints ns, Nat.max_self]
theorem best_seq {pins : List (Addr × Obj)} {σ : L2.St} {s : Shared} {H : Hp} {a : Addr} {n : Int} {ns : List Int} {us : List Value} {Q : VK} (cx : Ctx B X) (least : Bool) (I : Inv X pins σ H s) (r : Vals [V.ref a] us) (hs : SqL X.K H a ((n :: ns).map V.int) ∨ SqT X.K H a ((n :: ns).map V.int))
    (h : Q (.int (if least then ns.foldl min n else ns.foldl max n)) H) : wpAny (model X.prog X.w) X.A (call (.builtin (if least then "min" else "max")) us) (EP X pins σ Q) X.xe s := by
  rw [Vals.ref1 r]
  have fin : ∀ (v : Value) (h' : Heap) (tk : Nat) (bs : List Addr), Reads h' v (.int (if least then ns.foldl min n else ns.foldl max n)) bs → (∀ b o, s.heap.get? b = some o → h'.get? b = some o) → EP X pins σ Q v { s with heap := h', toks := tk } := fun v h' tk bs rd k => by
    cases rd with
    | int i t => exact ⟨.int _, H, I.kept (t' := tk) k, ⟨t, rfl⟩, h⟩
  have hh := I.ok.hd cx.calm
  have hu : X.A.units + 1 + PyData.depthAll ((n :: ns).map PyData.int) < cLine := by
    rw [depth_all_ints]
    have := cx.un
    omega
  have al := alike_all_ints (n :: ns)
  rcases hs with hs | hs
  · obtain ⟨its, rv, hl, _⟩ := I.list hs
    obtain ⟨as, rd⟩ := reads_ints (h := s.heap) rv.ints
    cases least with
    | true => exact PySem.W.min_list_data (vs := its.toArray) hh hl.isList (by simpa using rd) al hu fun i v h' tk bs _ rd k => fin v h' tk bs (by rw [PySem.W.minD_ints] at rd; exact rd) k
    | false => exact PySem.W.max_list_data (vs := its.toArray) hh hl.isList (by simpa using rd) al hu fun i v h' tk bs _ rd k => fin v h' tk bs (by rw [PySem.W.maxD_ints] at rd; exact rd) k
  · obtain ⟨its, rv, hl, _⟩ := I.tuple hs
    obtain ⟨as, rd⟩ := reads_ints (h := s.heap) rv.ints
    cases least with
    | true => exact PySem.W.min_tuple_data (vs := its.toArray) hh hl (by simpa using rd) al hu fun i v h' tk bs _ rd k => fin v h' tk bs (by rw [PySem.W.minD_ints] at rd; exact rd) k
    | false => exact PySem.W.max_tuple_data (vs := its.toArray) hh hl (by simpa using rd) al hu fun i v h' tk bs _ rd k => fin v h' tk bs (by rw [PySem.W.maxD_ints] at rd; exact rd) k
theorem cr_bi (cx : Ctx B X) : ∀ b : Bi, CallR X (biVal b) (rBi B b) := by
  intro b pins s σ H vs us Q I r h
  obtain ⟨g, m, ds, d, R, hd, e, q⟩ := h
  cases b with
  | isinst =>
    simp only [biD] at e
    split at e <;> first | (simp at *; done) | skip
    · rename_i x t he
      obtain ⟨v, w, rfl, h1, h2⟩ := hd.two
      cases h2
      unfold isinstD at e
      cases q1 : tyName m x with
      | none => rw [q1] at e; cases e
      | some u =>
        rw [q1] at e
        by_cases ht : isKind t = true
        · simp only [ht, if_true, Option.map_some, Option.some.injEq] at e
          subst e
          exact call_isi pins s σ H _ us Q I r ⟨v, .ty t, _, _, _, rfl, .ty t, tyX_of cx.K R h1 q1, kit_of_name q1 ht, q.flat R (by simp) (.bl _)⟩
        · simp [ht] at e
  | all =>
    simp only [biD] at e
    split at e <;> first | (simp at *; done) | skip
    · rename_i x he
      obtain ⟨v, rfl, h1⟩ := hd.one
      cases q1 : rdL m x with
      | none => rw [q1] at e; cases e
      | some l =>
        rw [q1] at e
        obtain ⟨bs, hb, e⟩ := Option.map_eq_some_iff.mp e
        subst e
        obtain ⟨a, xs, e1, ha, hx⟩ := h1.rdL R q1
        rw [asBools_eq hb] at hx
        rw [hx.bls] at ha
        exact cr_all cx.calm pins s σ H _ us Q I r ⟨a, bs, by rw [e1], SqL.of ha, q.flat R (by simp) (.bl _)⟩
  | any =>
    simp only [biD] at e
    split at e <;> first | (simp at *; done) | skip
    · rename_i x he
      obtain ⟨v, rfl, h1⟩ := hd.one
      cases q1 : rdL m x with
      | none => rw [q1] at e; cases e
      | some l =>
        rw [q1] at e
        obtain ⟨bs, hb, e⟩ := Option.map_eq_some_iff.mp e
        subst e
        obtain ⟨a, xs, e1, ha, hx⟩ := h1.rdL R q1
        rw [asBools_eq hb] at hx
        rw [hx.bls] at ha
        exact cr_any cx.calm pins s σ H _ us Q I r ⟨a, bs, by rw [e1], SqL.of ha, q.flat R (by simp) (.bl _)⟩
  | sum =>
    simp only [biD] at e
    split at e <;> first | (simp at *; done) | skip
    · rename_i x he
      obtain ⟨v, rfl, h1⟩ := hd.one
      cases q1 : rdL m x with
      | none => rw [q1] at e; cases e
      | some l =>
        rw [q1] at e
        obtain ⟨bs, hb, e⟩ := Option.map_eq_some_iff.mp e
        subst e
        obtain ⟨a, xs, e1, ha, hx⟩ := h1.rdL R q1
        rw [asInts_eq hb] at hx
        rw [hx.ints] at ha
        exact cr_sum cx.calm pins s σ H _ us Q I r ⟨a, bs, by rw [e1], SqL.of ha, q.flat R (by simp) (.int _)⟩
  | sorted =>
    simp only [biD] at e
    split at e <;> first | (simp at *; done) | skip
    · rename_i x he
      obtain ⟨v, rfl, h1⟩ := hd.one
      cases q1 : rdS m x with
      | none => rw [q1] at e; cases e
      | some kl =>
        obtain ⟨k, l⟩ := kl
        rw [q1] at e
        dsimp only at e
        obtain ⟨a, xs, e1, hx, s1, s2⟩ := h1.rdS R q1
        subst e1
        rw [← cx.K] at s1 s2
        split at e
        · rename_i bs hb
          cases e
          rw [asInts_eq hb] at hx
          cases hx.ints
          refine sorted_seq I r (cases_seq k s1 s2) fun ns' p hp hs hn => ?_
          rw [sorted_eq hp hs]
          exact q.lst R hn (Dens.of_ints _)
        · split at e
          · rename_i hz
            cases e
            exact sortd_seq cx I R r (cases_seq k s1 s2) hx hz fun ys p hy hn => q.lst R hn hy
          · cases e
  | len =>
    simp only [biD] at e
    split at e <;> first | (simp at *; done) | skip
    · rename_i x he
      obtain ⟨v, rfl, h1⟩ := hd.one
      cases q1 : rdS m x with
      | none =>
        rw [q1] at e
        cases x with
        | str z =>
          simp only at e
          split at e
          · rename_i hz
            cases e
            cases h1
            exact call_len_str pins s σ H _ us Q I r ⟨z, rfl, hz, q.flat R (by simp) (.int _)⟩
          · cases e
        | _ => cases e
      | some p =>
        obtain ⟨b, l⟩ := p
        rw [q1] at e
        cases e
        obtain ⟨a, xs, e1, hx, hl, ht⟩ := h1.rdS R q1
        refine call_len_seq pins s σ H _ us Q I r ⟨a, xs, by rw [e1], ?_, by rw [hx.length]; exact q.flat R (by simp) (.int _)⟩
        cases b with
        | true => exact .inl (plainL cx.K (hl rfl))
        | false => exact .inr (plainT cx.K (ht rfl))
  | list =>
    simp only [biD] at e
    split at e <;> first | (simp at *; done) | skip
    · rename_i x he
      obtain ⟨v, rfl, h1⟩ := hd.one
      cases q1 : rdS m x with
      | none => rw [q1] at e; cases e
      | some p =>
        obtain ⟨b, l⟩ := p
        rw [q1] at e
        cases e
        obtain ⟨a, xs, e1, hx, hl, ht⟩ := h1.rdS R q1
        refine call_list_of pins s σ H _ us Q I r ⟨a, xs, by rw [e1], ?_, fun p hp => q.lst R hp hx⟩
        cases b with
        | true => exact .inl (plainL cx.K (hl rfl))
        | false => exact .inr (plainT cx.K (ht rfl))
  | tuple =>
    simp only [biD] at e
    split at e <;> first | (simp at *; done) | skip
    · rename_i x he
      obtain ⟨v, rfl, h1⟩ := hd.one
      cases q1 : rdS m x with
      | none => rw [q1] at e; cases e
      | some p =>
        obtain ⟨b, l⟩ := p
        rw [q1] at e
        cases e
        obtain ⟨a, xs, e1, hx, hl, ht⟩ := h1.rdS R q1
        refine call_tuple_of pins s σ H _ us Q I r ⟨a, xs, by rw [e1], ?_⟩
        cases b with
        | true => exact .inl ⟨plainL cx.K (hl rfl), fun p hp => q.tup R hp hx⟩
        | false => exact .inr ⟨plainT cx.K (ht rfl), q.flat R (by simp) (.tup (ht rfl) hx)⟩
  | repr =>
    simp only [biD] at e
    split at e <;> first | (simp at *; done) | skip
    · rename_i x he
      obtain ⟨v, rfl, h1⟩ := hd.one
      unfold reprD at e
      cases q1 : pyOf m x with
      | none => rw [q1] at e; cases e
      | some y =>
        rw [q1] at e
        simp only at e
        split at e
        · rename_i hz
          simp only [Bool.and_eq_true, decide_eq_true_eq] at hz
          cases e
          exact cr_repr cx pins s σ H _ us Q I r ⟨v, y, rfl, by rw [cx.K]; exact h1.py R q1, hz.1.1.1, hz.1.1.2, hz.1.2, hz.2, q.flat R (by simp) (.str _)⟩
        · cases e
  | str =>
    simp only [biD] at e
    split at e <;> first | (simp at *; done) | skip
    · rename_i i he
      obtain ⟨v, rfl, h1⟩ := hd.one
      cases h1
      split at e
      · rename_i hz
        cases e
        exact call_str_int pins s σ H _ us Q I r ⟨i, rfl, hz, q.flat R (by simp) (.str _)⟩
      · cases e
  | int =>
    simp only [biD] at e
    split at e <;> first | (simp at *; done) | skip
    · rename_i i he
      cases e
      obtain ⟨v, rfl, h1⟩ := hd.one
      cases h1
      exact call_int1 pins s σ H _ us Q I r (.inl ⟨i, rfl, q.flat R (by simp) (.int _)⟩)
    · rename_i i he
      cases e
      obtain ⟨v, rfl, h1⟩ := hd.one
      cases h1
      exact call_int1 pins s σ H _ us Q I r (.inr ⟨i, rfl, q.flat R (by simp) (.int _)⟩)
  | min =>
    simp only [biD] at e
    split at e <;> first | (simp at *; done) | skip
    · rename_i x he
      obtain ⟨v, rfl, h1⟩ := hd.one
      cases q1 : rdS m x with
      | none => rw [q1] at e; cases e
      | some kl =>
        obtain ⟨k, l⟩ := kl
        rw [q1] at e
        obtain ⟨bs, hb, e⟩ := Option.bind_eq_some_iff.mp e
        cases bs with
        | nil => cases e
        | cons n ns =>
          cases e
          obtain ⟨a, xs, e1, hx, s1, s2⟩ := h1.rdS R q1
          rw [asInts_eq hb] at hx
          subst e1
          cases hx.ints
          rw [← cx.K] at s1 s2
          exact best_seq cx true I r (cases_seq k s1 s2) (q.flat R (by simp) (.int _))
  | max =>
    simp only [biD] at e
    split at e <;> first | (simp at *; done) | skip
    · rename_i x he
      obtain ⟨v, rfl, h1⟩ := hd.one
      cases q1 : rdS m x with
      | none => rw [q1] at e; cases e
      | some kl =>
        obtain ⟨k, l⟩ := kl
        rw [q1] at e
        obtain ⟨bs, hb, e⟩ := Option.bind_eq_some_iff.mp e
        cases bs with
        | nil => cases e
        | cons n ns =>
          cases e
          obtain ⟨a, xs, e1, hx, s1, s2⟩ := h1.rdS R q1
          rw [asInts_eq hb] at hx
          subst e1
          cases hx.ints
          rw [← cx.K] at s1 s2
          exact best_seq cx false I r (cases_seq k s1 s2) (q.flat R (by simp) (.int _))
  | min2 =>
    simp only [biD] at e
    split at e <;> first | (simp at *; done) | skip
    · rename_i i j he
      cases e
      obtain ⟨v, w, rfl, h1, h2⟩ := hd.two
      cases h1
      cases h2
      exact call_min2 cx.calm pins s σ H _ us Q I r ⟨i, j, rfl, q.flat R (by simp) (.int _)⟩
  | max2 =>
    simp only [biD] at e
    split at e <;> first | (simp at *; done) | skip
    · rename_i i j he
      cases e
      obtain ⟨v, w, rfl, h1, h2⟩ := hd.two
      cases h1
      cases h2
      exact call_max2 cx.calm pins s σ H _ us Q I r ⟨i, j, rfl, q.flat R (by simp) (.int _)⟩
end Z
/-! Z8: displays of dicts; calls of built-ins in the text; comprehensions. -/
namespace Z
open PySem PySem.Spec PyProof.Rows L2
variable {B : Bs} {G : Sg} {W : WE} {U : XW} {X : Cx} {g g' g1 g2 : Cfg} {H H' H1 H2 : Hp} {m m' m1 : Mem}

/-! ### {"k": v, ..} -/
inductive DV (B : Bs) (G : Sg) (W : WE) (X : Cx) : List (Option Expr) → List Expr → List Str → Cs → Prop
  | nil : DV B G W X [] [] [] .nil
  | cons {k : Str} {j : Nat} {pos : Pos} {v : Expr} {c : Z.C} {ks : List (Option Expr)} {vs : List Expr} {ns : List Str} {l : Cs} : PE X v (tEv B G W c) → DV B G W X ks vs ns l →
      DV B G W X (some (.Constant (.str k) j pos) :: ks) (v :: vs) (k :: ns) (.cons c l)
def trsOf (B : Bs) (G : Sg) (W : WE) : List Str → Cs → List (TE × TE)
  | n :: ns, .cons c l => (tC (.str n), tEv B G W c) :: trsOf B G W ns l
  | _, _ => []
theorem DV.pps {pos : Pos} {ks : List (Option Expr)} {vs : List Expr} {ns : List Str} {l : Cs} (h : DV B G W X ks vs ns l) : PPs X pos ks vs (trsOf B G W ns l) := by
  induction h with
  | nil => exact pps_nil
  | cons h t ih => exact pps_cons pe_str h ih
theorem DV.keys {ks : List (Option Expr)} {vs : List Expr} {ns : List Str} {l : Cs} (h : DV B G W X ks vs ns l) : ks.all (·.isSome) = true ∧ ks.length = vs.length ∧ ks.length = ns.length ∧ ns.length = l.len := by
  induction h with
  | nil => exact ⟨rfl, rfl, rfl, rfl⟩
  | cons h t ih =>
    obtain ⟨h1, h2, h3, h4⟩ := ih
    refine ⟨by rw [List.all_cons, h1]; rfl, by rw [List.length_cons, List.length_cons, h2], by rw [List.length_cons, List.length_cons, h3], ?_⟩
    rw [List.length_cons, h4]; rfl
theorem pairs_read {σ : L2.St} {e : Env} : ∀ {ns : List Str} {l : Cs} {g : Cfg} {m : Mem} {H : Hp} {Q : List (V × V) → Hp → Prop}, ns.length = l.len → Rl B g m H → EnvR B g H σ e →
    Post B g H (W σ e) (fun g' m' H' ds => ∀ vs, Dens B g' H' vs ds → Q ((ns.zip vs).map fun p => (V.str p.1, p.2)) H') (evalCs G l e m) → tPairs (trsOf B G W ns l) σ H Q
  | [], .nil, g, m, H, Q, _, R, E, p => by
    unfold evalCs at p
    exact p.ok0 R [] .nil
  | n :: ns, .cons c l, g, m, H, Q, hl, R, E, p => by
    unfold evalCs at p
    show tC (.str n) σ H fun x H1 => tEv B G W c σ H1 fun y H2 => tPairs (trsOf B G W ns l) σ H2 fun ps H3 => Q ((x, y) :: ps) H3
    refine ⟨g, m, e, R, E, p.bind.imp fun g1 m1 H1 d x R1 _ q v hv => ?_⟩
    refine pairs_read (by simpa [Cs.len] using hl) R1 (E.ext x R) (q.bind.imp fun g2 m2 H2 ds y R2 _ z vs hvs => ?_)
    exact z.ok0 R2 (v :: vs) (.cons (hv.ext y R1) hvs)
  | [], .cons c l, g, m, H, Q, hl, _, _, _ => by simp [Cs.len] at hl
  | n :: ns, .nil, g, m, H, Q, hl, _, _, _ => by simp [Cs.len] at hl
theorem merge_new : ∀ {more acc : List (Key × V)}, (more.map (·.1)).Nodup → (∀ k ∈ more.map (·.1), k ∉ acc.map (·.1)) → mergeK acc more = acc ++ more
  | [], acc, _, _ => by simp [mergeK]
  | p :: more, acc, nd, h => by
    have nd' := List.nodup_cons.mp (by simpa using nd : (p.1 :: more.map (·.1)).Nodup)
    have hp : p.1 ∉ acc.map (·.1) := h p.1 (by simp)
    have e : putK acc p.1 p.2 = acc ++ [p] := by
      unfold putK
      rw [if_neg]
      simp only [List.any_eq_true, decide_eq_true_eq, not_exists, not_and]
      intro q hq e
      exact hp (List.mem_map.mpr ⟨q, hq, e⟩)
    show mergeK (putK acc p.1 p.2) more = _
    rw [e, merge_new nd'.2 (fun k hk => ?_), List.append_assoc]
    · rfl
    · rw [List.map_append, List.mem_append, not_or]
      refine ⟨h k (by rw [List.map_cons]; exact List.mem_cons_of_mem _ hk), fun z => ?_⟩
      have z' : k = p.1 := by simpa using z
      exact nd'.1 (z' ▸ hk)
theorem zip_den {vs : List V} {ds : List D} : ∀ {ns : List Str}, ns.length = ds.length → Dens B g H vs ds →
    Paired (fun (p : Key × V) (q : Key × D) => p.1 = q.1 ∧ Den B g H p.2 q.2) ((ns.zip vs).map fun p => ((Sum.inr p.1 : Key), p.2)) ((ns.map fun n => (Sum.inr n : Key)).zip ds) := by
  intro ns hl h
  induction ns generalizing vs ds with
  | nil => exact .nil
  | cons n ns ih =>
    cases h with
    | nil => simp at hl
    | cons h t => exact .cons ⟨rfl, h⟩ (ih (by simpa using hl) t)
theorem pz_dict {pos : Pos} {ks : List (Option Expr)} {vs : List Expr} {ns : List Str} {l : Cs} (h : DV B G W X ks vs ns l) (h0 : ns ≠ []) (h15 : ns.length ≤ 15) (nd : ns.Nodup) : PE X (.Dict ks vs pos) (tEv B G W (.dict ns l)) := by
  obtain ⟨k1, k2, k3, k4⟩ := h.keys
  refine peI (pe_disp h.pps k1 k2 (fun e => h0 (by rw [e] at k3; exact List.eq_nil_of_length_eq_zero k3.symm)) (by omega)) fun σ H Q ⟨g, m, e, R, E, p⟩ a ha => ?_
  unfold evalC at p
  have R1 := Rl.upd (o := .dK []) R ha
  have x1 := Ext.upd (o := .dK []) R ha
  have na := R.notIn ha
  have nf : ¬ g.fz a := R.fzNone ha
  refine pairs_read k4 R1 (E.ext x1 R) (Post.ext x1 p.bind |>.imp fun g2 m2 H2 ds x R2 eq q vs hvs => ?_)
  have e2 : H2 a = some (.dK []) := x.keep _ _ upd_same na
  have na2 : a ∉ g2.al := fun z => (x.newA a z).elim na fun w => by rw [upd_same] at w; cases w
  have nf2 : ¬ g2.fz a := fun z => (x.newF a z).elim nf fun w => by rw [upd_same] at w; cases w
  have ln := evalCs_len eq
  refine ⟨e2, (ns.zip vs).map fun p => ((Sum.inr p.1 : Key), p.2), ?_, ?_, ?_⟩
  · rw [List.map_map]
    rfl
  · rw [List.length_map, List.length_zip]
    omega
  · have md : (((ns.zip vs).map fun p => ((Sum.inr p.1 : Key), p.2)).map (·.1)).Nodup := by
      rw [List.map_map]
      have e3 : ((fun x => x.1) ∘ fun (p : Str × V) => ((Sum.inr p.1 : Key), p.2)) = (fun n => (Sum.inr n : Key)) ∘ Prod.fst := rfl
      rw [e3, ← List.map_map, List.map_fst_zip (by rw [hvs.length, ln]; omega)]
      exact List.Pairwise.map _ (fun a b h e => h (Sum.inr.inj e)) nd
    rw [merge_new md (fun _ _ => by simp), List.nil_append]
    generalize hkv : ((ns.zip vs).map fun p => ((Sum.inr p.1 : Key), p.2)) = kvs
    obtain ⟨mo, R3⟩ := R2.updOut (o := .dK kvs) e2 rfl na2 nf2
    have R4 := R3.adoptA na2 nf2 (mo := .dk ((ns.map Sum.inr).zip ds)) ⟨kvs, upd_same, by
      have hz := zip_den (by rw [ln]; exact k4) hvs
      rw [hkv] at hz
      exact Paired.mapP hz fun p q z => ⟨z.1, (z.2.mon mo R2).mon (Mon.more _ _ _) R3⟩⟩
    have xx : Ext g H (g2.more a) (L2.upd H2 a (.dK kvs)) := by
      have y := (x1.trans x).adoptA ha
      refine ⟨y.pre, y.sub, fun b o hb nb => ?_, y.newF, y.newA, fun b hb => ?_⟩
      · rw [upd_ne (ne_of_none hb ha)]; exact y.keep b o hb nb
      · rw [upd_ne (show b ≠ a from fun e => hb (e ▸ ha))]; exact y.trk b hb
    rw [eq, Out.bind_ok] at p
    refine p _ _ xx R4 _ (.loc ?_)
    show (g2.al ++ [a])[m2.length]? = some a
    rw [← R2.len, List.getElem?_append_right (Nat.le_refl _)]
    simp
end Z
/-! Z9: what a def promises; calls. -/
namespace Z
open PySem PySem.Spec PyProof.Rows L2
variable {B : Bs} {G : Sg} {W : WE} {U : XW} {X : Cx} {g g' g1 g2 : Cfg} {H H' H1 H2 : Hp} {m m' m1 : Mem}

/-! ### exceptions -/
def ExAt (B : Bs) (g : Cfg) (H : Hp) (x : Ex) (cls : Value) (d : Option Addr) : Prop :=
  ∃ C ns vs dx, B.ec x.c = some (C, ns) ∧ cls = .ref C ∧ d = some dx ∧ H dx = some (.xd (ns.zip vs)) ∧ Dens B g H vs x.fs ∧ ns.length = x.fs.length
/-- the wish of a call, from the wish of the place -/
def EW (B : Bs) (W : WE) (σ : L2.St) : XK := fun cls d H' => ∃ e x g' m', Rl B g' m' H' ∧ EnvR B g' H' σ e ∧ ExAt B g' H' x cls d ∧ W σ e x g' m' H'

/-! ### a def's promise -/
def spOf (B : Bs) (np : Nat) (S : List D → Mem → Out D) : Sp := fun vs H Q E => ∃ g m ds, Rl B g m H ∧ Dens B g H vs ds ∧ ds.length = np ∧
  Post B g H (fun x g' m' H' => ∀ cls d, ExAt B g' H' x cls d → E cls d H') (fun g' m' H' d => ∀ v, Den B g' H' v d → Q v H') (S ds m)
/-- as the layer's contract, where no repr is under way -/
structure FnG (P : Program) (w : World) (K : PySem.W.Frag) (mg : Str → Option Value) (base : Heap) (k : Nat) (f : Addr) (fd : FuncData) (ps : List Str) (sp : Sp) : Prop where
  len : ∀ vs H Q E, sp vs H Q E → vs.length = ps.length
  run : ∀ (A : Around) (outer : List PySem.Env) (s : Shared) (H : Hp) (args : Args) (us : List Value) (vs : List V) (Q : VK) (E : XK), Room k A → A.guards = some [] →
    Env0 P w K mg base A outer s H → BindsTo s fd args (ps.zip us) → Vals vs us → sp vs H Q E → codeAny (model P w) A (.call (.ref f) args) (CR (L2.CX P w) outer P w H s Q E) s
/-- a way to call a def by names: its number, its parameters, how many stand by place, the names, their places, what is left out -/
structure Shp where
  n : Nat
  np : Nat
  npos : Nat
  ks : List Str
  ix : List Nat
  df : List (Nat × D)
/-- values left out -/
def Dfl (B : Bs) (df : List (Nat × D)) (vV : List (Nat × V)) (vU : List (Nat × Value)) : Prop :=
  Paired (fun (p : Nat × D) (q : Nat × V) => p.1 = q.1 ∧ ∀ g H, Den B g H q.2 p.2) df vV ∧ Paired (fun (p : Nat × V) (q : Nat × Value) => p.1 = q.1 ∧ RelV p.2 q.2) vV vU
/-- the table of the defs that may be called at a level -/
structure Fns (P : Program) (w : World) (mg : Str → Option Value) (base : Heap) (B : Bs) (G : Sg) (k : Nat) (sh : Shp → Prop) : Prop where
  ok : ∀ n c, B.ar n = some c → ∃ a fd ps, B.fa n = some a ∧ ps.length = c ∧ PySem.W.keepIn B.K (.ref a) = true ∧ Binds B.K fd ps [] ∧ FnG P w B.K mg base k a fd ps (spOf B c (G n))
  kw : ∀ s, sh s → ∃ a fd ps, B.fa s.n = some a ∧ ps.length = s.np ∧ PySem.W.keepIn B.K (.ref a) = true ∧ FnG P w B.K mg base k a fd ps (spOf B s.np (G s.n)) ∧
    ∃ vV vU, Dfl B s.df vV vU ∧ ∀ (st : Shared) (us ws : List Value), B.K.In st.heap → us.length = s.npos → ws.length = s.ks.length → BindsTo st fd ⟨us, s.ks.zip ws⟩ (ps.zip (placed s.np us s.ix ws vU .none))

/-- a body (or a block) where code may stand -/
structure Fits (B : Bs) (G : Sg) (W : WE) (sh : Shp → Prop) (X : Cx) : Prop extends Ctx B X where
  lv : ∃ k, Room k X.A ∧ Fns X.prog X.w X.mg X.base B G k sh
  pass : ∀ σ, PassesAt (L2.CX X.prog X.w) X σ (EW B W σ)

theorem run_g {k : Nat} {f : Addr} {fd : FuncData} {ps : List Str} {sp : Sp} {E : L2.St → XK} {pins : List (Addr × Obj)} {σ : L2.St} {s : Shared} {Q : VK} {us : List Value} {vs : List V} (F : FnG X.prog X.w X.K X.mg X.base k f fd ps sp) (hr : Room k X.A) (hg : X.A.guards = some [])
    (hb : Binds X.K fd ps []) (hx : PassesAt (L2.CX X.prog X.w) X σ (E σ)) (I : Inv X pins σ H s) (r : Vals vs us) (h : sp vs H Q (E σ)) : wpAny (model X.prog X.w) X.A (call (.ref f) us) (EP X pins σ Q) X.xe s := by
  have hl : us.length = ps.length := by rw [← r.length]; exact F.len _ _ _ _ h
  have bs : BindsTo s fd ⟨us, []⟩ (ps.zip us) := by
    have q := hb s us I.kIn (by rw [List.append_nil]; exact hl)
    rwa [List.append_nil] at q
  refine wpAny_call (codeAny_mono (F.run X.A X.stack s H ⟨us, []⟩ us vs Q (E σ) hr hg I.env0 bs r h) fun res s' hq => ?_)
  match res, hq with
  | .error e, hq => exact hx pins H s e s' I hq
  | .ok (.ret u), hq => exact I.after hq
  | .ok .next, hq => exact False.elim hq
  | .ok .brk, hq => exact False.elim hq
  | .ok .cont, hq => exact False.elim hq

/-! ### argument lists of the text -/
def notStar : Expr → Bool
  | .Starred _ _ => false
  | _ => true
theorem star_cons {e : Expr} {es : List Expr} {env : PySem.Env} (h : notStar e = true) : starEach (e :: es) env = (false, eval e env) :: starEach es env := by
  cases e <;> first | rfl | (exact absurd h (by simp [notStar]))
theorem star_none {env : PySem.Env} {pos : Pos} : ∀ {es : List Expr}, es.all notStar = true → (backTo pos (starEach es env)).any (·.1) = false
  | [], _ => rfl
  | e :: es, h => by
    rw [List.all_cons, Bool.and_eq_true] at h
    rw [star_cons h.1]
    show (false || (backTo pos (starEach es env)).any (·.1)) = false
    rw [Bool.false_or]
    exact star_none h.2

theorem pf_bi (cx : Ctx B X) {b : Bi} {x : Str} {p pos : Pos} {e : Expr} {es : List Expr} {l : Cs} (hx : x = biName b) (hg : Gl X x) (hm : X.mg x = none) (ha : PA X (e :: es) (tEvs B G W l)) (hs : (e :: es).all notStar = true) :
    PE X (.Call (.Name x p) (e :: es) [] pos) (tEvF B G W (.bi b l)) := by
  rw [List.all_cons, Bool.and_eq_true] at hs
  have rd : ∀ {r : List V → Hp → VK → Prop}, PE X (.Call (.Name x p) (e :: es) [] pos) (tCB (rBi B b) (tEvs B G W l)) → PE X (.Call (.Name x p) (e :: es) [] pos) (tEvF B G W (.bi b l)) := fun h =>
    peI h fun σ H Q ⟨g, m, e, R, E, p⟩ => ⟨g, m, e, R, E, by
      unfold evalC at p
      refine p.bind.imp fun g1 m1 H1 ds x R1 _ q vs hvs => ?_
      cases eo : biD b m1 ds with
      | none => rw [eo] at q; exact q.elim
      | some d => rw [eo] at q; exact ⟨g1, m1, ds, d, R1, hvs, eo, q⟩⟩
  refine rd (r := rBi B b) ?_
  have c := cr_bi cx b
  subst hx
  cases b with
  | list => exact pe_callTy c hg hm (by decide +kernel) ha (by decide) (by decide) (star_cons hs.1) (star_none hs.2)
  | tuple => exact pe_callTy c hg hm (by decide +kernel) ha (by decide) (by decide) (star_cons hs.1) (star_none hs.2)
  | str => exact pe_callTy c hg hm (by decide +kernel) ha (by decide) (by decide) (star_cons hs.1) (star_none hs.2)
  | int => exact pe_callTy c hg hm (by decide +kernel) ha (by decide) (by decide) (star_cons hs.1) (star_none hs.2)
  | isinst => exact pe_callB c hg hm (by decide +kernel) ha (by decide) (by decide) (star_cons hs.1) (star_none hs.2)
  | all => exact pe_callB c hg hm (by decide +kernel) ha (by decide) (by decide) (star_cons hs.1) (star_none hs.2)
  | any => exact pe_callB c hg hm (by decide +kernel) ha (by decide) (by decide) (star_cons hs.1) (star_none hs.2)
  | sum => exact pe_callB c hg hm (by decide +kernel) ha (by decide) (by decide) (star_cons hs.1) (star_none hs.2)
  | len => exact pe_callB c hg hm (by decide +kernel) ha (by decide) (by decide) (star_cons hs.1) (star_none hs.2)
  | sorted => exact pe_callB c hg hm (by decide +kernel) ha (by decide) (by decide) (star_cons hs.1) (star_none hs.2)
  | repr => exact pe_callB c hg hm (by decide +kernel) ha (by decide) (by decide) (star_cons hs.1) (star_none hs.2)
  | min => exact pe_callB c hg hm (by decide +kernel) ha (by decide) (by decide) (star_cons hs.1) (star_none hs.2)
  | max => exact pe_callB c hg hm (by decide +kernel) ha (by decide) (by decide) (star_cons hs.1) (star_none hs.2)
  | min2 => exact pe_callB c hg hm (by decide +kernel) ha (by decide) (by decide) (star_cons hs.1) (star_none hs.2)
  | max2 => exact pe_callB c hg hm (by decide +kernel) ha (by decide) (by decide) (star_cons hs.1) (star_none hs.2)

/-! ### calls of defs -/
/-- the reading of a call at hand -/
theorem call_read {σ : L2.St} {e : Env} {np : Nat} {S : List D → Mem → Out D} {Q : VK} {vs : List V} {ds : List D} (R : Rl B g m H) (E : EnvR B g H σ e) (hv : Dens B g H vs ds) (hl : ds.length = np)
    (h : Post B g H (W σ e) (fun g' m' H' d => ∀ v, Den B g' H' v d → Q v H') (S ds m)) : spOf B np S vs H Q (EW B W σ) := by
  refine ⟨g, m, ds, R, hv, hl, ?_⟩
  generalize S ds m = o at h
  cases o with
  | ok d m' => exact h
  | exc x m' => exact fun g' H' y R' cls d ha => ⟨e, x, g', m', R', E.ext y R, ha, h g' H' y R'⟩
  | bad => exact h
/-- f(e, ..), f a def of the module -/
theorem pz_call {sh : Shp → Prop} (F : Fits B G W sh X) {n c : Nat} {x : Str} {p pos : Pos} {es : List Expr} {l : Cs} (hn : B.ar n = some c) (hl : l.len = c) (hg : Gl X x) (hm : ∀ a, B.fa n = some a → X.mg x = some (.ref a)) (ha : PA X es (tEvs B G W l))
    (hs : es.all notStar = true) (h0 : es = [] → l = .nil) (hd : (x == ("__debug__" : Str)) = false) : PE X (.Call (.Name x p) es [] pos) (tEv B G W (.call n l)) := by
  obtain ⟨k, hr, FN⟩ := F.lv
  obtain ⟨a, fd, ps, f1, f2, f3, f4, f5⟩ := FN.ok n c hn
  have K := F.K
  rw [← K] at f3 f4 f5
  refine ⟨fun pins s σ H Q I ⟨g, m, e, R, E, p⟩ => wpAny_Call_Name_kw (ld_glob I hg (hm a f1) ?_ hd)⟩
  unfold evalC at p
  have main : ∀ us s1, AP X pins σ (fun vs H1 => spOf B c (G n) vs H1 Q (EW B W σ)) us s1 → wpAny (model X.prog X.w) X.A (call (.ref a) us) (EP X pins σ Q) X.xe s1 := fun us s1 ⟨vs, H1, I1, rv, q⟩ =>
    run_g (E := EW B W) f5 hr F.gd f4 (F.pass σ) I1 rv q
  have rd : tEvs B G W l σ H fun vs H1 => spOf B c (G n) vs H1 Q (EW B W σ) := ⟨g, m, e, R, E, p.bind.imp fun g1 m1 H1 ds x R1 eq q vs hvs =>
    call_read R1 (E.ext x R) hvs ((evalCs_len eq).trans hl) q⟩
  cases es with
  | nil =>
    obtain rfl := h0 rfl
    unfold evalCs at p
    exact PySem.W.callWith_K0 I.kIn f3 (main [] s ⟨[], H, I, .nil, call_read R E .nil hl p⟩)
  | cons e1 es =>
    rw [List.all_cons, Bool.and_eq_true] at hs
    exact PySem.W.callWith_K (h₀ := X.base) I.ok.mod.kin f3 (thn (ha.run pos pins s σ H _ I rd) fun us s1 hq => ⟨hq.choose_spec.choose_spec.1.kIn, main us s1 hq⟩) (star_cons hs.1) (star_none hs.2)

/-! ### calls by names -/
theorem evalCs_nil (e : Env) (m : Mem) : evalCs G .nil e m = .ok [] m := by unfold evalCs; rfl
theorem run_gk {k : Nat} {f : Addr} {fd : FuncData} {ps : List Str} {sp : Sp} {E : L2.St → XK} {pins : List (Addr × Obj)} {σ : L2.St} {s : Shared} {Q : VK} {us us2 : List Value} {kw : List (Str × Value)} {vs : List V} (F : FnG X.prog X.w X.K X.mg X.base k f fd ps sp) (hr : Room k X.A) (hg : X.A.guards = some [])
    (hb : BindsTo s fd ⟨us2, kw⟩ (ps.zip us)) (hx : PassesAt (L2.CX X.prog X.w) X σ (E σ)) (I : Inv X pins σ H s) (r : Vals vs us) (h : sp vs H Q (E σ)) : wpAny (model X.prog X.w) X.A (call (.ref f) us2 kw) (EP X pins σ Q) X.xe s := by
  refine wpAny_call (codeAny_mono (F.run X.A X.stack s H ⟨us2, kw⟩ us vs Q (E σ) hr hg I.env0 hb r h) fun res s' hq => ?_)
  match res, hq with
  | .error e, hq => exact hx pins H s e s' I hq
  | .ok (.ret u), hq => exact I.after hq
  | .ok .next, hq => exact False.elim hq
  | .ok .brk, hq => exact False.elim hq
  | .ok .cont, hq => exact False.elim hq
inductive KwZ (B : Bs) (G : Sg) (W : WE) (X : Cx) : List Keyword → List Str → Cs → Prop
  | nil : KwZ B G W X [] [] .nil
  | cons {k : Str} {v : Expr} {pos : Pos} {c : Z.C} {kws : List Keyword} {ns : List Str} {l : Cs} : PE X v (tEv B G W c) → KwZ B G W X kws ns l → KwZ B G W X (⟨some k, v, pos⟩ :: kws) (k :: ns) (.cons c l)
theorem pkI {ks : List Keyword} {t t' : TA} (h : PK X ks t) (i : ∀ σ H Q, t' σ H Q → t σ H Q) : PK X ks t' := ⟨fun pos pins s σ H Q I q => h.run pos pins s σ H Q I (i σ H Q q)⟩
theorem KwZ.pk {kws : List Keyword} {ns : List Str} {l : Cs} (h : KwZ B G W X kws ns l) : PK X kws (tEvs B G W l) := by
  induction h with
  | nil =>
    refine pkI pk_nil fun σ H Q ⟨g, m, e, R, E, p⟩ => ?_
    unfold evalCs at p
    exact p.ok0 R [] .nil
  | cons h t ih =>
    refine pkI (pk_cons h ih) fun σ H Q ⟨g, m, e, R, E, p⟩ => ⟨g, m, e, R, E, ?_⟩
    unfold evalCs at p
    refine p.bind.imp fun g1 m1 H1 d x R1 _ q v hv => ⟨g1, m1, e, R1, E.ext x R, ?_⟩
    refine q.bind.imp fun g2 m2 H2 ds y R2 _ z vs hvs => ?_
    exact z.ok0 R2 (v :: vs) (.cons (hv.ext y R1) hvs)
theorem KwZ.facts {pos : Pos} {env : PySem.Env} {kws : List Keyword} {ns : List Str} {l : Cs} (h : KwZ B G W X kws ns l) : (backToKw pos (keywordEach kws env)).all (·.1.isSome) = true ∧ (backToKw pos (keywordEach kws env)).any (·.1.isNone) = false ∧
    (backToKw pos (keywordEach kws env)).filterMap (·.1) = ns ∧ ns.length = l.len := by
  induction h with
  | nil => exact ⟨rfl, rfl, rfl, rfl⟩
  | @cons k v ps c kws ns l h t ih =>
    obtain ⟨h1, h2, h3, h4⟩ := ih
    refine ⟨?_, ?_, ?_, ?_⟩
    · show (true && (backToKw pos (keywordEach kws env)).all (·.1.isSome)) = true
      rw [h1]; rfl
    · show (false || (backToKw pos (keywordEach kws env)).any (·.1.isNone)) = false
      rw [h2]; rfl
    · show k :: (backToKw pos (keywordEach kws env)).filterMap (·.1) = k :: ns
      rw [h3]
    · show ns.length + 1 = l.len + 1
      rw [h4]
theorem lookup_rel {α β : Type} {Rr : α → β → Prop} : ∀ {ix : List Nat} {ws : List α} {us : List β} (i : Nat), Paired Rr ws us → (∃ a b, (ix.zip ws).lookup i = some a ∧ (ix.zip us).lookup i = some b ∧ Rr a b) ∨ ((ix.zip ws).lookup i = none ∧ (ix.zip us).lookup i = none)
  | [], _, _, i, _ => .inr ⟨rfl, rfl⟩
  | k :: ix, _, _, i, .nil => .inr ⟨rfl, rfl⟩
  | k :: ix, _, _, i, .cons (a := a) (b := b) h t => by
    show (∃ a' b', List.lookup i ((k, a) :: (ix.zip _)) = some a' ∧ List.lookup i ((k, b) :: (ix.zip _)) = some b' ∧ Rr a' b') ∨ _
    by_cases e : i = k
    · subst e
      exact .inl ⟨a, b, by simp [List.lookup], by simp [List.lookup], h⟩
    · have e2 : (i == k) = false := by simpa using e
      rcases lookup_rel (ix := ix) i t with ⟨a', b', h1, h2, h3⟩ | ⟨h1, h2⟩
      · exact .inl ⟨a', b', by simpa [List.lookup, e2] using h1, by simpa [List.lookup, e2] using h2, h3⟩
      · exact .inr ⟨by simpa [List.lookup, e2] using h1, by simpa [List.lookup, e2] using h2⟩
theorem lookup_rel2 {α β : Type} {Rr : α → β → Prop} (i : Nat) : ∀ {ws : List (Nat × α)} {us : List (Nat × β)}, Paired (fun (p : Nat × α) (q : Nat × β) => p.1 = q.1 ∧ Rr p.2 q.2) ws us → (∃ a b, ws.lookup i = some a ∧ us.lookup i = some b ∧ Rr a b) ∨ (ws.lookup i = none ∧ us.lookup i = none)
  | _, _, .nil => .inr ⟨rfl, rfl⟩
  | _, _, .cons (a := a) (b := b) h t => by
    obtain ⟨k, x⟩ := a
    obtain ⟨k', y⟩ := b
    obtain ⟨h1, h2⟩ := h
    simp only at h1 h2
    subst h1
    by_cases e : i = k
    · subst e
      exact .inl ⟨x, y, by simp [List.lookup], by simp [List.lookup], h2⟩
    · have e2 : (i == k) = false := by simpa using e
      rcases lookup_rel2 i t with ⟨a', b', h1, h2, h3⟩ | ⟨h1, h2⟩
      · exact .inl ⟨a', b', by simpa [List.lookup, e2] using h1, by simpa [List.lookup, e2] using h2, h3⟩
      · exact .inr ⟨by simpa [List.lookup, e2] using h1, by simpa [List.lookup, e2] using h2⟩
theorem get_rel {α β : Type} {Rr : α → β → Prop} (i : Nat) {ws : List α} {us : List β} (h : Paired Rr ws us) : (∃ a b, ws[i]? = some a ∧ us[i]? = some b ∧ Rr a b) ∨ (ws[i]? = none ∧ us[i]? = none) := by
  induction h generalizing i with
  | nil => exact .inr ⟨by simp, by simp⟩
  | cons h t ih =>
    cases i with
    | zero => exact .inl ⟨_, _, rfl, rfl, h⟩
    | succ i =>
      rcases ih i with ⟨a, b, h1, h2, h3⟩ | ⟨h1, h2⟩
      · exact .inl ⟨a, b, by simpa using h1, by simpa using h2, h3⟩
      · exact .inr ⟨by simpa using h1, by simpa using h2⟩
theorem map_rel {α β : Type} {Rr : α → β → Prop} {f : Nat → α} {k : Nat → β} (h : ∀ i, Rr (f i) (k i)) : ∀ l : List Nat, Paired Rr (l.map f) (l.map k)
  | [] => .nil
  | i :: l => .cons (h i) (map_rel h l)
theorem placed_rel {α β : Type} {Rr : α → β → Prop} {us ws : List α} {us2 ws2 : List β} {df : List (Nat × α)} {df2 : List (Nat × β)} {z : α} {z2 : β} (h1 : Paired Rr us us2) (h2 : Paired Rr ws ws2) (h3 : Paired (fun (p : Nat × α) (q : Nat × β) => p.1 = q.1 ∧ Rr p.2 q.2) df df2) (hz : Rr z z2)
    (np : Nat) (ix : List Nat) : Paired Rr (placed np us ix ws df z) (placed np us2 ix ws2 df2 z2) := by
  refine map_rel (fun i => ?_) _
  rcases get_rel i h1 with ⟨a, b, e1, e2, r⟩ | ⟨e1, e2⟩
  · simp only [e1, e2]; exact r
  · simp only [e1, e2]
    rcases lookup_rel (ix := ix) i h2 with ⟨a, b, e3, e4, r⟩ | ⟨e3, e4⟩
    · simp only [e3, e4]; exact r
    · simp only [e3, e4]
      rcases lookup_rel2 i h3 with ⟨a, b, e5, e6, r⟩ | ⟨e5, e6⟩
      · simp only [e5, e6]; exact r
      · simp only [e5, e6]; exact hz
theorem Dens.paired : ∀ {vs : List V} {l : List D}, Dens B g H vs l → Paired (Den B g H) vs l
  | _, _, .nil => .nil
  | _, _, .cons h t => .cons h (Dens.paired t)
theorem Dens.of_paired : ∀ {vs : List V} {l : List D}, Paired (Den B g H) vs l → Dens B g H vs l
  | _, _, .nil => .nil
  | _, _, .cons h t => .cons h (Dens.of_paired t)
theorem Paired.flip {α β : Type} {F : α → β → Prop} : ∀ {l : List α} {k : List β}, Paired F l k → Paired (fun b a => F a b) k l
  | _, _, .nil => .nil
  | _, _, .cons h t => .cons h (Paired.flip t)
/-- f(e, .., k = v, ..) -/
theorem pz_callk {sh : Shp → Prop} (F : Fits B G W sh X) {s : Shp} {x : Str} {p pos : Pos} {es : List Expr} {kws : List Keyword} {l kl : Cs} (hsh : sh s) (hg : Gl X x) (hm : ∀ a, B.fa s.n = some a → X.mg x = some (.ref a)) (ha : PA X es (tEvs B G W l))
    (hl : l.len = s.npos) (hkw : KwZ B G W X kws s.ks kl) (hs : es.all notStar = true) (h0 : es = [] → l = .nil) (hd : (x == ("__debug__" : Str)) = false) : PE X (.Call (.Name x p) es kws pos) (tEv B G W (.callk s.n s.np l s.ix kl s.df)) := by
  obtain ⟨k, hr, FN⟩ := F.lv
  obtain ⟨a, fd, ps, f1, f2, f3, f5, vV, vU, ⟨d1, d2⟩, hb⟩ := FN.kw s hsh
  obtain ⟨k1, k2, k3, k4⟩ := hkw.facts (pos := pos) (env := X.env)
  have K := F.K
  rw [← K] at f3 f5 hb
  refine ⟨fun pins st σ H Q I ⟨g, m, e, R, E, p⟩ => wpAny_Call_Name_kw (ld_glob I hg (hm a f1) ?_ hd)⟩
  unfold evalC at p
  have fin : ∀ {s2 : Shared} {us ws : List Value} {vs zs : List V} {H2 : Hp} {g2 : Cfg} {m2 : Mem} {ds es2 : List D} (_ : Inv X pins σ H2 s2) (_ : Vals vs us) (_ : Vals zs ws) (_ : Rl B g2 m2 H2) (_ : EnvR B g2 H2 σ e) (_ : Dens B g2 H2 vs ds) (_ : Dens B g2 H2 zs es2) (_ : ds.length = s.npos) (_ : es2.length = s.ks.length)
      (_ : Post B g2 H2 (W σ e) (fun g' m' H' d => ∀ v, Den B g' H' v d → Q v H') (G s.n (placed s.np ds s.ix es2 s.df .non) m2)), wpAny (model X.prog X.w) X.A (call (.ref a) us (s.ks.zip ws)) (EP X pins σ Q) X.xe s2 := fun {s2 us ws vs zs H2 g2 m2 ds es2} I2 rv rz R2 E2 hv hz l1 l2 q => by
    have r2 : Vals (placed s.np vs s.ix zs vV .non) (placed s.np us s.ix ws vU .none) := placed_rel rv rz d2 (show RelV .non .none from rfl) s.np s.ix
    have dd : Dens B g2 H2 (placed s.np vs s.ix zs vV .non) (placed s.np ds s.ix es2 s.df .non) := by
      refine Dens.of_paired (placed_rel hv.paired hz.paired (Paired.mapP (Paired.flip d1) fun p q z => ⟨z.1.symm, z.2 _ _⟩) .non s.np s.ix)
    refine run_gk (E := EW B W) f5 hr F.gd (hb s2 us ws I2.kIn (rv.length.symm.trans (hv.length.trans l1)) (rz.length.symm.trans (hz.length.trans l2))) (F.pass σ) I2 r2 (call_read R2 E2 dd ?_ q)
    unfold placed
    rw [List.length_map, List.length_range]
  have kwrun : ∀ {s1 : Shared} {us : List Value} {vs : List V} {H1 : Hp} {g1 : Cfg} {m1 : Mem} {ds : List D} (_ : Inv X pins σ H1 s1) (_ : Vals vs us) (_ : Rl B g1 m1 H1) (_ : EnvR B g1 H1 σ e) (_ : Dens B g1 H1 vs ds) (_ : ds.length = s.npos)
      (_ : Post B g1 H1 (W σ e) (fun g' m' H' d => ∀ v, Den B g' H' v d → Q v H') ((evalCs G kl e m1).bind fun k m => G s.n (placed s.np ds s.ix k s.df .non) m)),
      wpAny (model X.prog X.w) X.A (evalAll ((backToKw pos (keywordEach kws X.env)).map (·.2))) (fun ks s2 => X.K.In s2.heap ∧ wpAny (model X.prog X.w) X.A (call (.ref a) us (((backToKw pos (keywordEach kws X.env)).filterMap (·.1)).zip ks)) (EP X pins σ Q) X.xe s2) X.xe s1 := fun {s1 us vs H1 g1 m1 ds} I1 rv R1 E1 hv l1 q => by
    rw [k3]
    have rd : tEvs B G W kl σ H1 fun zs H2 => ∃ g2 m2 es2, Rl B g2 m2 H2 ∧ Ext g1 H1 g2 H2 ∧ Dens B g2 H2 zs es2 ∧ es2.length = s.ks.length ∧ Post B g2 H2 (W σ e) (fun g' m' H' d => ∀ v, Den B g' H' v d → Q v H') (G s.n (placed s.np ds s.ix es2 s.df .non) m2) :=
      ⟨g1, m1, e, R1, E1, q.bind.imp fun g2 m2 H2 es2 x R2 eq q zs hz => ⟨g2, m2, es2, R2, x, hz, (evalCs_len eq).trans k4.symm, q⟩⟩
    refine thn (hkw.pk.run pos pins s1 σ H1 _ I1 rd) fun ws s2 ⟨zs, H2, I2, rz, g2, m2, es2, R2, x, hz, l2, q2⟩ => ⟨I2.kIn, ?_⟩
    exact fin I2 rv rz R2 (E1.ext x R1) (hv.ext x R1) hz l1 l2 q2
  cases es with
  | nil =>
    obtain rfl := h0 rfl
    rw [evalCs_nil, Out.bind_ok] at p
    refine PySem.W.callWith_KW0 (h₀ := X.base) I.ok.mod.kin f3 k1 ?_ (by rw [k2]; rfl)
    exact kwrun (us := []) I .nil R E .nil (by show 0 = s.npos; exact hl) p
  | cons e1 es =>
    rw [List.all_cons, Bool.and_eq_true] at hs
    have rd : tEvs B G W l σ H fun vs H1 => ∃ g1 m1 ds, Rl B g1 m1 H1 ∧ Ext g H g1 H1 ∧ Dens B g1 H1 vs ds ∧ ds.length = s.npos ∧ Post B g1 H1 (W σ e) (fun g' m' H' d => ∀ v, Den B g' H' v d → Q v H') ((evalCs G kl e m1).bind fun k m => G s.n (placed s.np ds s.ix k s.df .non) m) :=
      ⟨g, m, e, R, E, p.bind.imp fun g1 m1 H1 ds x R1 eq q vs hv => ⟨g1, m1, ds, R1, x, hv, (evalCs_len eq).trans hl, q⟩⟩
    refine PySem.W.callWith_KW (h₀ := X.base) I.ok.mod.kin f3 k1 (thn (ha.run pos pins st σ H _ I rd) fun us s1 ⟨vs, H1, I1, rv, g1, m1, ds, R1, x, hv, l1, q⟩ => ?_) ?_ (star_cons hs.1)
    · exact kwrun I1 rv R1 (E.ext x R) hv l1 q
    · rw [k2, Bool.or_false]
      have hs2 : (e1 :: es).all notStar = true := by rw [List.all_cons, hs.1, hs.2]; rfl
      exact star_none hs2

/-! ### sorted(x, reverse=True) -/
theorem sorted_desc {ns ms : List Int} (hp : ms.Perm ns) (hs : OrdB true ms) : ms = (ns.mergeSort (fun a b => decide (a ≤ b))).reverse := by
  have h2 : ms.reverse = ns.mergeSort (fun a b => decide (a ≤ b)) := sorted_eq ((List.reverse_perm ms).trans hp) (by
    rw [List.pairwise_reverse]
    exact hs)
  rw [← h2, List.reverse_reverse]
theorem sorted_atR {prog : Program} {w : World} {A : Around} {E : Value → Shared → Prop} {s : Shared} {q : Addr} {T : String} {o : Obj} {items : Array Value} {n : Nat} {ns : List Int} {b : Bool} {Q : Value → Shared → Prop} (hT : T = "list" ∨ T = "tuple") (ho : s.heap.get? q = some o) (hc : o.cls = .type T) (hd : o.data = .seq items n)
    (hi : IntsAre items.toList ns) (hz : items.size ≤ sizeLine)
    (h : ∀ (out : Array Value) (ns' : List Int) (p : Addr) (h2 : Heap), IntsAre out.toList ns' → ns'.Perm ns → OrdB b ns' → s.heap.get? p = none → (∀ b u, s.heap.get? b = some u → h2.get? b = some u) → (∃ e, h2.get? p = some (seqObj "list" out e)) → Q (.ref p) { s with heap := h2 }) :
    wpAny (model prog w) A (call (.builtin "sorted") [.ref q] [(Str.ofString "reverse", .bool b)]) Q E s := by
  refine PyProof.Rows.call_function_entry_kw kind_sorted plain_sorted entry_sorted (PyProof.Rows.args_sorted_rev _ _) ?_
  unfold Builtin.«sorted»
  refine wpAny_bind (m := checkCount "sorted" 1 1 _) (wpAny_pure ?_)
  refine wpAny_bind (wpAny_collect_seq q hT ho hc hd (fun h' keep => ?_) hz)
  have hz' : items.toList.length ≤ sizeLine := by rw [Array.length_toList]; exact hz
  refine wpAny_bind (wpAny_newList ?_ hz')
  have at_ : (h'.push (seqObj "list" items.toList.toArray 0)).get? h'.objs.size = some (seqObj "list" items.toList.toArray 0) := Heap.get?_push_size _ rfl
  refine wpAny_bind (wpAny_holding (PyProof.Rows.wpAny_call_entry_kw slot_list_sort ⟨_, at_, rfl⟩ entry_list_sort (SrtR.list_sort_ordR SrtO.swo_int at_ hz' (fun two => SrtO.ints_sortable hi two) fun out o1 o2 => ⟨_, rfl, ?_⟩) (PyProof.Rows.args_list_sort_rev _ _)))
  obtain ⟨ns', k1, k2, k3⟩ := SrtR.ints_outR hi o1 o2
  refine wpAny_pure ⟨_, rfl, h _ ns' _ _ k1 k2 k3 (fresh_end keep) (fun b u hb => ?_) (sortedHeap_at at_)⟩
  have lt : b < h'.objs.size := Heap.lt_size (keep b u hb)
  rw [sortedHeap_old (Nat.ne_of_lt lt) (by rw [Heap.size_push]; exact Nat.lt_succ_of_lt lt)]
  exact Heap.get?_push_of_some _ (keep b u hb)
def rSortedKwA (K : PySem.W.Frag) (b : Bool) (zs0 : List V) : List V → List V → Hp → VK → Prop := fun vs zs H Q => ∃ (a : Addr) (ns : List Int), vs = [V.ref a] ∧ zs = zs0 ∧ (SqL K H a (ns.map V.int) ∨ SqT K H a (ns.map V.int)) ∧
  ∀ (ns' : List Int) (p : Addr), ns'.Perm ns → OrdB b ns' → H p = none → Q (.ref p) (L2.upd H p (.lst (ns'.map V.int)))
theorem cr_sortedRevA {b : Bool} : CallRK X (.builtin "sorted") [Str.ofString "reverse"] (rSortedKwA X.K b [.bl b]) := by
  intro pins s σ H vs zs us ws Q I r rz h
  obtain ⟨a, ns, rfl, rfl, hs, q⟩ := h
  obtain rfl := Vals.ref1 r
  obtain ⟨w1, rfl, e1⟩ := vals1 rz
  obtain rfl : w1 = Value.bool b := e1
  have fin : ∀ (out : Array Value) (ns' : List Int) (p : Addr) (h2 : Heap), ns.length ≤ sizeLine → IntsAre out.toList ns' → ns'.Perm ns → OrdB b ns' → s.heap.get? p = none → (∀ b u, s.heap.get? b = some u → h2.get? b = some u) → (∃ e, h2.get? p = some (seqObj "list" out e)) → EP X pins σ Q (.ref p) { s with heap := h2 } := fun out ns' p h2 hz k1 k2 k3 k4 k5 k6 => by
    obtain ⟨e, k6⟩ := k6
    exact ⟨.ref p, L2.upd H p (.lst (ns'.map V.int)), I.laidN (t' := s.toks) k5 k4 (I.hok.gone k4) ⟨by rw [List.length_map, k2.length_eq]; exact hz, out.toList, e, vals_of_ints k1, by rw [Array.toArray_toList]; exact k6⟩, rfl, q _ _ k2 k3 (I.hok.gone k4)⟩
  rcases hs with hs | hs
  · obtain ⟨its, rv, ⟨o, n, e1, e2, _, e3⟩, hz⟩ := I.list hs
    have hl := rv.length
    rw [List.length_map] at hl hz
    exact sorted_atR (.inl rfl) e1 e2 e3 (by simpa using rv.ints) (by rw [List.size_toArray]; omega) fun out ns' p h2 => fin out ns' p h2 (by omega)
  · obtain ⟨its, rv, ⟨o, e1, e2, n, e3⟩, hz⟩ := I.tuple hs
    have hl := rv.length
    rw [List.length_map] at hl hz
    exact sorted_atR (.inr rfl) e1 e2 e3 (by simpa using rv.ints) (by rw [List.size_toArray]; omega) fun out ns' p h2 => fin out ns' p h2 (by omega)
theorem pf_srtR (cx : Ctx B X) {p pos kp tp : Pos} {j : Nat} {e : Expr} {c : Z.C} (hg : Gl X "sorted") (hm : X.mg "sorted" = none) (h : PE X e (tEv B G W c)) (hn : notStar e = true) :
    PE X (.Call (.Name "sorted" p) [e] [⟨some "reverse", .Constant (.bool true) j tp, kp⟩] pos) (tEvF B G W (.srtR c)) := by
  have ha : PA X [e] (tEvs B G W (.cons c .nil)) := az_cons h az_nil (star_cons hn)
  refine peI (pe_callBK (ks := [Str.ofString "reverse"]) (cr_sortedRevA (b := true)) hg hm (by decide +kernel) ha (pk_cons pe_bl pk_nil) (by decide) (by decide) (by rw [star_cons hn]; rfl) (by rw [star_cons hn]; rfl) rfl rfl rfl) fun σ H Q ⟨g, m, ev, R, E, p⟩ => ⟨g, m, ev, R, E, ?_⟩
  rw [evalC] at p
  rw [evalCs]
  cases k1 : evalC G c ev m with
  | bad => rw [k1] at p; exact p
  | exc x m' => rw [k1] at p; exact p
  | ok d m1 =>
    rw [k1, Out.bind_ok] at p
    rw [Out.bind_ok, evalCs_nil, Out.bind_ok]
    intro g1 H1 x R1 vs hvs
    obtain ⟨v, rfl, hv⟩ := hvs.one
    cases hs : srtRD m1 d with
    | none => rw [hs] at p; exact p.elim
    | some z =>
      rw [hs] at p
      unfold srtRD at hs
      cases q1 : rdS m1 d with
      | none => rw [q1] at hs; cases hs
      | some kl =>
        obtain ⟨kd, l⟩ := kl
        rw [q1] at hs
        obtain ⟨ns, hb, e2⟩ := Option.map_eq_some_iff.mp hs
        subst e2
        obtain ⟨a, xs, e1, hx, hL, hT⟩ := hv.rdS R1 q1
        rw [asInts_eq hb] at hx
        subst e1
        rw [hx.ints, ← cx.K] at hL hT
        refine ⟨a, ns, rfl, rfl, cases_seq kd hL hT, fun ns' q hp ho hq => ?_⟩
        rw [sorted_desc hp ho]
        exact FinF.lst R1 (FinF.ext x p) hq (Dens.of_ints _)

/-! ### a def held in a slot -/
theorem pz_calv {sh : Shp → Prop} (F : Fits B G W sh X) {i : Nat} {x : Str} {p pos : Pos} {es : List Expr} {l : Cs} (hN : X.N[i]? = some x) (hv : Vis X.env.scope x) (hd : (x == ("__debug__" : Str)) = false) (hcd : (x == ("__classdict__" : Str)) = false) (ha : PA X es (tEvs B G W l))
    (hs : es.all notStar = true) (h0 : es = [] → l = .nil) : PE X (.Call (.Name x p) es [] pos) (tEv B G W (.calv i l)) := by
  obtain ⟨k, hr, FN⟩ := F.lv
  refine ⟨fun pins s σ H Q I ⟨g, m, e, R, E, p⟩ => ?_⟩
  rw [evalC] at p
  cases hsl : e.getD i none with
  | none => rw [hsl] at p; exact p.elim
  | some d =>
    rw [hsl] at p
    cases d with
    | fn n c =>
      dsimp only at p
      obtain ⟨v, h1, h2⟩ := E.get hsl
      cases h2 with
      | @fn a _ _ hfa har =>
      obtain ⟨a', fd, ps, f1, f2, f3, f4, f5⟩ := FN.ok n c har
      rw [hfa] at f1
      cases f1
      have K := F.K
      rw [← K] at f3 f4 f5
      refine wpAny_Call_Name_kw (thn ((pe_var hN hv hd hcd).run pins s σ H (fun v' H' => v' = V.ref a ∧ H' = H) I ⟨_, h1, rfl, rfl⟩) fun u s1 ⟨v', H', I', rv, e1, e2⟩ => ?_)
      subst e1
      subst e2
      cases rv
      have main : ∀ us s1, AP X pins σ (fun vs H1 => spOf B c (G n) vs H1 Q (EW B W σ)) us s1 → wpAny (model X.prog X.w) X.A (call (.ref a) us) (EP X pins σ Q) X.xe s1 := fun us s1 ⟨vs, H1, I1, rv, q⟩ =>
        run_g (E := EW B W) f5 hr F.gd f4 (F.pass σ) I1 rv q
      have rd : tEvs B G W l σ H' fun vs H1 => spOf B c (G n) vs H1 Q (EW B W σ) := ⟨g, m, e, R, E, p.bind.imp fun g1 m1 H1 ds x R1 eq q vs hvs => by
        by_cases hl : ds.length = c
        · rw [if_pos hl] at q
          exact call_read R1 (E.ext x R) hvs hl q
        · rw [if_neg hl] at q; exact q.elim⟩
      cases es with
      | nil =>
        obtain rfl := h0 rfl
        obtain ⟨g0, m0, e0, R0, E0, p0⟩ := rd
        rw [evalCs_nil] at p0
        exact PySem.W.callWith_K0 I'.kIn f3 (main [] s1 ⟨[], H', I', .nil, p0.ok0 R0 [] .nil⟩)
      | cons e1 es =>
        rw [List.all_cons, Bool.and_eq_true] at hs
        exact PySem.W.callWith_K (h₀ := X.base) I'.ok.mod.kin f3 (thn (ha.run pos pins s1 σ H' _ I' rd) fun us s1 hq => ⟨hq.choose_spec.choose_spec.1.kIn, main us s1 hq⟩) (star_cons hs.1) (star_none hs.2)
    | _ => exact p.elim
/-! ### names of the module: constants, defs -/
theorem pz_gcon {x : Str} {pos : Pos} {u : Value} {v : V} {d : D} (hg : Gl X x) (hm : X.mg x = some u) (r : RelV v u) (hd : ∀ g H, Den B g H v d) (hdb : (x == ("__debug__" : Str)) = false) : PE X (.Name x pos) (tEv B G W (.con d)) :=
  pz_con (v := v) ⟨fun pins s σ H Q I h => ld_glob I hg hm ⟨v, H, I, r, h⟩ hdb⟩ hd
end Z
/-! ZA: what loops and comprehensions walk; comprehensions. -/
namespace Z
open PySem PySem.Spec PyProof.Rows L2 RZ
variable {B : Bs} {G : Sg} {W : WE} {U : XW} {X : Cx} {g g' g1 g2 : Cfg} {H H' H1 H2 : Hp} {m m' m1 : Mem}

/-- an iterator brings the items of a source, as long as the values vs stand for ds and the source stays -/
structure Serves (B : Bs) (J : It) (S : Src) (vs : List V) (ds : List D) : Prop where
  go : ∀ g m H i, Rl B g m H → Dens B g H vs ds → S.stays m = true → i < S.items.length → J.go i H
  stop : ∀ g m H, Rl B g m H → Dens B g H vs ds → S.stays m = true → J.stop S.items.length H
  yld : ∀ g m H i d x H', Rl B g m H → Dens B g H vs ds → S.stays m = true → S.items[i]? = some d → J.yld i H x H' → Ext g H g H' ∧ Rl B g m H' ∧ Den B g H' x d
/-- the reading of a walk's source -/
def tIt (B : Bs) (G : Sg) (W : WE) (c : C) : TI := fun σ H R => ∃ g m e, Rl B g m H ∧ EnvR B g H σ e ∧
  Post B g H (W σ e) (fun g' m' H' S => ∀ J vs ds, Serves B J S vs ds → Dens B g' H' vs ds → S.stays m' = true → S.items.length ≤ sizeLine → R J H') (evalIt G c e m)
theorem sameL_refl {n : Nat} {l : List D} (h : m[n]? = some (.lst l)) : sameL m n l = true := by
  unfold sameL
  rw [h]
  exact D.sames_refl l
theorem sameL_eq {n : Nat} {l : List D} (h : sameL m n l = true) : m[n]? = some (.lst l) := by
  unfold sameL at h
  cases q : m[n]? with
  | none => rw [q] at h; cases h
  | some mo =>
    rw [q] at h
    cases mo with
    | lst l' => rw [D.sames_eq h]
    | _ => cases h

theorem sqL_items {K : PySem.W.Frag} {xs : List V} {l : List D} {a : Addr} {i : Nat} {d : D} {x : V} (h : SqL K H a xs) (hd : Dens B g H xs l) (hi : l[i]? = some d) (hy : ∀ xs, SqL K H a xs → xs[i]? = some x) : Den B g H x d := by
  obtain ⟨v, h1, h2⟩ := hd.get hi
  rw [hy xs h] at h1
  cases h1
  exact h2
theorem sqT_items {K : PySem.W.Frag} {xs : List V} {l : List D} {a : Addr} {i : Nat} {d : D} {x : V} (h : SqT K H a xs) (hd : Dens B g H xs l) (hi : l[i]? = some d) (hy : ∀ xs, SqT K H a xs → xs[i]? = some x) : Den B g H x d := by
  obtain ⟨v, h1, h2⟩ := hd.get hi
  rw [hy xs h] at h1
  cases h1
  exact h2
/-- what stands of a source at a list's address -/
theorem serves_list {a : Addr} {d : D} {S : Src} (h : ∀ g m H, Rl B g m H → Den B g H (.ref a) d → S.stays m = true → ∃ xs, SqL B.K H a xs ∧ Dens B g H xs S.items) : Serves B (Itl B.K a) S [.ref a] [d] := by
  refine ⟨fun g m H i R hd st hi => ?_, fun g m H R hd st => ?_, fun g m H i d' x H' R hd st hi hy => ?_⟩
  · obtain ⟨v, e, hd⟩ := hd.one
    cases e
    obtain ⟨xs, h1, h2⟩ := h g m H R hd st
    obtain ⟨w', e2, _⟩ := h2.get (List.getElem?_eq_getElem hi)
    exact ⟨xs, w', h1, e2⟩
  · obtain ⟨v, e, hd⟩ := hd.one
    cases e
    obtain ⟨xs, h1, h2⟩ := h g m H R hd st
    exact ⟨xs, h1, Nat.le_of_eq h2.length⟩
  · obtain ⟨v, e, hd⟩ := hd.one
    cases e
    obtain ⟨xs, h1, h2⟩ := h g m H R hd st
    obtain ⟨rfl, hy⟩ := hy
    exact ⟨Ext.refl _ _, R, sqL_items h1 h2 hi hy⟩
theorem serves_tup {a : Addr} {l : List D} : Serves B (Itt B.K a) ⟨l, none⟩ [.ref a] [.tup l] := by
  have h : ∀ {g m H}, Rl B g m H → Dens B g H [.ref a] [.tup l] → ∃ xs, SqT B.K H a xs ∧ Dens B g H xs l := fun {g m H} R hd => by
    obtain ⟨v, e, hd⟩ := hd.one
    cases e
    cases hd with
    | tup h1 h2 => exact ⟨_, h1, h2⟩
  refine ⟨fun g m H i R hd st hi => ?_, fun g m H R hd st => ?_, fun g m H i d' x H' R hd st hi hy => ?_⟩
  · obtain ⟨xs, h1, h2⟩ := h R hd
    obtain ⟨w', e2, _⟩ := h2.get (List.getElem?_eq_getElem hi)
    exact ⟨xs, w', h1, e2⟩
  · obtain ⟨xs, h1, h2⟩ := h R hd
    exact ⟨xs, h1, Nat.le_of_eq h2.length⟩
  · obtain ⟨xs, h1, h2⟩ := h R hd
    obtain ⟨rfl, hy⟩ := hy
    exact ⟨Ext.refl _ _, R, sqT_items h1 h2 hi hy⟩
theorem serves_str {s : Str} : Serves B (Its s) ⟨s.cps.toList.map fun c => D.str ⟨#[c]⟩, none⟩ [] [] := by
  refine ⟨fun g m H i R hd st hi => ?_, fun g m H R hd st => ?_, fun g m H i d' x H' R hd st hi hy => ?_⟩
  · show i < s.cps.size
    simpa using hi
  · show s.cps.size ≤ (s.cps.toList.map fun c => D.str ⟨#[c]⟩).length
    simp
  · obtain ⟨rfl, c, hc, rfl⟩ := hy
    refine ⟨Ext.refl _ _, R, ?_⟩
    simp only [List.getElem?_map, Array.getElem?_toList, hc, Option.map_some, Option.some.injEq] at hi
    subst hi
    exact .str _
theorem serves_rng {n : Int} : Serves B (Itr 0 n.toNat) ⟨(List.range n.toNat).map fun (k : Nat) => D.int (k : Int), none⟩ [] [] := by
  refine ⟨fun g m H i R hd st hi => ?_, fun g m H R hd st => ?_, fun g m H i d' x H' R hd st hi hy => ?_⟩
  · show i < n.toNat
    simpa using hi
  · show n.toNat ≤ ((List.range n.toNat).map fun (k : Nat) => D.int (k : Int)).length
    simp
  · obtain ⟨rfl, rfl⟩ := hy
    refine ⟨Ext.refl _ _, R, ?_⟩
    rw [List.getElem?_map] at hi
    obtain ⟨k, h1, h2⟩ := Option.map_eq_some_iff.mp hi
    rw [List.getElem?_range (by
      have := (List.getElem?_eq_some_iff.mp h1).1
      simpa using this)] at h1
    cases h1
    subst h2
    rw [Int.zero_add]
    exact .int _
theorem zip_get {α β : Type} {x : List α} {y : List β} {i : Nat} {p : α × β} (h : (x.zip y)[i]? = some p) : x[i]? = some p.1 ∧ y[i]? = some p.2 := by
  rw [List.getElem?_zip_eq_some] at h
  exact h
theorem serves_zipT {a b : Addr} {k l : List D} : Serves B (ItzT B.K a b) ⟨(k.zip l).map fun p => D.tup [p.1, p.2], none⟩ [.ref a, .ref b] [.tup k, .tup l] := by
  have h : ∀ {g m H}, Rl B g m H → Dens B g H [.ref a, .ref b] [.tup k, .tup l] → ∃ xs ys, SqT B.K H a xs ∧ Dens B g H xs k ∧ SqT B.K H b ys ∧ Dens B g H ys l := fun {g m H} R hd => by
    obtain ⟨v, w, e, h1, h2⟩ := hd.two
    cases e
    cases h1 with
    | tup h1 h2' =>
      cases h2 with
      | tup h3 h4 => exact ⟨_, _, h1, h2', h3, h4⟩
  refine ⟨fun g m H i R hd st hi => ?_, fun g m H R hd st => ?_, fun g m H i d' x H' R hd st hi hy => ?_⟩
  · obtain ⟨xs, ys, h1, h2, h3, h4⟩ := h R hd
    have hi : i < ((k.zip l).map fun p => D.tup [p.1, p.2]).length := hi
    rw [List.length_map, List.length_zip] at hi
    obtain ⟨v, e1, _⟩ := h2.get (List.getElem?_eq_getElem (show i < k.length by omega))
    obtain ⟨w', e2, _⟩ := h4.get (List.getElem?_eq_getElem (show i < l.length by omega))
    exact ⟨xs, ys, v, w', h1, h3, e1, e2⟩
  · obtain ⟨xs, ys, h1, h2, h3, h4⟩ := h R hd
    refine ⟨xs, ys, h1, h3, ?_⟩
    show xs.length ≤ ((k.zip l).map fun p => D.tup [p.1, p.2]).length ∨ ys.length ≤ ((k.zip l).map fun p => D.tup [p.1, p.2]).length
    rw [List.length_map, List.length_zip, h2.length, h4.length]
    omega
  · obtain ⟨xs, ys, h1, h2, h3, h4⟩ := h R hd
    obtain ⟨T, x1, x2, rfl, nT, rfl, f1, f2⟩ := hy
    rw [List.getElem?_map] at hi
    obtain ⟨p, hp, rfl⟩ := Option.map_eq_some_iff.mp hi
    obtain ⟨p1, p2⟩ := zip_get hp
    have x := Ext.upd R (o := .tup [x1, x2]) nT
    refine ⟨x, Rl.upd R nT, .tup (SqT.of upd_same) (.cons ?_ (.cons ?_ .nil))⟩
    · exact (sqT_items h1 h2 p1 f1).ext x R
    · exact (sqT_items h3 h4 p2 f2).ext x R
theorem serves_zipL {a b : Addr} {k l : List D} : Serves B (Itz B.K a b) ⟨(k.zip l).map fun p => D.tup [p.1, p.2], none⟩ [.ref a, .ref b] [.lst k, .lst l] := by
  have h : ∀ {g m H}, Rl B g m H → Dens B g H [.ref a, .ref b] [.lst k, .lst l] → ∃ xs ys, SqL B.K H a xs ∧ Dens B g H xs k ∧ SqL B.K H b ys ∧ Dens B g H ys l := fun {g m H} R hd => by
    obtain ⟨v, w, e, h1, h2⟩ := hd.two
    cases e
    cases h1 with
    | lst _ h1 h2' =>
      cases h2 with
      | lst _ h3 h4 => exact ⟨_, _, SqL.of h1, h2', SqL.of h3, h4⟩
  refine ⟨fun g m H i R hd st hi => ?_, fun g m H R hd st => ?_, fun g m H i d' x H' R hd st hi hy => ?_⟩
  · obtain ⟨xs, ys, h1, h2, h3, h4⟩ := h R hd
    have hi : i < ((k.zip l).map fun p => D.tup [p.1, p.2]).length := hi
    rw [List.length_map, List.length_zip] at hi
    obtain ⟨v, e1, _⟩ := h2.get (List.getElem?_eq_getElem (show i < k.length by omega))
    obtain ⟨w', e2, _⟩ := h4.get (List.getElem?_eq_getElem (show i < l.length by omega))
    exact ⟨xs, ys, v, w', h1, h3, e1, e2⟩
  · obtain ⟨xs, ys, h1, h2, h3, h4⟩ := h R hd
    refine ⟨xs, ys, h1, h3, ?_⟩
    show xs.length ≤ ((k.zip l).map fun p => D.tup [p.1, p.2]).length ∨ ys.length ≤ ((k.zip l).map fun p => D.tup [p.1, p.2]).length
    rw [List.length_map, List.length_zip, h2.length, h4.length]
    omega
  · obtain ⟨xs, ys, h1, h2, h3, h4⟩ := h R hd
    obtain ⟨T, x1, x2, rfl, nT, rfl, f1, f2⟩ := hy
    rw [List.getElem?_map] at hi
    obtain ⟨p, hp, rfl⟩ := Option.map_eq_some_iff.mp hi
    obtain ⟨p1, p2⟩ := zip_get hp
    have x := Ext.upd R (o := .tup [x1, x2]) nT
    refine ⟨x, Rl.upd R nT, .tup (SqT.of upd_same) (.cons ?_ (.cons ?_ .nil))⟩
    · exact (sqL_items h1 h2 p1 f1).ext x R
    · exact (sqL_items h3 h4 p2 f2).ext x R

/-! ### sources of the text -/
theorem piI {tg e : Expr} {t t' : TI} (h : PI X tg e t) (i : ∀ σ H Q, t' σ H Q → t σ H Q) : PI X tg e t' := ⟨fun pins s σ H Q I q => h.run pins s σ H Q I (i σ H Q q)⟩
/-- codes that are evaluated, then walked -/
def plainIt : Z.C → Bool
  | .rng _ => false
  | .rng2 _ _ => false
  | .zip _ _ => false
  | .enum _ => false
  | _ => true
theorem evalIt_plain {c : Z.C} (h : plainIt c = true) (e : Env) (m : Mem) : evalIt G c e m = (evalC G c e m).bind fun d m => lift (srcOf m d) m := by
  cases c <;> first | (exact absurd h (by decide)) | (unfold evalIt; rfl) | (simp [plainIt] at h)
theorem iz_plain (cx : Ctx B X) {tg e : Expr} {c : Z.C} (h : PE X e (tEv B G W c)) (hp : plainIt c = true) : PI X tg e (tIt B G W c) := by
  refine ⟨fun pins s σ H R I ⟨g, m, ev, Rr, E, p⟩ => ?_⟩
  rw [evalIt_plain hp] at p
  refine thn (h.run pins s σ H _ I ⟨g, m, ev, Rr, E, p.bind.imp fun g1 m1 H1 d x R1 _ q v hv => (show ∃ g1 m1 d, Rl B g1 m1 H1 ∧ Den B g1 H1 v d ∧ Post B g1 H1 (W σ ev) (fun g' m' H' S => ∀ J vs ds, Serves B J S vs ds → Dens B g' H' vs ds → S.stays m' = true → S.items.length ≤ sizeLine → R J H') (lift (srcOf m1 d) m1) from ⟨g1, m1, d, R1, hv, q⟩)⟩) fun u s1 ⟨v, H1, I1, rv, g1, m1, d, R1, hv, q⟩ => ?_
  obtain ⟨S, eS, q⟩ := q.lifted
  have q := q g1 H1 (Ext.refl _ _) R1
  have K := cx.K
  have lists : ∀ {a : Addr} {xs : List V}, v = .ref a → SqL X.K H1 a xs → xs.length = S.items.length → Serves B (Itl B.K a) S [.ref a] [d] → Den B g1 H1 (.ref a) d → S.stays m1 = true → wpAny (model X.prog X.w) X.A (pyIter u) (PIE X pins σ tg R) X.xe s1 := fun {a xs} ev hx hlen sv hd st => by
    subst ev
    cases rv
    obtain ⟨its, rr, pl, hz⟩ := I1.list hx
    refine wpAny_pyIter_list pl.isList (pi_one (tk := s1.toks) I1 _ (turn_list a _) ⟨_, Heap.get?_push_size _ rfl, rfl, rfl⟩ ?_)
    rw [K]
    exact q _ _ _ sv (.cons hd .nil) st (by rw [← hlen]; exact hz)
  cases d with
  | str z =>
    have hz : z.length ≤ sizeLine := by
      by_cases hz : z.length ≤ sizeLine
      · exact hz
      · simp [srcOf, hz] at eS
    simp only [srcOf, if_pos hz, Option.some.injEq] at eS
    subst eS
    cases hv
    obtain ⟨t, rfl⟩ := rv
    have qq := q (Its z) [] [] serves_str .nil rfl (by simpa [Str.length] using hz)
    cases ha : z.cps.all (· < 128) with
    | false => exact wpAny_pyIter_wide ha (pi_one (tk := s1.toks) I1 _ (turn_str _ z t "str_iterator" (.inr rfl)) ⟨_, Heap.get?_push_size _ rfl, rfl, rfl⟩ qq)
    | true => exact wpAny_pyIter_ascii ha (pi_one (tk := s1.toks) I1 _ (turn_str _ z t "str_ascii_iterator" (.inl rfl)) ⟨_, Heap.get?_push_size _ rfl, rfl, rfl⟩ qq)
  | loc n =>
    simp only [srcOf] at eS
    cases q1 : m1[n]? with
    | none => rw [q1] at eS; cases eS
    | some mo =>
      rw [q1] at eS
      cases mo with
      | lst l =>
        cases eS
        cases id hv with
        | @loc a _ ha =>
          obtain ⟨xs, h1, h2⟩ := R1.mem n a _ ha q1
          refine lists rfl (SqL.of h1) h2.length (serves_list fun g m H R hd st => ?_) hv (sameL_refl q1)
          cases hd with
          | loc hb =>
            obtain ⟨xs, k1, k2⟩ := R.mem n _ _ hb (sameL_eq st)
            exact ⟨xs, SqL.of k1, k2⟩
      | _ => cases eS
  | lst l =>
    cases eS
    cases id hv with
    | lst f h1 h2 =>
      refine lists rfl (SqL.of h1) h2.length (serves_list fun g m H R hd st => ?_) hv rfl
      cases hd with
      | lst f k1 k2 => exact ⟨_, SqL.of k1, k2⟩
  | scr l =>
    cases eS
    cases id hv with
    | scr h1 =>
      refine lists rfl (.inl (.inr ⟨_, h1⟩)) (by simp) (serves_list fun g m H R hd st => ?_) hv rfl
      cases hd with
      | scr k1 => exact ⟨_, .inl (.inr ⟨_, k1⟩), Dens.of_ints _⟩
      | scrK k1 => exact ⟨_, k1 H, Dens.of_ints _⟩
    | scrK h1 =>
      refine lists rfl (plainL K (h1 H1)) (by simp) (serves_list fun g m H R hd st => ?_) hv rfl
      cases hd with
      | scr k1 => exact ⟨_, .inl (.inr ⟨_, k1⟩), Dens.of_ints _⟩
      | scrK k1 => exact ⟨_, k1 H, Dens.of_ints _⟩
  | tup l =>
    cases eS
    cases id hv with
    | @tup a xs _ h1 h2 =>
      cases rv
      obtain ⟨its, rr, pl, hz⟩ := I1.tuple (plainT K h1)
      refine wpAny_pyIter_tuple (show s1.heap.IsTuple a its.toArray from pl) (pi_one (tk := s1.toks) I1 _ (turn_tuple a _) ⟨_, Heap.get?_push_size _ rfl, rfl, rfl⟩ ?_)
      rw [K]
      exact q _ _ _ serves_tup (.cons hv .nil) rfl (by rw [← h2.length]; exact hz)
  | _ => simp [srcOf, Z.rdS] at eS
theorem iz_rng {tg a : Expr} {c : Z.C} {p pos : Pos} (h : PE X a (tEv B G W c)) (hg : Gl X "range") (hm : X.mg "range" = none) (hs : notStar a = true) : PI X tg (.Call (.Name "range" p) [a] [] pos) (tIt B G W (.rng c)) := by
  have ha : PA X [a] (tEvs B G W (.cons c .nil)) := az_cons h az_nil (star_cons hs)
  refine piI (pi_range1 hg hm ha (star_cons hs)) fun σ H R ⟨g, m, e, Rr, E, p⟩ => ⟨g, m, e, Rr, E, ?_⟩
  unfold evalIt at p
  unfold evalCs
  cases h1 : evalC G c e m with
  | bad => rw [h1] at p; exact p
  | exc x m' => rw [h1] at p; exact p
  | ok d m1 =>
    rw [h1] at p
    rw [Out.bind_ok, evalCs_nil, Out.bind_ok]
    intro g1 H1 x R1 vs hvs
    have p := Post.ext x p
    obtain ⟨v, rfl, hv⟩ := hvs.one
    cases d with
    | int n =>
      rw [Out.bind_ok] at p
      simp only at p
      split at p
      · rename_i hz
        cases hv
        have hn : (sizeLine : Int) = 16777216 := by rw [sizeLine_eq]; rfl
        have qq := p.ok0 R1 (Itr 0 n.toNat) [] [] serves_rng .nil rfl (by rw [List.length_map, List.length_range]; omega)
        exact ⟨n, rfl, hz.1, by omega, qq⟩
      · exact p.elim
    | _ => exact p.elim
theorem serves_rng2 {i : Int} {n : Nat} : Serves B (Itr i n) ⟨(List.range n).map fun (k : Nat) => D.int (i + (k : Int)), none⟩ [] [] := by
  refine ⟨fun g m H j R hd st hi => ?_, fun g m H R hd st => ?_, fun g m H j d x H' R hd st hi hy => ?_⟩
  · show j < n
    simpa using hi
  · show n ≤ ((List.range n).map fun (k : Nat) => D.int (i + (k : Int))).length
    simp
  · obtain ⟨rfl, rfl⟩ := hy
    refine ⟨Ext.refl _ _, R, ?_⟩
    rw [List.getElem?_map] at hi
    obtain ⟨k, h1, h2⟩ := Option.map_eq_some_iff.mp hi
    rw [List.getElem?_range (by
      have := (List.getElem?_eq_some_iff.mp h1).1
      simpa using this)] at h1
    cases h1
    subst h2
    exact .int _
theorem iz_rng2 {tg a b : Expr} {ca cb : Z.C} {p pos : Pos} (h1 : PE X a (tEv B G W ca)) (h2 : PE X b (tEv B G W cb)) (hg : Gl X "range") (hm : X.mg "range" = none) (n1 : notStar a = true) (n2 : notStar b = true) : PI X tg (.Call (.Name "range" p) [a, b] [] pos) (tIt B G W (.rng2 ca cb)) := by
  have ha : PA X [a, b] (tEvs B G W (.cons ca (.cons cb .nil))) := az_cons h1 (az_cons h2 az_nil (star_cons n2)) (star_cons n1)
  refine piI (pi_range2 hg hm ha (by rw [star_cons n1, star_cons n2]; rfl) (star_cons n2)) fun σ H R ⟨g, m, e, Rr, E, p⟩ => ⟨g, m, e, Rr, E, ?_⟩
  rw [evalIt] at p
  rw [evalCs]
  cases k1 : evalC G ca e m with
  | bad => rw [k1] at p; exact p
  | exc x m' => rw [k1] at p; exact p
  | ok d m1 =>
    rw [k1, Out.bind_ok] at p
    rw [Out.bind_ok, evalCs]
    cases k2 : evalC G cb e m1 with
    | bad => rw [k2] at p; exact p
    | exc x m' => rw [k2] at p; exact p
    | ok d2 m2 =>
      rw [k2, Out.bind_ok] at p
      rw [Out.bind_ok, evalCs_nil, Out.bind_ok, Out.bind_ok]
      intro g1 H1 x R1 vs hvs
      have p := Post.ext x p
      obtain ⟨v, w, rfl, hv, hw⟩ := hvs.two
      cases d with
      | int i =>
        cases d2 with
        | int j =>
          dsimp only at p
          split at p
          · rename_i hz
            cases hv
            cases hw
            have hn : (sizeLine : Int) = 16777216 := by rw [sizeLine_eq]; rfl
            have qq := p.ok0 R1 (Itr i (j - i).toNat) [] [] serves_rng2 .nil rfl (by rw [List.length_map, List.length_range]; omega)
            exact ⟨i, j, rfl, ⟨hz.1.1, by omega, hz.2.1.1, by omega⟩, qq⟩
          · exact p.elim
        | _ => exact p.elim
      | _ => exact p.elim
theorem serves_enum {a : Addr} {k : List D} : Serves B (Ite B.K a) ⟨k.zipIdx.map fun p => D.tup [.int (p.2 : Int), p.1], none⟩ [.ref a] [.lst k] := by
  have h : ∀ {g m H}, Rl B g m H → Dens B g H [.ref a] [.lst k] → ∃ xs, SqL B.K H a xs ∧ Dens B g H xs k := fun {g m H} R hd => by
    obtain ⟨v, e, hd⟩ := hd.one
    cases e
    cases hd with
    | lst _ h1 h2' => exact ⟨_, SqL.of h1, h2'⟩
  refine ⟨fun g m H i R hd st hi => ?_, fun g m H R hd st => ?_, fun g m H i d' x H' R hd st hi hy => ?_⟩
  · obtain ⟨xs, h1, h2⟩ := h R hd
    have hi : i < (k.zipIdx.map fun p => D.tup [.int (p.2 : Int), p.1]).length := hi
    rw [List.length_map, List.length_zipIdx] at hi
    obtain ⟨v, e1, _⟩ := h2.get (List.getElem?_eq_getElem hi)
    exact ⟨xs, v, h1, e1⟩
  · obtain ⟨xs, h1, h2⟩ := h R hd
    refine ⟨xs, h1, ?_⟩
    show xs.length ≤ (k.zipIdx.map fun p => D.tup [.int (p.2 : Int), p.1]).length
    rw [List.length_map, List.length_zipIdx, h2.length]
    exact Nat.le_refl _
  · obtain ⟨xs, h1, h2⟩ := h R hd
    obtain ⟨T, x1, rfl, nT, rfl, f1⟩ := hy
    rw [List.getElem?_map] at hi
    obtain ⟨p, hp, rfl⟩ := Option.map_eq_some_iff.mp hi
    rw [List.getElem?_zipIdx] at hp
    obtain ⟨q, hq, rfl⟩ := Option.map_eq_some_iff.mp hp
    have x := Ext.upd R (o := .tup [.int (i : Nat), x1]) nT
    refine ⟨x, Rl.upd R nT, .tup (SqT.of upd_same) (.cons ?_ (.cons ?_ .nil))⟩
    · simp only [Nat.zero_add]; exact .int _
    · exact (sqL_items h1 h2 hq f1).ext x R
end Z
/-! Z0: enumerate over a tuple. -/
namespace Z
open PySem PySem.Spec PyProof.Rows L2 RZ

/-- what enumerate(v) lays, over an iterator at it -/
def enumO (it : Addr) : Obj := { cls := .type "enumerate", data := .fields #[.none, .bool false, .ref it, rawInt 0, .none, .none] }
theorem enum_lays {v : Value} {o : Obj} {Pre : Heap → Prop} (B : Begins v o Pre) : Meets (Builtin.«enumerate.__new__» ⟨[.type "enumerate", v], []⟩) fun _ R s =>
    Pre s.heap ∧ R (.ok (.ret (.ref (s.heap.objs.size + 1)))) { s with heap := (s.heap.push o).push (enumO s.heap.objs.size) } := by
  refine .of_wp fun prog w A R s ⟨pre, res⟩ => ?_
  have sub_ := sub_enumerate
  have sz : (s.heap.push o).objs.size = s.heap.objs.size + 1 := Heap.size_push ..
  have begin_ : ∀ {A' : Around} {E Q : Value → Shared → Prop}, Q (.ref s.heap.objs.size) { s with heap := s.heap.push o } → wpAny (model prog w) A' (pyIter v) Q E s := B.iter prog w _ _ s _ pre
  have ends : ∀ v', v' = Value.ref (s.heap.push o).objs.size → R (.ok (.ret v')) { s with heap := (s.heap.push o).push (enumO s.heap.objs.size) } := fun v' e => by rw [e, sz]; exact res
  unfold enumO at ends
  obtain ⟨hp, g, d, tk, os⟩ := s
  wp_walk using begin_
  refine wpAny_stack_any fun _ => wpAny_pure ?_
  split
  case h_1 c _ _ _ _ _ => cases hc : (c == Value.type "enumerate") <;> (wp_walk using begin_; exact ⟨_, rfl, ends _ rfl⟩)
  case h_2 => wp_walk using begin_; exact ⟨_, rfl, ends _ rfl⟩

/-- an enumeration at e, by the iterator it, of the tuple a, i items gone -/
structure EnumAt (a e it : Addr) (i : Nat) (h : Heap) : Prop where
  counts : ∃ old, IsEnum h e it (i : Int) old
  draws : h.IsTupleIter it a i
  apart : e ≠ it ∧ e ≠ a ∧ a ≠ it
section
variable {a e it : Addr} {i : Nat} {h h' : Heap}
theorem EnumAt.both {C : Addr → Prop} (at_ : EnumAt a e it i h) (c1 : C e) (c2 : C it) : ∀ b ∈ [e, it], C b := by simp [c1, c2]
theorem EnumAt.lt (at_ : EnumAt a e it i h) : ∀ b ∈ [e, it], b < h.objs.size :=
  at_.both (let ⟨_, q⟩ := at_.counts; Heap.lt_size q) (let ⟨_, q, _⟩ := at_.draws; Heap.lt_size q)
theorem EnumAt.keep (at_ : EnumAt a e it i h) (k : ∀ b ∈ [e, it], ∀ o, h.get? b = some o → h'.get? b = some o) : EnumAt a e it i h' where
  counts := let ⟨old, q⟩ := at_.counts; ⟨old, k e (.head _) _ q⟩
  draws := at_.draws.at (k it (.tail _ (.head _)))
  apart := at_.apart
theorem EnumAt.plain (at_ : EnumAt a e it i h) : ∀ b ∈ [e, it], ∃ o, h.get? b = some o ∧ ∀ v, o.data ≠ .cell v := by
  obtain ⟨old, q⟩ := at_.counts
  obtain ⟨o, q', _, q2⟩ := at_.draws
  exact at_.both ⟨_, q, by simp⟩ ⟨o, q', by simp [q2]⟩
variable {prog : Program} {w : World} {A : Around} {E : Value → Shared → Prop} {s : Shared} {its : List Value} {elts : List Expr} {kk : Nat} {tpos : Pos} {u : Value}
/-- a turn, and the step ahead of the store: a new pair -/
theorem EnumAt.turn {Q : Shared → Prop} (calm : A.in1.handled = none) (at_ : EnumAt a e it i s.heap) (tup : s.heap.IsTuple a its.toArray) (hu : its[i]? = some u)
    (h : ∀ h' tk, EnumAt a e it (i + 1) h' → h'.get? s.heap.objs.size = some { cls := .type "tuple", data := .seq #[.int i tk, u] } → (∀ b o, b ∉ [e, it] → s.heap.get? b = some o → h'.get? b = some o) → Q { s with heap := h', toks := tk + 1 }) :
    wpAny (model prog w) A (pyNext (.ref e)) (fun r s1 => ∃ v, r = some v ∧ wpAny (model prog w) A (letOwnedTupleGo (.Tuple elts kk tpos) (.ref e) v) (fun _ s2 => v = .ref s.heap.objs.size ∧ Q s2) E s1) E s := by
  obtain ⟨old, cnt⟩ := at_.counts
  obtain ⟨n1, n2, n3⟩ := at_.apart
  have inside : i < its.toArray.size := by simpa using (List.getElem?_eq_some_iff.mp hu).1
  refine wpAny_pyNext_enum_itemD (Draws.tuple calm it a n3 its.toArray) cnt ⟨at_.draws, tup⟩ inside n1 (by simp [n1, n2]) fun y h1 tk py out nxt pair _ k1 => ⟨_, rfl, ?_⟩
  refine wpAny_letOwnedTupleGo_enum (s := ⟨h1, s.gens, s.drawn, tk + 1, s.os⟩) out fun h2 cnt2 but => ⟨rfl, ?_⟩
  have py : its.toArray[i]? = some y := py
  rw [List.getElem?_toArray, hu] at py
  cases py
  have step : ∀ b, b ≠ e → ∀ o, h1.get? b = some o → h2.get? b = some o := fun b hb o q => (but.2 b hb).trans q
  refine h h2 tk ⟨⟨u, by simpa using cnt2⟩, nxt.1.at (step it n1.symm), n1, n2, n3⟩ (step _ (Nat.ne_of_gt (Heap.lt_size cnt)) _ pair) fun b o hb q => ?_
  simp only [List.mem_cons, List.not_mem_nil, or_false, not_or] at hb
  exact step b hb.1 o (k1 b o hb.1 hb.2 q)
end
/-- the tuple at a, each item in a new pair -/
def IteT (K : PySem.W.Frag) (a : Addr) : It :=
  ⟨fun i H => ∃ (xs : List V) (x : V), SqT K H a xs ∧ xs[i]? = some x, fun i H v H' => ∃ T x, v = .ref T ∧ H T = none ∧ H' = upd H T (.tup [.int (i : Nat), x]) ∧ ∀ xs, SqT K H a xs → xs[i]? = some x, fun i H => ∃ xs : List V, SqT K H a xs ∧ xs.length = i⟩
theorem turn_enumT {P : Program} {w : World} {K : PySem.W.Frag} {elts : List Expr} {kk : Nat} {tpos : Pos} (a e it : Addr) : Turn P w K (.Tuple elts kk tpos) (IteT K a) [e, it] e (EnumAt a e it) where
  mem := .head _
  obj _ _ := EnumAt.plain
  keep _ _ _ := EnumAt.keep
  self A i s Q E at_ := let ⟨_, q⟩ := at_.counts; wpAny_pyIter_enum q
  item := by
    rintro X rfl rfl rfl calm i pins s σ H E I own at_ ⟨xs, x, sq, hx⟩
    obtain ⟨its, rel, tup, _⟩ := I.tuple sq
    obtain ⟨u, hu, rx⟩ := rel.get hx
    have fresh := I.hok.fresh (Nat.le_refl s.heap.objs.size)
    refine wpAny_mono (at_.turn (kk := kk) (elts := elts) (tpos := tpos) (E := E) (Q := fun s2 => ∃ x H', Inv X pins σ H' s2 ∧ RelV x (.ref s.heap.objs.size) ∧ (IteT X.K a).yld i H x H' ∧ EnumAt a e it (i + 1) s2.heap ∧ ∀ b ∈ [e, it], H' b = none) (show X.A.in1.handled = none from I.ok.hd calm) tup hu fun h' tk at' pair k => ?_)
      (fun r s1 ⟨v, er, go⟩ => ⟨v, er, wpAny_mono go (fun _ s2 z => by obtain ⟨ev, z⟩ := z; rw [ev]; exact z) fun _ _ z => z⟩) fun _ _ z => z
    have laid : ObjOk X.prog X.w (upd H s.heap.objs.size (.tup [.int (i : Nat), x])) h' s.heap.objs.size (.tup [.int (i : Nat), x]) := ⟨(by decide : 2 ≤ sizeLine), _, .cons ⟨tk, rfl⟩ (.cons rx .nil), ⟨_, pair, rfl, _, rfl⟩⟩
    refine ⟨.ref s.heap.objs.size, _, I.turnedNew (t' := tk + 1) (ch := [e, it]) k own (Nat.le_refl _) laid, rfl, ⟨_, x, rfl, fresh, rfl, fun ys sq' => I.tuple_inj sq' sq ▸ hx⟩, at', fun b hb => ?_⟩
    exact (upd_ne (Nat.ne_of_lt (at_.lt b hb))).trans (own b hb).1
  done := by
    rintro X rfl rfl rfl calm i pins s σ H E I own at_ ⟨xs, sq, hx⟩
    obtain ⟨its, rel, tup, _⟩ := I.tuple sq
    obtain ⟨old, cnt⟩ := at_.counts
    have all : its.toArray.size = i := by rw [List.size_toArray, ← rel.length, hx]
    obtain ⟨o0, o1, _, o3, o4, o5⟩ := own it (.tail _ (.head _))
    exact wpAny_pyNext_enum_endD (Draws.tuple (show X.A.in1.handled = none from I.ok.hd calm) it a at_.apart.2.2 its.toArray) (i := (i : Int)) cnt (by rw [all]; exact ⟨at_.draws, tup⟩) fun h' but => ⟨rfl, I.turned (t' := s.toks) but o0 o1 o3 o4 o5⟩
def iEnumA (K : PySem.W.Frag) (ta : TA) : TI := fun σ H R => ta σ H fun vs H1 => ∃ a xs, vs = [.ref a] ∧ ((SqL K H1 a xs ∧ R (Ite K a) H1) ∨ (SqT K H1 a xs ∧ R (IteT K a) H1))
theorem pi_enumA {X : Cx} {e : Expr} {ta : TA} {p pos tpos : Pos} {elts : List Expr} {kk : Nat} (hg : Gl X "enumerate") (hm : X.mg "enumerate" = none) (ha : PA X [e] ta) (hs : starEach [e] X.env = [(false, eval e X.env)] := by rfl) :
    PI X (.Tuple elts kk tpos) (.Call (.Name "enumerate" p) [e] [] pos) (iEnumA X.K ta) where
  run pins s σ H R I h := by
    refine Call_ (ld_blt I hg hm boot_enumerate (PyProof.Rows.callWith_type1 (thn (ha.run pos pins s σ H _ I h) fun us s1 ⟨vs, H1, I1, r1, q1⟩ => ?_) hs rfl))
    obtain ⟨a, xs, rfl, q⟩ := q1
    cases r1 with | cons ra rest =>
    cases rest
    cases ra
    have room : ∀ b ∈ [s1.heap.objs.size + 1, s1.heap.objs.size], FpOk X pins H1 b := fun b hb =>
      have up : s1.heap.objs.size ≤ b := by simp only [List.mem_cons, List.not_mem_nil, or_false] at hb; omega
      I1.fpOk up (I1.hok.fresh up)
    have grown : ∀ h', (∀ b o, s1.heap.get? b = some o → h'.get? b = some o) → Inv X pins σ H1 { s1 with heap := h' } := fun h' k => I1.kept (t' := s1.toks) k
    refine q.elim (fun ⟨sq, res⟩ => ?_) fun ⟨sq, res⟩ => ?_
    · obtain ⟨its, _, lst, _⟩ := I1.list sq
      exact call_enumerate_list lst.isList fun h' cnt nxt _ k => wpAny_pyIter_enum cnt ⟨_, _, _, _, H1, rfl, grown h' k, turn_enum a _ _, ⟨⟨_, cnt⟩, nxt, Nat.succ_ne_self _⟩, room, res⟩
    · obtain ⟨its, _, tup, _⟩ := I1.tuple sq
      have la : a < s1.heap.objs.size := let ⟨_, z, _⟩ := id tup; Heap.lt_size z
      have B := begins_tuple a its.toArray
      refine callType_new F.called_enumerate (by decide) (F.typeCall_enumerate_1 _) (F.newCall_enumerate_1 _) (fun obj => F.args_object_init_2 obj _) F.entry_enumerate_new (enum_lays B) ⟨tup, ?_⟩
      have sz : (s1.heap.push { cls := .type "tuple_iterator", data := .fields #[.ref a, .int 0 0] }).objs.size = s1.heap.objs.size + 1 := Heap.size_push ..
      have at1 : IsEnum ((s1.heap.push { cls := .type "tuple_iterator", data := .fields #[.ref a, .int 0 0] }).push (enumO s1.heap.objs.size)) (s1.heap.objs.size + 1) s1.heap.objs.size 0 .none := by
        have z := Heap.get?_push_size (s1.heap.push { cls := .type "tuple_iterator", data := .fields #[.ref a, .int 0 0] }) (o := enumO s1.heap.objs.size) rfl
        rwa [sz] at z
      have at0 : EnumAt a (s1.heap.objs.size + 1) s1.heap.objs.size 0 ((s1.heap.push { cls := .type "tuple_iterator", data := .fields #[.ref a, .int 0 0] }).push (enumO s1.heap.objs.size)) :=
        ⟨⟨_, at1⟩, ⟨_, Heap.get?_push_of_some _ (Heap.get?_push_size _ rfl), rfl, rfl⟩, Nat.succ_ne_self _, Nat.ne_of_gt (Nat.lt_succ_of_lt la), Nat.ne_of_lt la⟩
      exact ⟨⟨_, at1, rfl⟩, wpAny_pyIter_enum at1 ⟨_, _, _, _, H1, rfl, grown _ fun b o z => Heap.get?_push_of_some _ (Heap.get?_push_of_some _ z), turn_enumT a _ _, at0, room, res⟩⟩
variable {B : Bs}
theorem serves_enumT {a : Addr} {k : List D} : Serves B (IteT B.K a) ⟨k.zipIdx.map fun p => D.tup [.int (p.2 : Int), p.1], none⟩ [.ref a] [.tup k] := by
  have h : ∀ {g m H}, Rl B g m H → Dens B g H [.ref a] [.tup k] → ∃ xs, SqT B.K H a xs ∧ Dens B g H xs k := fun {g m H} R hd => by
    obtain ⟨v, e, hd⟩ := hd.one
    cases e
    cases hd with
    | tup h1 h2' => exact ⟨_, h1, h2'⟩
  refine ⟨fun g m H i R hd st hi => ?_, fun g m H R hd st => ?_, fun g m H i d' x H' R hd st hi hy => ?_⟩
  · obtain ⟨xs, h1, h2⟩ := h R hd
    have hi : i < (k.zipIdx.map fun p => D.tup [.int (p.2 : Int), p.1]).length := hi
    rw [List.length_map, List.length_zipIdx] at hi
    obtain ⟨v, e1, _⟩ := h2.get (List.getElem?_eq_getElem hi)
    exact ⟨xs, v, h1, e1⟩
  · obtain ⟨xs, h1, h2⟩ := h R hd
    refine ⟨xs, h1, ?_⟩
    show xs.length = (k.zipIdx.map fun p => D.tup [.int (p.2 : Int), p.1]).length
    rw [List.length_map, List.length_zipIdx, h2.length]
  · obtain ⟨xs, h1, h2⟩ := h R hd
    obtain ⟨T, x1, rfl, nT, rfl, f1⟩ := hy
    rw [List.getElem?_map] at hi
    obtain ⟨p, hp, rfl⟩ := Option.map_eq_some_iff.mp hi
    rw [List.getElem?_zipIdx] at hp
    obtain ⟨q, hq, rfl⟩ := Option.map_eq_some_iff.mp hp
    have x := Ext.upd R (o := .tup [.int (i : Nat), x1]) nT
    refine ⟨x, Rl.upd R nT, .tup (SqT.of upd_same) (.cons ?_ (.cons ?_ .nil))⟩
    · simp only [Nat.zero_add]; exact .int _
    · exact (sqT_items h1 h2 hq f1).ext x R
end Z
/-! ZB: zip, targets, comprehensions. -/
namespace Z
open PySem PySem.Spec PyProof.Rows L2 RZ
variable {B : Bs} {G : Sg} {W : WE} {U : XW} {X : Cx} {g g' g1 g2 : Cfg} {H H' H1 H2 : Hp} {m m' m1 : Mem}

/-- every list and tuple that stands is of a size -/
def Sized (K : PySem.W.Frag) (H : Hp) : Prop := ∀ a xs, (SqL K H a xs ∨ SqT K H a xs) → xs.length ≤ sizeLine
theorem pa_sized {es : List Expr} {t : TA} (h : PA X es t) : PA X es (fun σ H Q => t σ H fun vs H1 => Sized X.K H1 → Q vs H1) :=
  ⟨fun pos pins s σ H Q I q => thn (h.run pos pins s σ H _ I q) fun us s1 ⟨vs, H1, I1, rv, q1⟩ => ⟨vs, H1, I1, rv, q1 fun a xs z => by
    rcases z with z | z
    · obtain ⟨_, _, _, e⟩ := I1.list z; exact e
    · obtain ⟨_, _, _, e⟩ := I1.tuple z; exact e⟩⟩
theorem iz_zip (cx : Ctx B X) {e1 e2 : Expr} {c1 c2 : Z.C} {p pos tpos : Pos} {elts : List Expr} {kk : Nat} (h1 : PE X e1 (tEv B G W c1)) (h2 : PE X e2 (tEv B G W c2)) (hg : Gl X "zip") (hm : X.mg "zip" = none) (n1 : notStar e1 = true) (n2 : notStar e2 = true) :
    PI X (.Tuple elts kk tpos) (.Call (.Name "zip" p) [e1, e2] [] pos) (tIt B G W (.zip c1 c2)) := by
  have ha : PA X [e1, e2] (tEvs B G W (.cons c1 (.cons c2 .nil))) := az_cons h1 (az_cons h2 az_nil (star_cons n2)) (star_cons n1)
  refine piI (pi_zipA hg hm (pa_sized ha) (star_cons n1) (star_none (by rw [List.all_cons, n2]; rfl))) fun σ H R ⟨g, m, e, Rr, E, p⟩ => ⟨g, m, e, Rr, E, ?_⟩
  unfold evalIt at p
  unfold evalCs
  refine Post.imp (R := fun g' m' H' ds => ∃ a b, ds = [a, b] ∧ Post B g' H' (W σ e) (fun g' m' H' S => ∀ J vs ds, Serves B J S vs ds → Dens B g' H' vs ds → S.stays m' = true → S.items.length ≤ sizeLine → R J H') (lift (zipS m' a b) m')) ?_ fun g1 m1 H1 ds x R1 _ ⟨a, b, e1, q⟩ vs hvs sz => ?_
  · cases k1 : evalC G c1 e m with
    | bad => rw [k1] at p; exact p
    | exc x m' => rw [k1] at p; exact p
    | ok a m1 =>
      rw [k1, Out.bind_ok] at p
      rw [Out.bind_ok]
      unfold evalCs
      cases k2 : evalC G c2 e m1 with
      | bad => rw [k2] at p; exact p
      | exc x m' => rw [k2] at p; exact p
      | ok b m2 =>
        rw [k2, Out.bind_ok] at p
        rw [Out.bind_ok, evalCs_nil, Out.bind_ok, Out.bind_ok]
        exact fun g' H' x r => ⟨a, b, rfl, Post.ext x p⟩
  · subst e1
    obtain ⟨S, eS, q⟩ := q.lifted
    have q := q g1 H1 (Ext.refl _ _) R1
    obtain ⟨v, w, rfl, hv, hw⟩ := hvs.two
    have K := cx.K
    rw [K]
    unfold zipS at eS
    cases hv with
    | @tup a xs l hx1 hx2 =>
      cases hw with
      | @tup b ys k hy1 hy2 =>
        refine ⟨a, b, xs, ys, rfl, .inr ⟨hx1, hy1, ?_⟩⟩
        have s1 := sz a xs (.inr (by rw [K]; exact hx1))
        cases eS
        exact q _ _ _ serves_zipT (.cons (.tup hx1 hx2) (.cons (.tup hy1 hy2) .nil)) rfl (by
          have hh : xs.length = l.length := hx2.length
          simp only [List.length_map, List.length_zip]
          omega)
      | _ => simp at eS
    | @lst a xs l f1 hx1 hx2 =>
      cases hw with
      | @lst b ys k f2 hy1 hy2 =>
        refine ⟨a, b, xs, ys, rfl, .inl ⟨SqL.of hx1, SqL.of hy1, ?_⟩⟩
        have s1 := sz a xs (.inl (SqL.of hx1))
        cases eS
        exact q _ _ _ serves_zipL (.cons (.lst f1 hx1 hx2) (.cons (.lst f2 hy1 hy2) .nil)) rfl (by
          have hh : xs.length = l.length := hx2.length
          simp only [List.length_map, List.length_zip]
          omega)
      | _ => simp at eS
    | _ => simp at eS

theorem iz_enum (cx : Ctx B X) {a : Expr} {ca : Z.C} {p pos tpos : Pos} {elts : List Expr} {kk : Nat} (h1 : PE X a (tEv B G W ca)) (hg : Gl X "enumerate") (hm : X.mg "enumerate" = none) (n1 : notStar a = true) :
    PI X (.Tuple elts kk tpos) (.Call (.Name "enumerate" p) [a] [] pos) (tIt B G W (.enum ca)) := by
  have ha : PA X [a] (tEvs B G W (.cons ca .nil)) := az_cons h1 az_nil (star_cons n1)
  refine piI (pi_enumA hg hm (pa_sized ha) (star_cons n1)) fun σ H R ⟨g, m, e, Rr, E, p⟩ => ⟨g, m, e, Rr, E, ?_⟩
  rw [evalIt] at p
  rw [evalCs]
  cases k1 : evalC G ca e m with
  | bad => rw [k1] at p; exact p
  | exc x m' => rw [k1] at p; exact p
  | ok d m1 =>
    rw [k1, Out.bind_ok] at p
    rw [Out.bind_ok, evalCs_nil, Out.bind_ok]
    intro g1 H1 x R1 vs hvs sz
    obtain ⟨S, eS, q⟩ := (Post.ext x p).lifted
    have q := q g1 H1 (Ext.refl _ _) R1
    obtain ⟨v, rfl, hv⟩ := hvs.one
    have K := cx.K
    rw [K]
    cases d with
    | lst l =>
      simp only [enumS, Option.some.injEq] at eS
      subst eS
      cases hv with
      | @lst A xs _ f h1 h2 =>
        refine ⟨A, xs, rfl, .inl ⟨SqL.of h1, ?_⟩⟩
        have s1 := sz A xs (.inl (SqL.of h1))
        exact q _ _ _ serves_enum (.cons (.lst f h1 h2) .nil) rfl (by
          have hh : xs.length = l.length := h2.length
          simp only [List.length_map, List.length_zipIdx]
          omega)
    | tup l =>
      simp only [enumS, Option.some.injEq] at eS
      subst eS
      cases hv with
      | @tup A xs _ h1 h2 =>
        refine ⟨A, xs, rfl, .inr ⟨h1, ?_⟩⟩
        have s1 := sz A xs (.inr (by rw [K]; exact h1))
        exact q _ _ _ serves_enumT (.cons (.tup h1 h2) .nil) rfl (by
          have hh : xs.length = l.length := h2.length
          simp only [List.length_map, List.length_zipIdx]
          omega)
    | _ => simp [enumS] at eS
/-! ### targets -/
def Ts.len : Ts → Nat
  | .nil => 0
  | .cons _ l => l.len + 1
/-- slots forgotten that differ alone -/
def SameBut (σ2 σ : L2.St) (is : List Nat) : Prop := ∀ vs : List Nat, (∀ i ∈ is, i ∈ vs) → L2.wipe σ2 vs = L2.wipe σ vs
theorem wipe_set {σ : L2.St} {i : Nat} {o : Option V} : ∀ {vs : List Nat}, i ∈ vs → L2.wipe (σ.set i o) vs = L2.wipe σ vs
  | [], h => (by simp at h)
  | v :: vs, h => by
    have push : ∀ {σ : L2.St} {o : Option V} (vs : List Nat) (i : Nat), i ∉ vs → L2.wipe (σ.set i o) vs = (L2.wipe σ vs).set i o := by
      intro σ o vs
      induction vs with
      | nil => intros; rfl
      | cons w ws ih =>
        intro i hi
        simp only [List.mem_cons, not_or] at hi
        unfold L2.wipe
        rw [ih i hi.2, List.set_comm _ _ hi.1]
    unfold L2.wipe
    by_cases hv : i ∈ vs
    · rw [wipe_set hv]
    · have e : i = v := by
        rcases List.mem_cons.mp h with h | h
        · exact h
        · exact absurd h hv
      subst e
      rw [push vs i hv, List.set_set]
theorem wipe_gone {σ : L2.St} : ∀ (vs : List Nat) (i : Nat), i ∈ vs → (L2.wipe σ vs).set i none = L2.wipe σ vs
  | [], i, hi => by simp at hi
  | w :: ws, i, hi => by
    unfold L2.wipe
    by_cases ew : i = w
    · subst ew; rw [List.set_set]
    · rw [List.set_comm _ _ (Ne.symm ew), wipe_gone ws i (by
        rcases List.mem_cons.mp hi with h | h
        · exact absurd h ew
        · exact h)]
theorem wipe_two {σ : L2.St} {own : List Nat} : ∀ ws : List Nat, (∀ i ∈ ws, i ∈ own) → L2.wipe (L2.wipe σ own) ws = L2.wipe σ own
  | [], _ => rfl
  | w :: ws, hw => by
    have q : L2.wipe (L2.wipe σ own) ws = L2.wipe σ own := wipe_two ws fun i hi => hw i (List.mem_cons_of_mem _ hi)
    show (L2.wipe (L2.wipe σ own) ws).set w none = _
    rw [q]
    exact wipe_gone own w (hw w (List.mem_cons_self ..))
theorem SameBut.app {σ2 σ1 σ : L2.St} {is js : List Nat} (h : SameBut σ2 σ1 js) (k : SameBut σ1 σ is) : SameBut σ2 σ (is ++ js) := fun vs hv => by
  rw [h vs fun j hj => hv j (List.mem_append_right _ hj), k vs fun j hj => hv j (List.mem_append_left _ hj)]
def tG (B : Bs) (t : T) : TG := fun v σ H k => ∃ g m e d e', Rl B g m H ∧ EnvR B g H σ e ∧ Den B g H v d ∧ t.bind d e = some e' ∧ ∀ σ2, EnvR B g H σ2 e' → SameBut σ2 σ t.ixs → k σ2 H
theorem pgI {tg : Expr} {t t' : TG} (h : PG X tg t) (i : ∀ v σ H Q, t' v σ H Q → t v σ H Q) : PG X tg t' := ⟨fun pins s σ H v u Q I r q => h.run pins s σ H v u Q I r (i v σ H Q q)⟩
theorem pgsI {tg : List Expr} {t t' : TGs} (h : PGs X tg t) (i : ∀ v σ H Q, t' v σ H Q → t v σ H Q) : PGs X tg t' := ⟨fun pins s σ H v u Q I r q => h.run pins s σ H v u Q I r (i v σ H Q q)⟩
/-- a name of the place -/
structure NmAt (X : Cx) (i : Nat) (x : Str) : Prop where
  ix : X.N[i]? = some x
  lc : Loc X.env.scope x
  fn : X.fn x = true ∨ X.env.scope.names.lookup x = some .local
theorem gz_name (cx : Ctx B X) {i : Nat} {x : Str} {pos : Pos} (n : NmAt X i x) : PG X (.Name x pos) (tG B (.nm i)) := by
  refine pgI (pg_name cx.nd n.ix n.lc n.fn) fun v σ H Q ⟨g, m, e, d, e', R, E, hv, hb, k⟩ => ?_
  rw [T.bind, Option.some.injEq] at hb
  subst hb
  exact k _ (E.set i hv) fun vs hv => wipe_set (hv i (List.mem_cons_self ..))
def tGs (B : Bs) (l : Ts) : TGs := fun vs σ H k => ∃ g m e ds e', Rl B g m H ∧ EnvR B g H σ e ∧ Dens B g H vs ds ∧ l.bind ds e = some e' ∧ ∀ σ2, EnvR B g H σ2 e' → SameBut σ2 σ l.ixs → k σ2 H
/-- several targets -/
structure PGz (B : Bs) (X : Cx) (es : List Expr) (l : Ts) : Prop where
  pgs : PGs X es (tGs B l)
  len : (assignEach es X.env).length = l.len
  non : (assignEach es X.env).findIdx? (·.1) = none
theorem asg_cons {e : Expr} {es : List Expr} {env : PySem.Env} (h : notStar e = true) : assignEach (e :: es) env = (false, assign e env) :: assignEach es env := by
  cases e <;> first | rfl | (exact absurd h (by simp [notStar]))
theorem pgz_nil : PGz B X [] .nil := by
  refine ⟨pgsI pgs_nil fun vs σ H Q ⟨g, m, e, ds, e', R, E, hv, hb, k⟩ => ?_, rfl, rfl⟩
  cases ds with
  | nil =>
    cases hv
    rw [Ts.bind] at hb
    cases hb
    exact ⟨rfl, k _ E fun _ _ => rfl⟩
  | cons d ds => rw [Ts.bind] at hb; cases hb
theorem pgz_cons {x : Expr} {es : List Expr} {t : T} {l : Ts} (hn : notStar x = true) (h : PG X x (tG B t)) (r : PGz B X es l) : PGz B X (x :: es) (.cons t l) := by
  refine ⟨pgsI (pgs_cons h r.pgs (by rw [asg_cons hn]; rfl)) fun vs σ H Q ⟨g, m, e, ds, e', R, E, hv, hb, k⟩ => ?_, by rw [asg_cons hn, List.length_cons, r.len]; rfl, by rw [asg_cons hn, List.findIdx?_cons, r.non]; rfl⟩
  cases ds with
  | nil => rw [Ts.bind] at hb; cases hb
  | cons d ds =>
    rw [Ts.bind] at hb
    cases hb1 : t.bind d e with
    | none => rw [hb1] at hb; cases hb
    | some e1 =>
      rw [hb1] at hb
      cases hv with
      | cons hv hvs => exact ⟨_, _, rfl, g, m, e, d, e1, R, E, hv, hb1, fun σ1 E1 s1 => ⟨g, m, e1, ds, e', R, E1, hvs, hb, fun σ2 E2 s2 => k σ2 E2 (s2.app s1)⟩⟩
theorem ts_len : ∀ {l : Ts} {ds : List D} {e e' : Env}, l.bind ds e = some e' → ds.length = l.len
  | .nil, [], _, _, _ => rfl
  | .cons t l, d :: ds, e, e', h => by
    rw [Ts.bind] at h
    cases hb1 : t.bind d e with
    | none => rw [hb1] at h; cases h
    | some e1 =>
      rw [hb1] at h
      rw [List.length_cons, ts_len h]
      rfl
  | .nil, _ :: _, _, _, h => by rw [Ts.bind] at h; cases h
  | .cons _ _, [], _, _, h => by rw [Ts.bind] at h; cases h
theorem gz_tup (cx : Ctx B X) {es : List Expr} {l : Ts} {k : Nat} {pos : Pos} (n : PGz B X es l) : PG X (.Tuple es k pos) (tG B (.tp l)) := by
  refine pgI (pg_tup cx.calm n.pgs n.len n.non) fun v σ H Q ⟨g, m, e, d, e', R, E, hv, hb, k⟩ => ?_
  rw [cx.K]
  cases d with
  | tup ds =>
    rw [T.bind] at hb
    cases hv with
    | tup hs hd =>
      refine ⟨_, _, rfl, hs, ?_, g, m, e, _, e', R, E, hd, hb, k⟩
      rw [hd.length]
      exact ts_len hb
  | _ => simp [T.bind] at hb

/-! ### comprehensions -/
def tIfs (B : Bs) (G : Sg) (W : WE) (l : Cs) : TT := fun σ H Q => ∃ g m e, Rl B g m H ∧ EnvR B g H σ e ∧
  Post B g H (W σ e) (fun g' m' H' k => Q k H') (evalIfs G l e m)
theorem ptsI {es : List Expr} {t t' : TT} (h : PTs X es t) (i : ∀ σ H Q, t' σ H Q → t σ H Q) : PTs X es t' := ⟨fun pins s σ H Q I q => h.run pins s σ H Q I (i σ H Q q)⟩
theorem fz_nil : PTs X [] (tIfs B G W .nil) := by
  refine ptsI pts_nil fun σ H Q ⟨g, m, e, R, E, p⟩ => ?_
  unfold evalIfs at p
  exact p.ok0 R
theorem fz_one {c : Expr} {z : Z.C} (h : PT X c (tEvT B G W z)) : PTs X [c] (tIfs B G W (.cons z .nil)) := by
  refine ptsI (pts_one h) fun σ H Q ⟨g, m, e, R, E, p⟩ => ⟨g, m, e, R, E, ?_⟩
  unfold evalT
  unfold evalIfs at p
  cases h1 : evalC G z e m with
  | bad => rw [h1] at p; exact p
  | exc x m' => rw [h1] at p; exact p
  | ok d m1 =>
    rw [h1, Out.bind_ok] at p
    rw [Out.bind_ok]
    cases h2 : asBl d m1 with
    | bad => rw [h2] at p; exact p
    | exc x m' => rw [h2] at p; exact p
    | ok k m2 =>
      rw [h2, Out.bind_ok] at p
      cases k with
      | true =>
        simp only [if_true] at p
        unfold evalIfs at p
        exact p
      | false => exact p
def XF : WE := fun _ _ _ _ _ _ => False
theorem Ext.was (x : Ext g H g' H') {a : Addr} (h : H' a = none) : H a = none := by
  cases e : H a with
  | none => rfl
  | some o => exact absurd h (x.trk a (by rw [e]; simp))
/-- what stands new at p since g H is changed -/
theorem Ext.later (x : Ext g H g' H') {p : Addr} (hp : H p = none) {o : HO} : Ext g H g' (L2.upd H' p o) :=
  ⟨x.pre, x.sub, fun a o' h hn => by rw [upd_ne (ne_of_none h hp)]; exact x.keep a o' h hn, x.newF, x.newA, fun a h => by
    by_cases e : a = p
    · subst e; rw [upd_same]; simp
    · rw [upd_ne e]; exact x.trk a h⟩
theorem lc_read {it elt : Z.C} {t : T} {ifs : Cs} {own : List Nat} {σ : L2.St} {H : Hp} {Q : VK} (ho : ∀ i ∈ t.ixs, i ∈ own) (h : tEvF B G W (.comp own elt t it ifs) σ H Q) : tLc (tIt B G W it) (tG B t) (tIfs B G XF ifs) (tEv B G XF elt) own σ H Q := by
  obtain ⟨g, m, e, R, E, p⟩ := h
  refine ⟨g, m, e, R, E, ?_⟩
  unfold evalC at p
  cases hE : evalIt G it e m with
  | bad => rw [hE] at p; exact p
  | exc x m' => rw [hE] at p; exact p
  | ok S m1 =>
  rw [hE, Out.bind_ok] at p
  intro g1 H1 x1 R1 J vs ds sv hd st0 sz D hD
  cases hG : compGo S.stays (fun e m => evalC G elt e m) (fun e m => evalIfs G ifs e m) t S.items (Z.wipe e own) m1 with
  | bad => rw [hG] at p; exact p.elim
  | exc x m' => rw [hG] at p; exact p.elim
  | ok ys mE =>
  rw [hG, Out.calm_ok, Out.bind_ok] at p
  have E1 := E.ext x1 R
  have nf : ¬ g1.fz D := R1.fzNone hD
  refine ⟨fun i k Hc => k = S.items.length - i ∧ ∃ g' m' acc tail xs, Rl B g' m' Hc ∧ Ext g1 H1 g' Hc ∧ D ∉ g'.al ∧ ¬ g'.fz D ∧ Hc D = some (.lst xs) ∧ Dens B g' Hc xs acc ∧ acc.length ≤ i ∧ i ≤ S.items.length ∧
    compGo S.stays (fun e m => evalC G elt e m) (fun e m => evalIfs G ifs e m) t (S.items.drop i) (Z.wipe e own) m' = .ok tail mE ∧ acc ++ tail = ys,
    ⟨_, rfl, g1, m1, [], ys, [], Rl.upd R1 hD, Ext.upd R1 hD, R1.notIn hD, nf, upd_same, .nil, Nat.zero_le _, Nat.zero_le _, hG, rfl⟩, ?_⟩
  rintro i k Hc ⟨rfl, g', m', acc, tail, xs, R', x', na', nf', hx, hxs, hlen, hi, go, ey⟩
  have hds := (hd.ext x' R1)
  have E' : EnvR B g' Hc (L2.wipe σ own) (Z.wipe e own) := (E1.ext x' R1).wipe own
  by_cases hlt : i < S.items.length
  · right
    rw [List.drop_eq_getElem_cons hlt] at go
    unfold compGo at go
    by_cases hst : S.stays m' = true
    · rw [if_pos hst] at go
      refine ⟨sv.go g' m' Hc i R' hds hst hlt, fun H' => ∃ k', k' < S.items.length - i ∧ k' = S.items.length - (i + 1) ∧ ∃ g' m' acc tail xs, Rl B g' m' H' ∧ Ext g1 H1 g' H' ∧ D ∉ g'.al ∧ ¬ g'.fz D ∧ H' D = some (.lst xs) ∧ Dens B g' H' xs acc ∧ acc.length ≤ i + 1 ∧ i + 1 ≤ S.items.length ∧
    compGo S.stays (fun e m => evalC G elt e m) (fun e m => evalIfs G ifs e m) t (S.items.drop (i + 1)) (Z.wipe e own) m' = .ok tail mE ∧ acc ++ tail = ys, fun H' ⟨k', h1, h2⟩ => ⟨k', h1, h2⟩, fun v Hy hy => ?_⟩
      obtain ⟨xy, Ry, hv⟩ := sv.yld g' m' Hc i _ v Hy R' hds hst (List.getElem?_eq_getElem hlt) hy
      cases hb : t.bind S.items[i] (Z.wipe e own) with
      | none => rw [hb] at go; cases go
      | some e2 =>
      rw [hb] at go
      dsimp only at go
      refine ⟨g', m', Z.wipe e own, _, e2, Ry, E'.ext xy R', hv, hb, fun σ2 E2 s2 => ⟨s2 own ho |>.trans ?_, ?_⟩⟩
      · exact wipe_two own fun _ h => h
      · refine ⟨g', m', e2, Ry, E2, ?_⟩
        cases hI : evalIfs G ifs e2 m' with
        | bad => rw [hI] at go; cases go
        | exc x m2 => rw [hI] at go; cases go
        | ok b m2 =>
        rw [hI, Out.bind_ok] at go
        intro g2 H2 x2 R2
        have y2 := xy.trans x2
        have hx2 : H2 D = some (.lst xs) := y2.keep D _ hx na'
        have na2 : D ∉ g2.al := fun z => (y2.newA D z).elim na' fun z => by rw [hx] at z; cases z
        have nf2 : ¬ g2.fz D := fun z => (y2.newF D z).elim nf' fun z => by rw [hx] at z; cases z
        cases b with
        | false =>
          simp only [Bool.false_eq_true, if_false] at go ⊢
          exact ⟨_, by omega, rfl, g2, m2, acc, tail, xs, R2, x'.trans y2, na2, nf2, hx2, hxs.ext y2 R', by omega, hlt, go, ey⟩
        | true =>
          simp only [if_true] at go ⊢
          refine ⟨g2, m2, e2, R2, E2.ext x2 Ry, ?_⟩
          cases hC : evalC G elt e2 m2 with
          | bad => rw [hC] at go; cases go
          | exc x m3 => rw [hC] at go; cases go
          | ok d m3 =>
          rw [hC, Out.bind_ok] at go
          cases hT : compGo S.stays (fun e m => evalC G elt e m) (fun e m => evalIfs G ifs e m) t (S.items.drop (i + 1)) (Z.wipe e own) m3 with
          | bad => rw [hT] at go; cases go
          | exc x m4 => rw [hT] at go; cases go
          | ok tl m4 =>
          rw [hT, Out.bind_ok] at go
          cases go
          intro g3 H3 x3 R3 w hw
          have y3 := y2.trans x3
          have hx3 : H3 D = some (.lst xs) := y3.keep D _ hx na'
          have na3 : D ∉ g3.al := fun z => (y3.newA D z).elim na' fun z => by rw [hx] at z; cases z
          have nf3 : ¬ g3.fz D := fun z => (y3.newF D z).elim nf' fun z => by rw [hx] at z; cases z
          have hxs3 := hxs.ext y3 R'
          obtain ⟨mo, R4⟩ := R3.updOut (o := .lst (xs ++ [w])) hx3 rfl na3 nf3
          refine ⟨xs, hx3, by rw [hxs.length]; omega, _, by omega, rfl, g3, m3, acc ++ [d], tl, xs ++ [w], R4, (x'.trans y3).later hD, na3, nf3, upd_same, (hxs3.append (.cons hw .nil)).mon mo R3, by rw [List.length_append, List.length_singleton]; omega, hlt, hT, by rw [List.append_assoc]; exact ey⟩
    · rw [if_neg hst] at go; cases go
  · left
    have hi2 : i = S.items.length := by omega
    subst hi2
    rw [List.drop_length] at go
    unfold compGo at go
    by_cases hst : S.stays m' = true
    · rw [if_pos hst] at go
      cases go
      rw [List.append_nil] at ey
      subst ey
      exact ⟨sv.stop g' _ Hc R' hds hst, p g' Hc (x1.trans x') R' D ⟨x1.was hD, nf', na', xs, hx, hxs⟩⟩
    · rw [if_neg hst] at go; cases go
/-- a block within a place -/
abbrev Blk (X : Cx) (scope : Scope) (s : Shared) (H : Hp) (C : Addr) (cl : List (PySem.Str × Addr)) (fp : List Addr) : Cx := X.blk s H scope (compEnvC scope cl C X.env) fp
theorem pf_comp (cx : Ctx B X) {elt tg iter : Expr} {ifs : List Expr} {scope : Scope} {own : List (Str × Nat)} {pos : Pos} {it c : Z.C} {t : T} {l : Cs} (hi : PI X tg iter (tIt B G W it)) (ok : BlkOk X.N X.env.scope scope own)
    (hg : ∀ s H C cl fp, PG (Blk X scope s H C cl fp) tg (tG B t)) (ht : ∀ s H C cl fp, PTs (Blk X scope s H C cl fp) ifs (tIfs B G XF l)) (he : ∀ s H C cl fp, PE (Blk X scope s H C cl fp) elt (tEv B G XF c))
    (hs : ∀ x, foldedSetIterable iter X.env x = pure x) (ho : ∀ i ∈ t.ixs, i ∈ own.map (·.2)) : PE X (.ListComp elt [⟨tg, iter, ifs, 0⟩] scope pos) (tEvF B G W (.comp (own.map (·.2)) c t it l)) :=
  peI (pe_lc cx.calm cx.nd hi ok hg ht he hs) fun σ H Q h => lc_read ho h
/-- two walks, one within the other -/
theorem lc2_read {it elt it1 : Z.C} {t t1 : T} {ifs ifs1 : Cs} {own : List Nat} {σ : L2.St} {H : Hp} {Q : VK} (ho : ∀ i ∈ t.ixs, i ∈ own) (h : tEvF B G W (.comp2 own elt t it ifs t1 it1 ifs1) σ H Q) :
    tLc2 (tIt B G W it) (tG B t) (tIfs B G XF ifs) (tIt B G XF it1) (tG B t1) (tIfs B G XF ifs1) (tEv B G XF elt) own t1.ixs σ H Q := by
  obtain ⟨g, m, e, R, E, p⟩ := h
  refine ⟨g, m, e, R, E, ?_⟩
  unfold evalC at p
  cases hE : evalIt G it e m with
  | bad => rw [hE] at p; exact p
  | exc x m' => rw [hE] at p; exact p
  | ok S m1 =>
  rw [hE, Out.bind_ok] at p
  intro g1 H1 x1 R1 J vs ds sv hd st0 sz D hD
  generalize hF : (fun (e : Env) (m : Mem) => (evalIt G it1 e m).bind fun s1 m => compGo s1.stays (fun e m => evalC G elt e m) (fun e m => evalIfs G ifs1 e m) t1 s1.items (Z.wipe e t1.ixs) m) = F at p
  cases hG : compGoL S.stays F (fun e m => evalIfs G ifs e m) t S.items (Z.wipe e own) m1 with
  | bad => rw [hG] at p; exact p.elim
  | exc x m' => rw [hG] at p; exact p.elim
  | ok ys mE =>
  rw [hG, Out.calm_ok, Out.bind_ok] at p
  split at p
  case isFalse => exact p.elim
  rename_i hys
  have E1 := E.ext x1 R
  have nf : ¬ g1.fz D := R1.fzNone hD
  refine ⟨fun i k Hc => k = S.items.length - i ∧ ∃ g' m' acc tail xs, Rl B g' m' Hc ∧ Ext g1 H1 g' Hc ∧ D ∉ g'.al ∧ ¬ g'.fz D ∧ Hc D = some (.lst xs) ∧ Dens B g' Hc xs acc ∧ i ≤ S.items.length ∧
    compGoL S.stays F (fun e m => evalIfs G ifs e m) t (S.items.drop i) (Z.wipe e own) m' = .ok tail mE ∧ acc ++ tail = ys,
    ⟨_, rfl, g1, m1, [], ys, [], Rl.upd R1 hD, Ext.upd R1 hD, R1.notIn hD, nf, upd_same, .nil, Nat.zero_le _, hG, rfl⟩, ?_⟩
  rintro i k Hc ⟨rfl, g', m', acc, tail, xs, R', x', na', nf', hx, hxs, hi, go, ey⟩
  have hds := (hd.ext x' R1)
  have E' : EnvR B g' Hc (L2.wipe σ own) (Z.wipe e own) := (E1.ext x' R1).wipe own
  by_cases hlt : i < S.items.length
  · right
    rw [List.drop_eq_getElem_cons hlt] at go
    unfold compGoL at go
    by_cases hst : S.stays m' = true
    · rw [if_pos hst] at go
      refine ⟨sv.go g' m' Hc i R' hds hst hlt, fun H' => ∃ k', k' < S.items.length - i ∧ k' = S.items.length - (i + 1) ∧ ∃ g' m' acc tail xs, Rl B g' m' H' ∧ Ext g1 H1 g' H' ∧ D ∉ g'.al ∧ ¬ g'.fz D ∧ H' D = some (.lst xs) ∧ Dens B g' H' xs acc ∧ i + 1 ≤ S.items.length ∧
    compGoL S.stays F (fun e m => evalIfs G ifs e m) t (S.items.drop (i + 1)) (Z.wipe e own) m' = .ok tail mE ∧ acc ++ tail = ys, fun H' ⟨k', h1, h2⟩ => ⟨k', h1, h2⟩, fun v Hy hy => ?_⟩
      obtain ⟨xy, Ry, hv⟩ := sv.yld g' m' Hc i _ v Hy R' hds hst (List.getElem?_eq_getElem hlt) hy
      cases hb : t.bind S.items[i] (Z.wipe e own) with
      | none => rw [hb] at go; cases go
      | some e2 =>
      rw [hb] at go
      dsimp only at go
      refine ⟨g', m', Z.wipe e own, _, e2, Ry, E'.ext xy R', hv, hb, fun σ2 E2 s2 => ⟨s2 own ho |>.trans ?_, ?_⟩⟩
      · exact wipe_two own fun _ h => h
      · refine ⟨g', m', e2, Ry, E2, ?_⟩
        cases hI : evalIfs G ifs e2 m' with
        | bad => rw [hI] at go; cases go
        | exc x m2 => rw [hI] at go; cases go
        | ok b m2 =>
        rw [hI, Out.bind_ok] at go
        intro g2 H2 x2 R2
        have y2 := xy.trans x2
        have hx2 : H2 D = some (.lst xs) := y2.keep D _ hx na'
        have na2 : D ∉ g2.al := fun z => (y2.newA D z).elim na' fun z => by rw [hx] at z; cases z
        have nf2 : ¬ g2.fz D := fun z => (y2.newF D z).elim nf' fun z => by rw [hx] at z; cases z
        cases b with
        | false =>
          simp only [Bool.false_eq_true, if_false] at go ⊢
          exact ⟨_, by omega, rfl, g2, m2, acc, tail, xs, R2, x'.trans y2, na2, nf2, hx2, hxs.ext y2 R', hlt, go, ey⟩
        | true =>
          simp only [if_true] at go ⊢
          refine ⟨g2, m2, e2, R2, E2.ext x2 Ry, ?_⟩
          cases hFe : F e2 m2 with
          | bad => rw [hFe] at go; cases go
          | exc x m3 => rw [hFe] at go; cases go
          | ok in1 m3 =>
          rw [hFe, Out.bind_ok] at go
          cases hT : compGoL S.stays F (fun e m => evalIfs G ifs e m) t (S.items.drop (i + 1)) (Z.wipe e own) m3 with
          | bad => rw [hT] at go; cases go
          | exc x m4 => rw [hT] at go; cases go
          | ok tl m4 =>
          rw [hT, Out.bind_ok] at go
          cases go
          rw [← hF] at hFe
          dsimp only at hFe
          cases hI1 : evalIt G it1 e2 m2 with
          | bad => rw [hI1] at hFe; cases hFe
          | exc x m5 => rw [hI1] at hFe; cases hFe
          | ok S1 m5 =>
          rw [hI1, Out.bind_ok] at hFe
          intro g3 H3 x3 R3 J1 vs1 ds1 sv1 hd1 st1 sz1
          have y3 := y2.trans x3
          have hx3 : H3 D = some (.lst xs) := y3.keep D _ hx na'
          have na3 : D ∉ g3.al := fun z => (y3.newA D z).elim na' fun z => by rw [hx] at z; cases z
          have nf3 : ¬ g3.fz D := fun z => (y3.newF D z).elim nf' fun z => by rw [hx] at z; cases z
          have E3 : EnvR B g3 H3 σ2 e2 := (E2.ext x2 Ry).ext x3 R2
          have hD3 : Ext g1 H1 g3 H3 := x'.trans y3
          refine ⟨fun j k Hc => k = S1.items.length - j ∧ ∃ g' m' a1 tail1 xs, Rl B g' m' Hc ∧ Mon g3 H3 g' Hc ∧ Ext g1 H1 g' Hc ∧ D ∉ g'.al ∧ ¬ g'.fz D ∧ Hc D = some (.lst xs) ∧ Dens B g' Hc xs (acc ++ a1) ∧ j ≤ S1.items.length ∧
            compGo S1.stays (fun e m => evalC G elt e m) (fun e m => evalIfs G ifs1 e m) t1 (S1.items.drop j) (Z.wipe e2 t1.ixs) m' = .ok tail1 m3 ∧ a1 ++ tail1 = in1,
            ⟨_, rfl, g3, m5, [], in1, xs, R3, (Ext.refl g3 H3).toMon R3, hD3, na3, nf3, hx3, by rw [List.append_nil]; exact hxs.ext y3 R', Nat.zero_le _, hFe, rfl⟩, ?_⟩
          rintro j k Hd ⟨rfl, g4, m6, a1, tail1, xs4, R4, mo4, x4, na4, nf4, hx4, hxs4, hj, go1, ey1⟩
          have hds1 := hd1.mon mo4 R3
          have E4 : EnvR B g4 Hd (L2.wipe σ2 t1.ixs) (Z.wipe e2 t1.ixs) := (E3.mon mo4 R3).wipe t1.ixs
          by_cases hlt1 : j < S1.items.length
          · right
            rw [List.drop_eq_getElem_cons hlt1] at go1
            unfold compGo at go1
            by_cases hst1 : S1.stays m6 = true
            · rw [if_pos hst1] at go1
              refine ⟨sv1.go g4 m6 Hd j R4 hds1 hst1 hlt1, fun H' => ∃ k', k' < S1.items.length - j ∧ k' = S1.items.length - (j + 1) ∧ ∃ g' m' a1 tail1 xs, Rl B g' m' H' ∧ Mon g3 H3 g' H' ∧ Ext g1 H1 g' H' ∧ D ∉ g'.al ∧ ¬ g'.fz D ∧ H' D = some (.lst xs) ∧ Dens B g' H' xs (acc ++ a1) ∧ j + 1 ≤ S1.items.length ∧
                compGo S1.stays (fun e m => evalC G elt e m) (fun e m => evalIfs G ifs1 e m) t1 (S1.items.drop (j + 1)) (Z.wipe e2 t1.ixs) m' = .ok tail1 m3 ∧ a1 ++ tail1 = in1, fun H' ⟨k', h1, h2⟩ => ⟨k', h1, h2⟩, fun v1 Hz hz => ?_⟩
              obtain ⟨xz, Rz, hv1⟩ := sv1.yld g4 m6 Hd j _ v1 Hz R4 hds1 hst1 (List.getElem?_eq_getElem hlt1) hz
              cases hb1 : t1.bind S1.items[j] (Z.wipe e2 t1.ixs) with
              | none => rw [hb1] at go1; cases go1
              | some e5 =>
              rw [hb1] at go1
              dsimp only at go1
              refine ⟨g4, m6, Z.wipe e2 t1.ixs, _, e5, Rz, E4.ext xz R4, hv1, hb1, fun σ5 E5 s5 => ⟨s5 t1.ixs (fun _ h => h) |>.trans ?_, ?_⟩⟩
              · exact wipe_two t1.ixs fun _ h => h
              · refine ⟨g4, m6, e5, Rz, E5, ?_⟩
                cases hI5 : evalIfs G ifs1 e5 m6 with
                | bad => rw [hI5] at go1; cases go1
                | exc x m7 => rw [hI5] at go1; cases go1
                | ok b m7 =>
                rw [hI5, Out.bind_ok] at go1
                intro g5 H5 x5 R5
                have y5 := xz.trans x5
                have hx5 : H5 D = some (.lst xs4) := y5.keep D _ hx4 na4
                have na5 : D ∉ g5.al := fun z => (y5.newA D z).elim na4 fun z => by rw [hx4] at z; cases z
                have nf5 : ¬ g5.fz D := fun z => (y5.newF D z).elim nf4 fun z => by rw [hx4] at z; cases z
                cases b with
                | false =>
                  simp only [Bool.false_eq_true, if_false] at go1 ⊢
                  exact ⟨_, by omega, rfl, g5, m7, a1, tail1, xs4, R5, mo4.trans (y5.toMon R4), x4.trans y5, na5, nf5, hx5, hxs4.ext y5 R4, hlt1, go1, ey1⟩
                | true =>
                  simp only [if_true] at go1 ⊢
                  refine ⟨g5, m7, e5, R5, E5.ext x5 Rz, ?_⟩
                  cases hC : evalC G elt e5 m7 with
                  | bad => rw [hC] at go1; cases go1
                  | exc x m8 => rw [hC] at go1; cases go1
                  | ok d m8 =>
                  rw [hC, Out.bind_ok] at go1
                  cases hT1 : compGo S1.stays (fun e m => evalC G elt e m) (fun e m => evalIfs G ifs1 e m) t1 (S1.items.drop (j + 1)) (Z.wipe e2 t1.ixs) m8 with
                  | bad => rw [hT1] at go1; cases go1
                  | exc x m9 => rw [hT1] at go1; cases go1
                  | ok tl1 m9 =>
                  rw [hT1, Out.bind_ok] at go1
                  cases go1
                  intro g6 H6 x6 R6 w hw
                  have y6 := y5.trans x6
                  have hx6 : H6 D = some (.lst xs4) := y6.keep D _ hx4 na4
                  have na6 : D ∉ g6.al := fun z => (y6.newA D z).elim na4 fun z => by rw [hx4] at z; cases z
                  have nf6 : ¬ g6.fz D := fun z => (y6.newF D z).elim nf4 fun z => by rw [hx4] at z; cases z
                  have hxs6 := hxs4.ext y6 R4
                  obtain ⟨mo, R7⟩ := R6.updOut (o := .lst (xs4 ++ [w])) hx6 rfl na6 nf6
                  have small : xs4.length < sizeLine := by
                    have q1 : (acc ++ a1).length < ys.length := by
                      rw [← ey, ← ey1]
                      simp only [List.length_append, List.length_cons]
                      omega
                    have := hxs4.length
                    omega
                  refine ⟨xs4, hx6, small, _, by omega, rfl, g6, m8, a1 ++ [d], tl1, xs4 ++ [w], R7, (mo4.trans (y6.toMon R4)).trans mo, (x4.trans y6).later hD, na6, nf6, upd_same, ?_, hlt1, hT1, by rw [List.append_assoc]; exact ey1⟩
                  rw [← List.append_assoc]
                  exact (hxs6.append (.cons hw .nil)).mon mo R6
            · rw [if_neg hst1] at go1; cases go1
          · left
            have hj2 : j = S1.items.length := by omega
            subst hj2
            rw [List.drop_length] at go1
            unfold compGo at go1
            by_cases hst1 : S1.stays m6 = true
            · rw [if_pos hst1] at go1
              cases go1
              rw [List.append_nil] at ey1
              subst ey1
              refine ⟨sv1.stop g4 _ Hd R4 hds1 hst1, _, by omega, rfl, g4, _, acc ++ a1, tl, xs4, R4, x4, na4, nf4, hx4, hxs4, hlt, hT, by rw [List.append_assoc]; exact ey⟩
            · rw [if_neg hst1] at go1; cases go1
    · rw [if_neg hst] at go; cases go
  · left
    have hi2 : i = S.items.length := by omega
    subst hi2
    rw [List.drop_length] at go
    unfold compGoL at go
    by_cases hst : S.stays m' = true
    · rw [if_pos hst] at go
      cases go
      rw [List.append_nil] at ey
      subst ey
      exact ⟨sv.stop g' _ Hc R' hds hst, p g' Hc (x1.trans x') R' D ⟨x1.was hD, nf', na', xs, hx, hxs⟩⟩
    · rw [if_neg hst] at go; cases go
theorem pf_comp2 (cx : Ctx B X) {elt tg iter tg1 iter1 : Expr} {ifs ifs1 : List Expr} {scope : Scope} {own : List (Str × Nat)} {pos : Pos} {it c it1 : Z.C} {t t1 : T} {l l1 : Cs} (hi : PI X tg iter (tIt B G W it)) (ok : BlkOk X.N X.env.scope scope own)
    (hg : ∀ s H C cl fp, PG (Blk X scope s H C cl fp) tg (tG B t)) (ht : ∀ s H C cl fp, PTs (Blk X scope s H C cl fp) ifs (tIfs B G XF l)) (he : ∀ s H C cl fp, PE (Blk X scope s H C cl fp) elt (tEv B G XF c))
    (hi1 : ∀ s H C cl fp, PI (Blk X scope s H C cl fp) tg1 iter1 (tIt B G XF it1)) (hg1 : ∀ s H C cl fp, PG (Blk X scope s H C cl fp) tg1 (tG B t1)) (ht1 : ∀ s H C cl fp, PTs (Blk X scope s H C cl fp) ifs1 (tIfs B G XF l1))
    (hs : ∀ x, foldedSetIterable iter X.env x = pure x) (hs1 : ∀ env x, foldedSetIterable iter1 env x = pure x) (ho : ∀ i ∈ t.ixs, i ∈ own.map (·.2)) (ho1 : ∀ i ∈ t1.ixs, i ∈ own.map (·.2)) : PE X (.ListComp elt [⟨tg, iter, ifs, 0⟩, ⟨tg1, iter1, ifs1, 0⟩] scope pos) (tEvF B G W (.comp2 (own.map (·.2)) c t it l t1 it1 l1)) :=
  peI (pe_lc2 cx.calm cx.nd hi ok ho1 hg ht hi1 hg1 ht1 he hs hs1) fun σ H Q h => lc2_read ho h
end Z
/-! X2: targets of which the last one is starred. -/
namespace Z
open PySem PySem.Spec PyProof.Rows L2 RZ
variable {B : Bs} {G : Sg} {W : WE} {U : XW} {X : Cx} {g g' g1 g2 : Cfg} {H H' H1 H2 : Hp} {m m' m1 : Mem}
/-- the first n, a new list of the rest -/
def gStar (K : PySem.W.Frag) (n : Nat) (t : TGs) : TG := fun v σ H Q => ∃ a xs, v = .ref a ∧ (SqT K H a xs ∨ SqL K H a xs) ∧ n ≤ xs.length ∧ xs.length ≤ 16000 ∧ ∀ p, H p = none → t (xs.take n ++ [.ref p]) σ (upd H p (.lst (xs.drop n))) Q
section
variable {prog : Program} {w : World} {s : Shared} {E : Value → Shared → Prop}
/-- an unpacking with the last target starred, out of what asking, beginning, drawing and collecting do -/
theorem star_from {A : Around} {v : Value} {its : List Value} {n : Nat} {it : Addr} {s1 : Shared} {P : Shared → Prop} {Q : List Value → Shared → Prop} (le : n ≤ its.length) (up : its.length ≤ 16384)
    (ask : ∀ {Q : Bool → Shared → Prop}, Q false s → wpAny (model prog w) A (notIterableAtAll v) Q E s)
    (begin_ : ∀ {Q : Value → Shared → Prop}, Q (.ref it) s1 → wpAny (model prog w) A (pyIter v) Q E s)
    (head : ∀ {Q : List Value → Shared → Prop}, (∀ s2, P s2 → Q (its.take n) s2) → wpAny (model prog w) A (draw (.ref it) n) Q E s1)
    (tail : ∀ s2, P s2 → ∀ {Q : List Value → Shared → Prop}, (∀ h tk, (∀ b o, s.heap.get? b = some o → h.get? b = some o) → Q (its.drop n) { s with heap := h, toks := tk }) → wpAny (model prog w) A (collect (.ref it)) Q E s2)
    (h : ∀ (h2 : Heap) (tk : Nat), (∀ b o, s.heap.get? b = some o → h2.get? b = some o) → Q (its.take n ++ [.ref h2.objs.size] ++ []) { s with heap := h2.push { cls := .type "list", data := .seq (its.drop n).toArray }, toks := tk }) :
    wpAny (model prog w) A (unpackItems v (n + 1) (some n)) Q E s := by
  unfold unpackItems
  refine wpAny_bind (ask ?_)
  refine wpAny_bind (wpAny_holding (begin_ ?_))
  refine wpAny_bind (wpAny_holding (head fun s2 p2 => ?_))
  refine wpAny_ite_false (decide_eq_false (by rw [List.length_take]; omega)) ?_
  refine wpAny_bind (wpAny_holding (tail s2 p2 fun h3 tk keep => ?_))
  have none_after : n + 1 - 1 - n = 0 := by omega
  refine wpAny_ite_false (decide_eq_false (by rw [none_after]; exact Nat.not_lt_zero _)) ?_
  simp only [none_after, Nat.sub_zero, List.take_length, List.drop_length]
  refine wpAny_bind (wpAny_newList (wpAny_pure (h h3 tk keep)) ?_)
  have := List.length_drop (i := n) (l := its)
  rw [sizeLine_eq]; omega
theorem star_tup {A : Around} {l : Addr} {items : Array Value} {i : Nat} {Q : List Value → Shared → Prop} (hl : PyProof.Rows.IsTup s.heap l items) (hh : A.handled = none) (hi : i ≤ items.size) (hz : items.size ≤ 16384)
    (h : ∀ (h2 : Heap) (tk : Nat), (∀ b o, s.heap.get? b = some o → h2.get? b = some o) → Q (items.toList.take i ++ [.ref h2.objs.size] ++ []) { s with heap := h2.push { cls := .type "list", data := .seq (items.toList.drop i).toArray }, toks := tk }) : wpAny (model prog w) A (unpackItems (.ref l) (i + 1) (some i)) Q E s := by
  have ne : l ≠ s.heap.objs.size := fun z => by obtain ⟨o, ho, _⟩ := hl; exact Nat.lt_irrefl _ (z ▸ Heap.lt_size ho)
  refine star_from (P := fun s2 => ∃ h1, s2 = { s with heap := h1 } ∧ PyProof.Rows.IsTupIter h1 s.heap.objs.size l i ∧ PyProof.Rows.IsTup h1 l items ∧ ∀ b o, s.heap.get? b = some o → h1.get? b = some o) (by simpa using hi) (by simpa using hz)
    (fun q => wpAny_bind (wpAny_specialOf hl.typeIs slot_tuple_iter.lookup (wpAny_pure q))) (fun q => iter_tuple hl q) (fun q => ?_) (fun s2 p2 Q q => ?_) h
  · refine draw_tuple ne i 0 _ _ ⟨_, Heap.get?_push_size _ rfl, rfl, rfl⟩ (hl.push _) (by omega) fun h1 at_ same => ?_
    rw [Nat.zero_add] at at_
    exact q _ ⟨h1, rfl, at_, (hl.push _).extBut same.extBut ne, fun b o e => same.extBut b o (Nat.ne_of_lt (Heap.lt_size e)) (Heap.get?_push_of_some _ e)⟩
  · obtain ⟨h1, rfl, at_, tup, keep⟩ := p2
    have lt1 : s.heap.objs.size < h1.objs.size := by obtain ⟨o, ho, _⟩ := id at_; exact Heap.lt_size ho
    have lt2 : l < h1.objs.size := by obtain ⟨o, ho, _⟩ := id tup; exact Heap.lt_size ho
    exact PySem.W.kun_collect (T := "tuple_iterator") (by simp) (Walks.tuple (A := A.in1) hh s.heap.objs.size l ne items) (fun j u st => st.1.typeIs) (by omega) ⟨at_, tup⟩ lt1 lt2
      (fun h' tk k => q h' tk fun b o e => k b o (Nat.ne_of_lt (Heap.lt_size e)) (keep b o e)) (by rw [sizeLine_eq]; omega)
theorem star_lst {A : Around} {l : Addr} {items : Array Value} {i : Nat} {Q : List Value → Shared → Prop} (hl : s.heap.IsList l items) (hh : A.handled = none) (hi : i ≤ items.size) (hz : items.size ≤ 16384)
    (h : ∀ (h2 : Heap) (tk : Nat), (∀ b o, s.heap.get? b = some o → h2.get? b = some o) → Q (items.toList.take i ++ [.ref h2.objs.size] ++ []) { s with heap := h2.push { cls := .type "list", data := .seq (items.toList.drop i).toArray }, toks := tk }) : wpAny (model prog w) A (unpackItems (.ref l) (i + 1) (some i)) Q E s := by
  have ne : l ≠ s.heap.objs.size := fun z => by obtain ⟨o, ho, _⟩ := hl; exact Nat.lt_irrefl _ (z ▸ Heap.lt_size ho)
  refine star_from (P := fun s2 => ∃ h1, s2 = { s with heap := h1 } ∧ h1.IsListIter s.heap.objs.size l i ∧ h1.IsList l items ∧ ∀ b o, s.heap.get? b = some o → h1.get? b = some o) (by simpa using hi) (by simpa using hz)
    (fun q => wpAny_bind (wpAny_specialOf hl.typeIs slot_list_iter.lookup (wpAny_pure q))) (fun q => wpAny_pyIter_list hl q) (fun q => ?_) (fun s2 p2 Q q => ?_) h
  · refine PySem.W.kun_draw ne i 0 _ _ ⟨_, Heap.get?_push_size _ rfl, rfl, rfl⟩ (hl.push _) (by omega) fun h1 at_ same => ?_
    rw [Nat.zero_add] at at_
    exact q _ ⟨h1, rfl, at_, (hl.push _).extBut same.extBut ne, fun b o e => same.extBut b o (Nat.ne_of_lt (Heap.lt_size e)) (Heap.get?_push_of_some _ e)⟩
  · obtain ⟨h1, rfl, at_, lst, keep⟩ := p2
    have lt1 : s.heap.objs.size < h1.objs.size := by obtain ⟨o, ho, _⟩ := id at_; exact Heap.lt_size ho
    have lt2 : l < h1.objs.size := by obtain ⟨o, ho, _⟩ := id lst; exact Heap.lt_size ho
    exact PySem.W.kun_collect (T := "list_iterator") (by simp) (Walks.list (A := A.in1) hh s.heap.objs.size l ne items) (fun j u st => st.1.typeIs) (by omega) ⟨at_, lst⟩ lt1 lt2
      (fun h' tk k => q h' tk fun b o e => k b o (Nat.ne_of_lt (Heap.lt_size e)) (keep b o e)) (by rw [sizeLine_eq]; omega)
end
theorem pg_star {es es0 : List Expr} {k : Nat} {pos : Pos} {t : TGs} {n : Nat} (hc : X.calm = true) (h : PGs X es0 t) (he : (assignEach es X.env).map (·.2) = (assignEach es0 X.env).map (·.2))
    (hn : (assignEach es X.env).length = n + 1) (hst : (assignEach es X.env).findIdx? (·.1) = some n) : PG X (.Tuple es k pos) (gStar X.K n t) := by
  refine ⟨fun pins s σ H v u Q I r hw => ?_⟩
  obtain ⟨a, xs, e1, hq, hl, hz, hw⟩ := hw
  subst e1
  cases r
  rw [assign_Tuple]
  refine wpAny_bind (wpAny_standAt ?_)
  unfold unpack
  rw [hn, hst]
  have fin : ∀ {its : List Value}, Vals xs its → ∀ (h2 : Heap) (tk : Nat), (∀ b o, s.heap.get? b = some o → h2.get? b = some o) →
      wpAny (model X.prog X.w) X.A (assignInOrder ((assignEach es X.env).map (·.2)) (its.take n ++ [.ref h2.objs.size] ++ [])) (fun _ s' => ∃ σ' H', Inv X pins σ' H' s' ∧ Q σ' H') X.xe { s with heap := h2.push { cls := .type "list", data := .seq (its.drop n).toArray }, toks := tk } := fun {its} rv h2 tk hk => by
    have hp : s.heap.get? h2.objs.size = none := fresh_end hk
    have hlen : xs.length = its.length := rv.length
    have I1 : Inv X pins σ (upd H h2.objs.size (.lst (xs.drop n))) { s with heap := h2.push { cls := .type "list", data := .seq (its.drop n).toArray }, toks := tk } :=
      I.laidN (t' := tk) (fun b o e => Heap.get?_push_of_some _ (hk b o e)) hp (I.hok.gone hp) ⟨by rw [List.length_drop, sizeLine_eq]; omega, its.drop n, 0, rv.drop n, Heap.get?_push_size _ rfl⟩
    rw [he, List.append_nil]
    exact h.run pins _ σ _ _ _ Q I1 ((rv.take n).append (.cons (show RelV (V.ref h2.objs.size) (Value.ref h2.objs.size) from rfl) .nil)) (hw _ (I.hok.gone hp))
  rcases hq with hq | hq
  · obtain ⟨its, rv, ht, hzz⟩ := I.tuple hq
    have hlen : xs.length = its.length := rv.length
    refine wpAny_bind (wpAny_holding (star_tup ht (I.ok.hd hc) (by simp; omega) (by simp; omega) fun h2 tk hk => ?_))
    simpa using fin rv h2 tk hk
  · obtain ⟨its, rv, ⟨o, nn, e1, e2, _, e3⟩, hzz⟩ := I.list hq
    have hlen : xs.length = its.length := rv.length
    refine wpAny_bind (wpAny_holding (star_lst (items := its.toArray) ⟨o, e1, e2, nn, e3⟩ (I.ok.hd hc) (by simp; omega) (by simp; omega) fun h2 tk hk => ?_))
    simpa using fin rv h2 tk hk
end Z
set_option maxHeartbeats 2000000
/-! X3: set comprehensions of ints. -/
namespace Z
open PySem PySem.Spec PyProof.Rows L2 PpSet
section
variable {Y : Cx} {fp : List Addr} {it D : Addr} {tn : Nat → Heap → Prop} {J : It} {σ : L2.St} {vs : List Nat} {W : Nat → Nat → Hp → Prop} {Q : VK}
/-- what a turn of {elt for tg in it if ..} does, elt an int: D the set under way -/
def sciStep (J : It) (g : TG) (tt : TT) (te : TE) (w : World) (D : Addr) (vs : List Nat) (σ : L2.St) (W : Nat → Nat → Hp → Prop) (Q : VK) : Prop := ∀ i m H, W i m H →
  (J.stop i H ∧ Q (.ref D) H) ∨ (J.go i H ∧ ∃ Nx : Hp → Prop, (∀ H', Nx H' → ∃ m', m' < m ∧ W (i + 1) m' H') ∧ ∀ x H', J.yld i H x H' → g x (L2.wipe σ vs) H' fun σ2 H2 => L2.wipe σ2 vs = L2.wipe σ vs ∧ tt σ2 H2 fun b H3 =>
    if b = true then te σ2 H3 fun y H4 => ∃ (c : Int) (S : Int → Bool) (n : Nat), y = .int c ∧ H4 D = some (SetO w D S n) ∧ n + 1 < scanBound ∧ Nx (upd H4 D (SetO w D (fun j => S j || decide (j = c)) (if S c = true then n else n + 1))) else Nx H3)
def tSci (w : World) (wi : TI) (g : TG) (tt : TT) (te : TE) (vs : List Nat) : TE := fun σ H Q => wi σ H fun J H1 => ∀ D, H1 D = none → ∃ W : Nat → Nat → Hp → Prop, (∃ m, W 0 m (upd H1 D (SetO w D (fun _ => false) 0))) ∧ sciStep J g tt te w D vs σ W Q
/-- the block between two turns -/
def Between (Y : Cx) (fp : List Addr) (tn : Nat → Heap → Prop) (W : Nat → Nat → Hp → Prop) (σ : L2.St) (n : Nat) (s : Shared) : Prop := ∃ i H, Inv Y [] σ H s ∧ tn i s.heap ∧ (∀ b ∈ fp, H b = none) ∧ W i n H
theorem Between.next {P : Program} {w : World} {K : PySem.W.Frag} {tg : Expr} {i m : Nat} {H' : Hp} {σ2 : L2.St} {mid s' : Shared} (T : Turn P w K tg J fp it tn) (st : tn i mid.heap) (I : Inv Y ([] ++ pinsAt fp mid.heap) σ2 H' s') (same : L2.wipe σ2 vs = L2.wipe σ vs)
    (w' : W i m H') : Between Y fp tn W (L2.wipe σ vs) m s' := by
  have held : ∀ b ∈ fp, ∃ o, mid.heap.get? b = some o ∧ s'.heap.get? b = some o ∧ H' b = none := fun b hb => by
    obtain ⟨o, e, _⟩ := T.obj _ _ st b hb
    have p := I.pin (b, o) (by simp [mem_pinsAt hb e])
    exact ⟨o, e, p.1, p.2.1⟩
  refine ⟨i, H', I.unpinned.weak (by rw [← same, L2.wipe_length]) fun j v e => (L2.wipe_some (same ▸ e)).1, ?_, fun b hb => ?_, w'⟩
  · exact T.keep _ _ _ st fun b hb o e => by
      obtain ⟨o', e', k, _⟩ := held b hb
      cases e.symm.trans e'
      exact k
  · obtain ⟨_, _, _, k⟩ := held b hb
    exact k
/-- set.add of an int -/
theorem addI_ok {pins : List (Addr × Obj)} {σ : L2.St} {H : Hp} {s : Shared} {E : Value → Shared → Prop} {S : Int → Bool} {n : Nat} {k : Int} {tk : Tok} {Q : Value → Shared → Prop} (I : Inv Y pins σ H s) (hD : H D = some (SetO Y.w D S n)) (room : n + 1 < scanBound)
    (h : ∀ s', Inv Y pins σ (upd H D (SetO Y.w D (fun j => S j || decide (j = k)) (if S k = true then n else n + 1))) s' → Q .none s') : wpAny (model Y.prog Y.w) Y.A (call (.builtin "set.add") [.ref D, .int k tk]) Q E s :=
  setR_add (setO_get I hD) room fun h' but new => by
    obtain ⟨o, _, _, _, at_, _⟩ := id new
    exact h { s with heap := h', toks := s.toks + 1 } (I.write (by rw [hD]; trivial) (.inl rfl) (fun b u hb hu => (but.2 b hb).trans hu) ⟨o, at_⟩ (setO_new new))
theorem sci_loop {elt tg iter : Expr} {ifs : List Expr} {scope : Scope} {pos : Pos} {g : TG} {tt : TT} {te : TE} {R : Result → Shared → Prop} {m : Nat} {s : Shared} (hc : Y.calm = true) (hx : Y.xe = fun _ _ => False) (T : Turn Y.prog Y.w Y.K tg J fp it tn)
    (own : ∀ {σ' H' s'}, Inv Y [] σ' H' s' → (∀ b ∈ fp, H' b = none) → ∀ b ∈ fp, FpOk Y [] H' b) (pg : PG Y tg g) (pt : PTs Y ifs tt) (pe : PE Y elt te) (step : sciStep J g tt te Y.w D vs σ W Q)
    (done : ∀ s' H', Inv Y [] (L2.wipe σ vs) H' s' → Q (.ref D) H' → R (.ok .next) s') (start : Between Y fp tn W (L2.wipe σ vs) m s) :
    codeAny (model Y.prog Y.w) Y.A (.compLoop (.SetComp elt [⟨tg, iter, ifs, 0⟩] scope pos) 0 (.ref it) (.ref D) Y.env) R s := by
  have calm : ∀ {α : Type} {t : Sem α} {q q' : α → Shared → Prop} {e : Value → Shared → Prop} {u : Shared}, wpAny (model Y.prog Y.w) Y.A t q Y.xe u → (∀ a u', q a u' → q' a u') → wpAny (model Y.prog Y.w) Y.A t q' e u := fun h k => thnF (hx ▸ h) k
  refine compLoopS_any (Between Y fp tn W (L2.wipe σ vs)) (fun n u at_ => ?_) m start
  obtain ⟨i, H, I, st, fr, wi⟩ := at_
  rcases step i n H wi with ⟨stop, q⟩ | ⟨go, Nx, less, each⟩
  · refine thnF (T.done Y rfl rfl rfl hc i [] u _ H (fun _ _ => False) I (own I fr) st stop) fun r u' z => ?_
    obtain ⟨rfl, I'⟩ := z
    exact done u' H I' q
  · refine thnF (T.item Y rfl rfl rfl hc i [] u _ H (fun _ _ => False) I (own I fr) st go) fun r u1 z => ?_
    obtain ⟨v, rfl, letGo⟩ := z
    refine thnF letGo fun _ u2 ⟨x, H2, I2, rx, yl, st2, fr2⟩ => ?_
    refine calm (pg.run _ u2 _ H2 x v _ (I2.pinned (own I2 fr2) (T.obj _ _ st2)) rx (each x H2 yl)) fun _ u3 ⟨σ3, H3, I3, same, q3⟩ => ?_
    refine calm (pt.run _ u3 σ3 H3 _ I3 q3) fun b u4 ⟨H4, I4, q4⟩ => ?_
    have close : ∀ {u' H'}, Inv Y ([] ++ pinsAt fp u2.heap) σ3 H' u' → Nx H' → ∃ k, k < n ∧ Between Y fp tn W (L2.wipe σ vs) k u' := fun I' nx => by
      obtain ⟨k, lt, wk⟩ := less _ nx
      exact ⟨k, lt, .next T st2 I' same wk⟩
    cases b
    · exact close I4 q4
    · refine calm (pe.run _ u4 σ3 H4 _ I4 q4) fun _ u5 ⟨y, H5, I5, ry, c, S, k, ey, hD, room, nx⟩ => ?_
      cases ey
      obtain ⟨tk, rfl⟩ := ry
      exact addI_ok I5 hD room fun u6 I6 => close I6 nx
end
section
variable {X : Cx}
/-- a set just made -/
abbrev emptyS (w : World) : Obj := ⟨.type "set", none, .set #[] 0 (.fresh 0 0 (!w.params.followText "set-order")), #[]⟩
/-- the block's context -/
abbrev blkY (X : Cx) (s : Shared) (H : Hp) (scope : Scope) (fp : List Addr) : Cx := X.blk s H scope (compEnvC scope (cellsFrom (s.heap.objs.size + 1) scope.names (cloFrom X.env.cells scope.names [])) s.heap.objs.size X.env) fp
/-- the block, the set laid -/
theorem sci_block {elt tg iter : Expr} {ifs : List Expr} {scope : Scope} {own : List (PySem.Str × Nat)} {pos : Pos} {g : TG} {tt : TT} {te : TE} {pins : List (Addr × Obj)} {σ : L2.St} {H : Hp} {s : Shared} {it D : Addr} {fp : List Addr} {tn : Nat → Heap → Prop} {J : It} {W : Nat → Nat → Hp → Prop} {Q : VK} {m : Nat} {R : Result → Shared → Prop}
    (hc : X.calm = true) (hN : X.N.Nodup) (I : Inv X pins σ H s) (ok : BlkOk X.N X.env.scope scope own) (T : Turn X.prog X.w X.K tg J fp it tn) (st : tn 0 s.heap) (room : ∀ b ∈ fp, FpOk X pins H b)
    (pg : PG (blkY X s H scope fp) tg g) (pt : PTs (blkY X s H scope fp) ifs tt) (pe : PE (blkY X s H scope fp) elt te) (w0 : W 0 m H) (step : sciStep J g tt te X.w D (own.map (·.2)) σ W Q)
    (fin : ∀ u H' names, Inv X pins σ H' u → Q (.ref D) H' → u.heap.Ns s.heap.objs.size names → FpOk X pins H' s.heap.objs.size → R (.ok .next) u) :
    codeAny (model X.prog X.w) X.A (.compStart (.SetComp elt [⟨tg, iter, ifs, 0⟩] scope pos) 0 (.ref it) (.ref D) (blkY X s H scope fp).env) R { s with heap := pushCells (s.heap.push { cls := .type "dict", data := .dict #[] }) scope.names } := by
  have low : ∀ b ∈ fp, b < s.heap.objs.size := fun b hb => let ⟨_, e, _⟩ := T.obj _ _ st b hb; Heap.lt_size e
  have stB := T.keep _ _ _ st fun b _ o e => pushCells_keeps scope.names (s.heap.push { cls := .type "dict", data := .dict #[] }) b o (Heap.get?_push_of_some _ e)
  have loop : codeAny (model X.prog X.w) X.A (.compLoop (.SetComp elt [⟨tg, iter, ifs, 0⟩] scope pos) 0 (.ref it) (.ref D) (blkY X s H scope fp).env) R { s with heap := pushCells (s.heap.push { cls := .type "dict", data := .dict #[] }) scope.names } := by
    refine sci_loop (Y := blkY X s H scope fp) hc rfl T (fun I' fr b hb => ?_) pg pt pe step (fun u H' I' q => ?_) ⟨0, H, block_start I ok hN fun b hb => ⟨room b hb, low b hb⟩, stB, fun b hb => (room b hb).1, w0⟩
    · obtain ⟨x1, x2⟩ := I'.ok.exf b hb
      exact ⟨fr b hb, x1, I'.ok.exfs b hb, .inl hb, fun x c e => x2 x c e, fun p hp => nomatch (show p ∈ ([] : List (Addr × Obj)) from hp)⟩
    · obtain ⟨names, ns, _⟩ := I'.loc
      have out : Inv X pins σ H' u := I.call' (ch := fp) I'.os I'.base I'.hok I'.bare fun b hb => by
        obtain ⟨_, r1, _, r3, r4, r5⟩ := room b hb
        exact ⟨r3, r1, r4, r5⟩
      exact fin u H' names out q ns (I.fpOk (Nat.le_refl _) I'.free)
  exact codeAny_compStart_set loop (T.self X.A 0 _ _ _ stB loop)
/-- as a value -/
theorem pe_sci {elt tg iter : Expr} {ifs : List Expr} {scope : Scope} {own : List (PySem.Str × Nat)} {pos : Pos} {wi : TI} {g : TG} {tt : TT} {te : TE} (hc : X.calm = true) (hN : X.N.Nodup) (hi : PI X tg iter wi) (ok : BlkOk X.N X.env.scope scope own)
    (hg : ∀ (s : Shared) (H : Hp) (C : Addr) (cl : List (PySem.Str × Addr)) (fp : List Addr), PG (X.blk s H scope (compEnvC scope cl C X.env) fp) tg g) (ht : ∀ (s : Shared) (H : Hp) (C : Addr) (cl : List (PySem.Str × Addr)) (fp : List Addr), PTs (X.blk s H scope (compEnvC scope cl C X.env) fp) ifs tt)
    (he : ∀ (s : Shared) (H : Hp) (C : Addr) (cl : List (PySem.Str × Addr)) (fp : List Addr), PE (X.blk s H scope (compEnvC scope cl C X.env) fp) elt te) (hs : ∀ x, foldedSetIterable iter X.env x = pure x := by intro _; rfl) :
    PE X (.SetComp elt [⟨tg, iter, ifs, 0⟩] scope pos) (tSci X.w wi g tt te (own.map (·.2))) where
  run pins s σ H Q I h := by
    rw [eval_SetComp]
    have cells : ∀ y ∈ scope.names, y.2 = .free → ∃ c, X.env.cells.lookup y.1 = some c := fun y hy e => I.ok.has _ ((ok.free y hy e).imp id id)
    refine wpAny_comprehension_free rfl hs (closure_ok cells) ok.kind (fun y hy e => (ok.uniq y hy).trans (congrArg some e)) (thn (hi.run pins s σ H _ I h) fun xv s1 z => thn z fun itv s2 z2 => ?_)
    obtain ⟨it, fp, tn, J, H2, rfl, I2, T, st, fpo, next⟩ := z2
    obtain ⟨W, ⟨m, w0⟩, step⟩ := next s2.heap.objs.size (I2.hok.fresh (Nat.le_refl _))
    refine newSet_ok (newEnv_comp ?_)
    have IS := I2.laid (t' := s2.toks) (o := SetO X.w s2.heap.objs.size (fun _ => false) 0) (fun b o e => Heap.get?_push_of_some _ e) (Nat.le_refl _) (setO_new (setR_fresh X.w))
    have low : ∀ b ∈ fp, b < s2.heap.objs.size := fun b hb => let ⟨_, e, _⟩ := T.obj _ _ st b hb; Heap.lt_size e
    refine sci_block (own := own) hc hN IS ok T (T.keep _ _ _ st fun b _ o e => Heap.get?_push_of_some _ e) (fun b hb => ⟨(upd_ne (Nat.ne_of_lt (low b hb))).trans (fpo b hb).1, (fpo b hb).2⟩) (hg _ _ _ _ fp) (ht _ _ _ _ fp) (he _ _ _ _ fp) w0 step fun u H' names I' q ns f => ?_
    refine ⟨names, ns, fun h'' but => ⟨.ref s2.heap.objs.size, H', ?_, rfl, q⟩⟩
    obtain ⟨f0, f1, _, f3, f4, f5⟩ := f
    exact I'.turned (t' := u.toks) (fun b o hb e => (but.2 b hb).trans e) f0 f1 f3 f4 f5
end
end Z
/-! ZC: statements. -/
namespace Z
open PySem PySem.Spec PyProof.Rows L2 RZ
variable {B : Bs} {G : Sg} {W : WE} {U : XW} {X : Cx} {g g' g1 g2 : Cfg} {H H' H1 H2 : Hp} {m m' m1 : Mem} {D : Ends} {σ : L2.St} {e : Env}

/-- what is wanted where a statement ends -/
def FlP (B : Bs) (g : Cfg) (H : Hp) (W : WE) (D : Ends) : Fl → Prop
  | .nx e m => ∀ g' H' σ, Ext g H g' H' → Rl B g' m H' → EnvR B g' H' σ e → D.nx σ H'
  | .bk e m => ∀ g' H' σ, Ext g H g' H' → Rl B g' m H' → EnvR B g' H' σ e → D.bk σ H'
  | .ct e m => ∀ g' H' σ, Ext g H g' H' → Rl B g' m H' → EnvR B g' H' σ e → D.ct σ H'
  | .rt d m => ∀ g' H' v, Ext g H g' H' → Rl B g' m H' → Den B g' H' v d → D.rt v H'
  | .exc x e m => ∀ g' H' σ, Ext g H g' H' → Rl B g' m H' → EnvR B g' H' σ e → W σ e x g' m H'
  | .bad => False
theorem FlP.ext {f : Fl} (x : Ext g H g1 H1) (h : FlP B g H W D f) : FlP B g1 H1 W D f := by
  cases f with
  | bad => exact h
  | _ => exact fun g' H' σ y => h g' H' σ (x.trans y)
theorem FlP.post {α : Type} {o : Out α} {k : α → Mem → Fl} (R : Rl B g m H) (E : EnvR B g H σ e) (h : FlP B g H W D (o.fl e k)) : Post B g H (W σ e) (fun g1 m1 H1 a => FlP B g1 H1 W D (k a m1)) o := by
  cases o with
  | bad => exact h
  | exc x m' => exact fun g' H' y r => h g' H' σ y r (E.ext y R)
  | ok a m' => exact fun g' H' y r => FlP.ext y h
theorem FlP.nx0 (R : Rl B g m H) (E : EnvR B g H σ e) (h : FlP B g H W D (.nx e m)) : D.nx σ H := h g H σ (Ext.refl _ _) R E
def tS (B : Bs) (G : Sg) (W : WE) (s : S) : TS := fun D σ H => ∃ g m e, Rl B g m H ∧ EnvR B g H σ e ∧ FlP B g H W D (execS G s e m)
def tSs (B : Bs) (G : Sg) (W : WE) (b : Ss) : TS := fun D σ H => ∃ g m e, Rl B g m H ∧ EnvR B g H σ e ∧ FlP B g H W D (execSs G b e m)
theorem psI {st : Stmt} {t t' : TS} (h : PS X st t) (i : ∀ D σ H, t' D σ H → t D σ H) : PS X st t' := ⟨fun pins s σ H D I q => h.run pins s σ H D I (i D σ H q)⟩
theorem pssI {st : List Stmt} {t t' : TS} (h : PSs X st t) (i : ∀ D σ H, t' D σ H → t D σ H) : PSs X st t' := ⟨fun pins s σ H D I q => h.run pins s σ H D I (i D σ H q)⟩
theorem sz_nil : PSs X [] (tSs B G W .nil) := by
  refine pssI pss_nil fun D σ H ⟨g, m, e, R, E, p⟩ => ?_
  unfold execSs at p
  exact p.nx0 R E
theorem sz_cons {st : Stmt} {sts : List Stmt} {s : S} {b : Ss} (h : PS X st (tS B G W s)) (t : PSs X sts (tSs B G W b)) : PSs X (st :: sts) (tSs B G W (.cons s b)) := by
  refine pssI (pss_cons h t) fun D σ H ⟨g, m, e, R, E, p⟩ => ⟨g, m, e, R, E, ?_⟩
  unfold execSs at p
  generalize execS G s e m = f at p
  cases f with
  | nx e' m' => exact fun g' H' σ' x R' E' => ⟨g', m', e', R', E', FlP.ext x p⟩
  | rt d m' => exact p
  | bk e' m' => exact p
  | ct e' m' => exact p
  | exc x e' m' => exact p
  | bad => exact p
theorem s_pass {pos : Pos} : PS X (.Pass pos) (tS B G W .pass) := psI ps_pass fun D σ H ⟨g, m, e, R, E, p⟩ => (show FlP B g H W D (.nx e m) by unfold execS at p; exact p).nx0 R E
theorem s_brk {pos : Pos} : PS X (.Break pos) (tS B G W .brk) := psI ps_break fun D σ H ⟨g, m, e, R, E, p⟩ => (show FlP B g H W D (.bk e m) by unfold execS at p; exact p) g H σ (Ext.refl _ _) R E
theorem s_cont {pos : Pos} : PS X (.Continue pos) (tS B G W .cont) := psI ps_continue fun D σ H ⟨g, m, e, R, E, p⟩ => (show FlP B g H W D (.ct e m) by unfold execS at p; exact p) g H σ (Ext.refl _ _) R E
theorem s_retN {pos : Pos} : PS X (.Return none pos) (tS B G W .retN) := psI ps_retN fun D σ H ⟨g, m, e, R, E, p⟩ => (show FlP B g H W D (.rt .non m) by unfold execS at p; exact p) g H .non (Ext.refl _ _) R .non
theorem s_ret {x : Expr} {c : Z.C} {pos : Pos} (h : PE X x (tEv B G W c)) : PS X (.Return (some x) pos) (tS B G W (.ret c)) := by
  refine psI (ps_ret h) fun D σ H ⟨g, m, e, R, E, p⟩ => ⟨g, m, e, R, E, ?_⟩
  unfold execS at p
  exact (p.post R E).imp fun g1 m1 H1 d x R1 _ q v hv => q g1 H1 v (Ext.refl _ _) R1 hv
def isComp : Expr → Bool
  | .ListComp _ _ _ _ => true
  | .SetComp _ _ _ _ => true
  | .DictComp _ _ _ _ _ => true
  | _ => false
theorem sw_no {x : Expr} {t : Option Expr} {l : Nat} {env : PySem.Env} (h : isComp x = false) : swapsWith x t l env = pure false := by
  cases x <;> first | rfl | (exact absurd h (by simp [isComp]))
theorem s_drop {x : Expr} {c : Z.C} {pos : Pos} (h : PE X x (tEv B G W c)) (hs : isComp x = false) : PS X (.Expr x pos) (tS B G W (.drop c)) := by
  refine psI (ps_expr h (sw_no hs)) fun D σ H ⟨g, m, e, R, E, p⟩ => ⟨g, m, e, R, E, ?_⟩
  unfold execS at p
  exact (p.post R E).imp fun g1 m1 H1 d x R1 _ q v hv => q g1 H1 σ (Ext.refl _ _) R1 (E.ext x R)
theorem s_doc {x : Str} {j} {pos pos' : Pos} : PS X (.Expr (.Constant (.str x) j pos) pos') (tS B G W .pass) := psI ps_doc fun D σ H ⟨g, m, e, R, E, p⟩ => (show FlP B g H W D (.nx e m) by unfold execS at p; exact p).nx0 R E
/-- a value stored under a name -/
theorem rd_set {i : Nat} {c : Z.C} (h : tS B G W (.set i c) D σ H) : tEv B G W c σ H fun v H1 => D.nx (σ.set i (some v)) H1 := by
  obtain ⟨g, m, e, R, E, p⟩ := h
  refine ⟨g, m, e, R, E, ?_⟩
  unfold execS at p
  exact (p.post R E).imp fun g1 m1 H1 d x R1 _ q v hv => q g1 H1 _ (Ext.refl _ _) R1 ((E.ext x R).set i hv)
theorem s_set (cx : Ctx B X) {i : Nat} {y : Str} {x : Expr} {c : Z.C} {p pos : Pos} (n : NmAt X i y) (h : PE X x (tEv B G W c)) (hs : isComp x = false) : PS X (.Assign [.Name y p] x pos) (tS B G W (.set i c)) :=
  psI (ps_set cx.nd n.ix n.lc h (sw_no hs) n.fn) fun D σ H q => rd_set q
/-- a name handed on -/
theorem rd_mv {i j : Nat} (h : tS B G W (.mv i j) D σ H) : tEv B G W (.var j) σ H fun v H1 => D.nx (σ.set i (some v)) H1 := by
  obtain ⟨g, m, e, R, E, p⟩ := h
  refine ⟨g, m, e, R, E, ?_⟩
  unfold execS at p
  cases q : e.getD j none with
  | none => rw [q] at p; exact p.elim
  | some d =>
    rw [q] at p
    have k : evalC G (.var j) e m = .ok d m := by rw [evalC, q]; rfl
    rw [k]
    exact fun g' H' x R' v hv => p g' H' _ x R' (((E.ext x R).set i hv).unset j)
theorem s_mv (cx : Ctx B X) {i j : Nat} {y : Str} {x : Expr} {p pos : Pos} (n : NmAt X i y) (h : PE X x (tEv B G W (.var j))) (hs : isComp x = false) : PS X (.Assign [.Name y p] x pos) (tS B G W (.mv i j)) :=
  psI (ps_set cx.nd n.ix n.lc h (sw_no hs) n.fn) fun D σ H q => rd_mv q
/-- a tuple of targets that no swap takes -/
def swNames (sc : Scope) (ts : List Expr) : List Str := ts.filterMap fun
  | .Name id pos => if sc.names.lookup id == some .local && pos.line == (ts.head?.map (·.pos.line)).getD 0 then some id else none
  | _ => none
def starred : Expr → Bool
  | .Starred .. => true
  | _ => false
def swNo (sc : Scope) (ts : List Expr) : Expr → Bool
  | .Tuple vs _ _ => !(ts.length == 2 || ts.length == 3) || vs.length != ts.length || vs.any starred || (swNames sc ts).length != ts.length || (swNames sc ts).eraseDups.length != (swNames sc ts).length || vs.all (foldedForSure 8)
  | _ => true
theorem sw_none {ts : List Expr} {k : Nat} {p : Pos} {x : Expr} {env : PySem.Env} (hk : env.blockKind = .function) (h : swNo env.scope ts x = true) : swappedStores [.Tuple ts k p] x env = pure none := by
  unfold swappedStores
  cases x with
  | Tuple vs k2 p2 =>
    unfold swNo at h
    simp only [Bool.or_eq_true] at h
    have st : (vs.any fun | .Starred .. => true | _ => false) = vs.any starred := rfl
    have nm : (ts.filterMap fun | .Name id pos => if env.kindOf id == some .local && pos.line == (ts.head?.map (·.pos.line)).getD 0 then some id else none | _ => none) = swNames env.scope ts := rfl
    simp only [hk]
    by_cases c1 : (!(ts.length == 2 || ts.length == 3) || vs.length != ts.length) = true
    · have c1' : (!(ts.length == 2 || ts.length == 3) || vs.length != ts.length || ScopeKind.function != ScopeKind.function) = true := by rw [c1]; rfl
      rw [if_pos c1']
    · have c1' : ¬ (!(ts.length == 2 || ts.length == 3) || vs.length != ts.length || ScopeKind.function != ScopeKind.function) = true := by
        intro z
        rw [Bool.or_eq_true] at z
        rcases z with z | z
        · exact c1 z
        · exact absurd z (by decide)
      rw [if_neg c1']
      by_cases c2 : vs.any starred = true
      · exact if_pos c2
      · refine (if_neg c2).trans ?_
        by_cases c3 : ((swNames env.scope ts).length != ts.length || (swNames env.scope ts).eraseDups.length != (swNames env.scope ts).length) = true
        · exact if_pos c3
        · refine (if_neg c3).trans ?_
          by_cases c4 : vs.all (foldedForSure 8) = true
          · exact if_pos c4
          · exfalso
            rw [Bool.or_eq_true] at c1 c3
            rcases h with (((((h | h) | h) | h) | h) | h)
            · exact c1 (.inl h)
            · exact c1 (.inr h)
            · exact c2 h
            · exact c3 (.inl h)
            · exact c3 (.inr h)
            · exact c4 h
  | _ => rfl
theorem s_unp (cx : Ctx B X) {l : Ts} {es : List Expr} {k : Nat} {x : Expr} {c : Z.C} {p pos : Pos} (n : PGz B X es l) (h : PE X x (tEv B G W c)) (hs : isComp x = false) (hk : X.env.blockKind = .function) (ht : swNo X.env.scope es x = true) : PS X (.Assign [.Tuple es k p] x pos) (tS B G W (.unp (.tp l) c)) := by
  refine psI (ps_asg h (gz_tup (k := k) (pos := p) cx n) (show swapsWith x (some (.Tuple es k p)) pos.line X.env = pure false from sw_no hs) (sw_none hk ht) rfl) fun D σ H ⟨g, m, e, R, E, p⟩ => ⟨g, m, e, R, E, ?_⟩
  unfold execS at p
  refine (p.post R E).imp fun g1 m1 H1 d x R1 _ q v hv => ?_
  cases hb : (T.tp l).bind d e with
  | none => rw [hb] at q; exact q.elim
  | some e' =>
    rw [hb] at q
    exact ⟨g1, m1, e, d, e', R1, E.ext x R, hv, hb, fun σ2 E2 _ => q g1 H1 σ2 (Ext.refl _ _) R1 E2⟩
theorem s_if {x : Expr} {a b : List Stmt} {c : Z.C} {s t : Ss} {pos : Pos} (h : PT X x (tEvT B G W c)) (ha : PSs X a (tSs B G W s)) (hb : PSs X b (tSs B G W t)) : PS X (.If x a b pos) (tS B G W (.ite c s t)) := by
  refine psI (ps_if h ha hb) fun D σ H ⟨g, m, e, R, E, p⟩ => ⟨g, m, e, R, E, ?_⟩
  unfold execS at p
  refine (p.post R E).imp fun g1 m1 H1 k x R1 _ q => ?_
  cases k with
  | true => exact ⟨g1, m1, e, R1, E.ext x R, q⟩
  | false => exact ⟨g1, m1, e, R1, E.ext x R, q⟩
/-- a place where a block's loops may stand -/
abbrev Own (X : Cx) : Prop := PassesOwn (model X.prog X.w) X.A X.env X.xe
theorem s_while (ow : Own X) {x : Expr} {a : List Stmt} {c : Z.C} {b : Ss} {pos : Pos} (h : PT X x (tEvT B G W c)) (hb : PSs X a (tSs B G W b)) : PS X (.While x a [] pos) (tS B G W (.while_ c b)) := by
  refine psI (ps_while ow h hb) fun D σ H ⟨g, m, e, R, E, p⟩ => ?_
  unfold execS at p
  unfold whileF at p
  split at p
  · rename_i hn
    generalize hn.choose = n at p
    have hk := hn
    refine ⟨fun k σ H => ∃ g m e f, Rl B g m H ∧ EnvR B g H σ e ∧ whileN (fun e m => evalT G c e m) (fun e m => execSs G b e m) k e m = some f ∧ FlP B g H W D f, ⟨n, g, m, e, ?_⟩, ?_⟩
    · cases q : whileN (fun e m => evalT G c e m) (fun e m => execSs G b e m) n e m with
      | none => rw [q] at p; exact p.elim
      | some f => rw [q] at p; exact ⟨f, R, E, rfl, p⟩
    · rintro k σ H ⟨g, m, e, f, R, E, q, p⟩
      cases k with
      | zero => cases q
      | succ k =>
        unfold whileN at q
        refine ⟨g, m, e, R, E, ?_⟩
        cases ht : evalT G c e m with
        | bad => rw [ht] at q; cases q; exact p.elim
        | exc x m' => rw [ht] at q; cases q; exact fun g' H' y r => p g' H' σ y r (E.ext y R)
        | ok z m' =>
          rw [ht] at q
          cases z with
          | false => cases q; exact fun g' H' y r => p g' H' σ y r (E.ext y R)
          | true =>
            simp only at q
            refine fun g' H' y r => ⟨fun σ' H' => ∃ k', k' < k + 1 ∧ ∃ g m e f, Rl B g m H' ∧ EnvR B g H' σ' e ∧ whileN (fun e m => evalT G c e m) (fun e m => execSs G b e m) k' e m = some f ∧ FlP B g H' W D f, fun σ' H' z => z, g', m', e, r, E.ext y R, ?_⟩
            cases hs : execSs G b e m' with
            | bad => rw [hs] at q; cases q; exact p.elim
            | nx e2 m2 => rw [hs] at q; exact fun g2 H2 σ2 z r2 E2 => ⟨k, Nat.lt_succ_self k, g2, m2, e2, f, r2, E2, q, FlP.ext (y.trans z) p⟩
            | ct e2 m2 => rw [hs] at q; exact fun g2 H2 σ2 z r2 E2 => ⟨k, Nat.lt_succ_self k, g2, m2, e2, f, r2, E2, q, FlP.ext (y.trans z) p⟩
            | bk e2 m2 => rw [hs] at q; cases q; exact fun g2 H2 σ2 z r2 E2 => p g2 H2 σ2 (y.trans z) r2 E2
            | rt d m2 => rw [hs] at q; cases q; exact fun g2 H2 v z r2 E2 => p g2 H2 v (y.trans z) r2 E2
            | exc x e2 m2 => rw [hs] at q; cases q; exact fun g2 H2 σ2 z r2 E2 => p g2 H2 σ2 (y.trans z) r2 E2
  · exact p.elim
theorem s_for (cx : Ctx B X) (ow : Own X) {tg iter : Expr} {body : List Stmt} {t : T} {it : Z.C} {b : Ss} {pos : Pos} (hi : PI X tg iter (tIt B G W it)) (hg : PG X tg (tG B t)) (hb : PSs X body (tSs B G W b))
    (hs : ∀ x, foldedSetIterable iter X.env x = pure x) : PS X (.For tg iter body [] pos) (tS B G W (.for_ t it b)) := by
  refine psI (ps_for ow cx.calm hi hg hb hs) fun D σ H ⟨g, m, e, R, E, p⟩ => ⟨g, m, e, R, E, ?_⟩
  unfold execS at p
  refine (p.post R E).imp fun g1 m1 H1 S x1 R1 _ q J vs ds sv hd st0 sz => ?_
  refine ⟨fun i k σ Hc => k = S.items.length - i ∧ ∃ g' m' e', Rl B g' m' Hc ∧ Ext g1 H1 g' Hc ∧ EnvR B g' Hc σ e' ∧ i ≤ S.items.length ∧
    FlP B g' Hc W D (forGo S.stays (fun e m => execSs G b e m) t (S.items.drop i) e' m'), ⟨_, rfl, g1, m1, e, R1, Ext.refl _ _, E.ext x1 R, Nat.zero_le _, q⟩, ?_⟩
  rintro i k σc Hc ⟨rfl, g', m', e', R', x', E', hi, p⟩
  have hds := hd.ext x' R1
  by_cases hlt : i < S.items.length
  · right
    rw [List.drop_eq_getElem_cons hlt] at p
    unfold forGo at p
    by_cases hst : S.stays m' = true
    · rw [if_pos hst] at p
      refine ⟨sv.go g' m' Hc i R' hds hst hlt, fun σ H' => ∃ k', k' < S.items.length - i ∧ k' = S.items.length - (i + 1) ∧ ∃ g' m' e', Rl B g' m' H' ∧ Ext g1 H1 g' H' ∧ EnvR B g' H' σ e' ∧ i + 1 ≤ S.items.length ∧
        FlP B g' H' W D (forGo S.stays (fun e m => execSs G b e m) t (S.items.drop (i + 1)) e' m'), fun σ' H' z => z, fun v Hy hy => ?_⟩
      obtain ⟨xy, Ry, hv⟩ := sv.yld g' m' Hc i _ v Hy R' hds hst (List.getElem?_eq_getElem hlt) hy
      cases hb : t.bind S.items[i] e' with
      | none => rw [hb] at p; exact p.elim
      | some e2 =>
      rw [hb] at p
      dsimp only at p
      refine ⟨g', m', e', _, e2, Ry, E'.ext xy R', hv, hb, fun σ2 E2 _ => ⟨g', m', e2, Ry, E2, ?_⟩⟩
      have p := FlP.ext xy p
      cases hx : execSs G b e2 m' with
      | bad => rw [hx] at p; exact p.elim
      | nx e3 m3 => rw [hx] at p; exact fun g3 H3 σ3 z r3 E3 => ⟨_, by omega, rfl, g3, m3, e3, r3, (x'.trans xy).trans z, E3, hlt, FlP.ext z p⟩
      | ct e3 m3 => rw [hx] at p; exact fun g3 H3 σ3 z r3 E3 => ⟨_, by omega, rfl, g3, m3, e3, r3, (x'.trans xy).trans z, E3, hlt, FlP.ext z p⟩
      | bk e3 m3 => rw [hx] at p; exact p
      | rt d m3 => rw [hx] at p; exact p
      | exc x e3 m3 => rw [hx] at p; exact p
    · rw [if_neg hst] at p; exact p.elim
  · left
    have hi2 : i = S.items.length := by omega
    subst hi2
    rw [List.drop_length] at p
    unfold forGo at p
    by_cases hst : S.stays m' = true
    · rw [if_pos hst] at p
      exact ⟨sv.stop g' m' Hc R' hds hst, p g' Hc σc (Ext.refl _ _) R' E'⟩
    · rw [if_neg hst] at p; exact p.elim
/-- name op= value -/
def rAug (B : Bs) (op : Operator) : TIp := fun x y H Q => ∃ g a b d, Den B g H x a ∧ Den B g H y b ∧ augD op a b = some d ∧ ∀ v, (∀ g H, Den B g H v d) → Q v H
theorem ip_aug (op : Operator) : PIp X op (rAug B op) := by
  intro pins s σ H x y v u Q I r1 r2 ⟨g, a, b, d, ha, hb, ed, q⟩
  unfold augD at ed
  split at ed
  · cases ed; cases ha; cases hb
    exact ip_add pins s σ H _ _ v u Q I r1 r2 ⟨_, _, rfl, rfl, q _ fun _ _ => .int _⟩
  · split at ed
    · rename_i hz
      cases ed; cases ha; cases hb
      exact iop_add_str pins s σ H _ _ v u Q I r1 r2 ⟨_, _, rfl, rfl, hz, q _ fun _ _ => .str _⟩
    · cases ed
  · cases ed; cases ha; cases hb
    exact ip_sub pins s σ H _ _ v u Q I r1 r2 ⟨_, _, rfl, rfl, q _ fun _ _ => .int _⟩
  · split at ed
    · rename_i hz
      cases ed; cases ha; cases hb
      exact iop_mul pins s σ H _ _ v u Q I r1 r2 ⟨_, _, rfl, rfl, by
        unfold smallMul at hz
        simp only [Bool.or_eq_true, Bool.and_eq_true, decide_eq_true_eq] at hz
        exact hz, q _ fun _ _ => .int _⟩
    · cases ed
  · cases ed
theorem s_aug (cx : Ctx B X) {op : Operator} {i : Nat} {y : Str} {x : Expr} {c : Z.C} {p pos : Pos} (n : NmAt X i y) (h : PE X x (tEv B G W c)) : PS X (.AugAssign (.Name y p) op x pos) (tS B G W (.aug op i c)) := by
  refine psI (ps_aug cx.nd n.ix n.lc h (ip_aug (B := B) op) n.fn) fun D σ H ⟨g, m, e, R, E, p⟩ => ?_
  unfold execS at p
  cases he : e.getD i none with
  | none => rw [he] at p; exact p.elim
  | some a =>
    rw [he] at p
    obtain ⟨v, h1, h2⟩ := E.get he
    refine ⟨v, h1, g, m, e, R, E, ?_⟩
    refine (p.post R E).imp fun g1 m1 H1 b x R1 _ q w hw => ?_
    cases hz : augD op a b with
    | none => rw [hz] at q; exact q.elim
    | some z =>
      rw [hz] at q
      exact ⟨g1, a, b, z, h2.ext x R, hw, hz, fun v' hv' => q g1 H1 _ (Ext.refl _ _) R1 ((E.ext x R).set i (hv' g1 H1))⟩
/-- name.append(e) -/
theorem s_app (cx : Ctx B X) {i : Nat} {y : Str} {x : Expr} {c : Z.C} {p ap cp pos : Pos} (hy : X.N[i]? = some y) (hv : Vis X.env.scope y) (hd : (y == ("__debug__" : Str)) = false) (hcd : (y == ("__classdict__" : Str)) = false) (h : PE X x (tEv B G W c)) (hn : notStar x = true) (hl : (ap.endLine == cp.line) = true) :
    PS X (.Expr (.Call (.Attribute (.Name y p) "append" ap) [x] [] cp) pos) (tS B G W (.app i c)) := by
  have ha : PA X [x] (tEvs B G W (.cons c .nil)) := az_cons h az_nil (star_cons hn)
  refine psI (ps_expr (pe_bm (T := "list") (id := "list.append") PySem.F.plainAttrs_list PySem.F.slot_list_append rfl mt_append (pe_var hy hv hd hcd) ha rfl ?_ hl (star_cons hn) rfl) (sw_no rfl)) fun D σ H ⟨g, m, e, R, E, p⟩ => ?_
  · rw [star_cons hn]; rfl
  · unfold execS at p
    cases he : e.getD i none with
    | none => rw [he] at p; exact p.elim
    | some a =>
      rw [he] at p
      dsimp only at p
      obtain ⟨v, h1, h2⟩ := E.get he
      cases hr : rdL m a with
      | none => rw [hr] at p; exact p.elim
      | some l =>
        rw [hr] at p
        dsimp only at p
        obtain ⟨A, xs, rfl, hA, _⟩ := h2.rdL R hr
        refine ⟨_, h1, .inl ⟨rfl, xs, SqL.of hA⟩, g, m, e, R, E, ?_⟩
        unfold evalCs
        have q := p.post R E
        cases hc : evalC G c e m with
        | bad => rw [hc] at q; exact q.elim
        | exc x m' => rw [hc] at q; exact q
        | ok d m1 =>
          rw [hc] at q
          rw [Out.bind_ok, evalCs_nil, Out.bind_ok]
          intro g1 H1 x R1 vs hvs
          have q := q g1 H1 x R1
          obtain ⟨w, rfl, hw⟩ := hvs.one
          unfold appD at q
          cases a with
          | loc n =>
            dsimp only at q
            have hv1 := h2.ext x R
            cases hv1 with
            | loc hn =>
            cases hm : m1[n]? with
            | none => rw [hm] at q; exact q.elim
            | some mo =>
              rw [hm] at q
              cases mo with
              | lst l' =>
                dsimp only at q
                obtain ⟨ys, hy1, hy2⟩ := R1.mem n _ _ hn hm
                by_cases hz : l'.length < sizeLine
                · rw [if_pos hz] at q
                  dsimp only at q
                  refine ⟨_, ys, w, rfl, rfl, hy1, by rw [hy2.length]; exact hz, ?_⟩
                  have x2 := Ext.put R1 hn (o := .lst (ys ++ [w]))
                  exact q g1 _ σ x2 (Rl.put R1 hn (mo := .lst (l' ++ [d])) ⟨_, upd_same, (hy2.append (.cons hw .nil)).ext x2 R1⟩) ((E.ext x R).ext x2 R1)
                · rw [if_neg hz] at q; exact q.elim
              | _ => exact q.elim
          | _ => exact q.elim
theorem pairedApp {α β : Type} {F : α → β → Prop} : ∀ {l k : List α} {l' k' : List β}, Paired F l l' → Paired F k k' → Paired F (l ++ k) (l' ++ k')
  | _, _, _, _, .nil, s => s
  | _, _, _, _, .cons h r, s => .cons h (pairedApp r s)
theorem setK_rel {ks : List (Key × V)} {kvs : List (Key × Z.D)} {k : Key} {v : V} {d : Z.D} (h : Paired (fun (p : Key × V) (q : Key × Z.D) => p.1 = q.1 ∧ Den B g H p.2 q.2) ks kvs) (hv : Den B g H v d) :
    Paired (fun (p : Key × V) (q : Key × Z.D) => p.1 = q.1 ∧ Den B g H p.2 q.2) (putK ks k v) (setK kvs k d) := by
  have any : (ks.any fun kv => decide (kv.1 = k)) = kvs.any fun kv => decide (kv.1 = k) := by
    clear hv
    induction h with
    | nil => rfl
    | cons p t ih => rw [List.any_cons, List.any_cons, ih, p.1]
  unfold putK setK
  rw [any]
  split
  · clear any
    rename_i hh
    clear hh
    induction h with
    | nil => exact .nil
    | cons p t ih =>
      refine .cons ?_ ih
      dsimp only
      rw [p.1]
      split
      · exact ⟨rfl, hv⟩
      · exact p
  · exact pairedApp h (.cons ⟨rfl, hv⟩ .nil)
/-- o[k] = e -/
theorem s_put (cx : Ctx B X) {o k x : Expr} {co ck c : Z.C} {p pos : Pos} (ho : PE X o (tEv B G W co)) (hk : PE X k (tEv B G W ck)) (h : PE X x (tEv B G W c)) : PS X (.Assign [.Subscript o k p] x pos) (tS B G W (.put co ck c)) := by
  refine psI (ps_dput (by have := cx.un; omega) ho hk h (by cases x <;> rfl)) fun D σ H ⟨g, m, e, R, E, p⟩ => ⟨g, m, e, R, E, ?_⟩
  unfold execS at p
  refine (p.post R E).imp fun g1 m1 H1 d x1 R1 _ q v hv => ⟨g1, m1, e, R1, E.ext x1 R, ?_⟩
  have E1 := E.ext x1 R
  refine (q.post R1 E1).imp fun g2 m2 H2 a x2 R2 _ q u hu => ⟨g2, m2, e, R2, E1.ext x2 R1, ?_⟩
  have E2 := E1.ext x2 R1
  refine (q.post R2 E2).imp fun g3 m3 H3 b x3 R3 _ q y hy => ?_
  have E3 := E2.ext x3 R2
  have hu := hu.ext x3 R2
  have hv := (hv.ext x2 R1).ext x3 R2
  unfold putD at q
  cases a with
  | loc n =>
    dsimp only at q
    cases hu with
    | loc hn =>
    cases hm : m3[n]? with
    | none => rw [hm] at q; exact q.elim
    | some mo =>
      rw [hm] at q
      cases mo with
      | dk kvs =>
        cases b with
        | str z =>
          dsimp only at q
          obtain ⟨ks, hy1, hy2⟩ := R3.mem n _ _ hn hm
          by_cases hz : kvs.length < sizeLine
          · rw [if_pos hz] at q
            dsimp only at q
            cases hy
            refine ⟨_, _, rfl, DPut.k (k := .inr z) hy1 (by rw [hy2.length]; exact hz), ?_⟩
            have x4 := Ext.put R3 hn (o := .dK (putK ks (.inr z) v))
            exact q g3 _ σ x4 (Rl.put R3 hn (mo := .dk (setK kvs (.inr z) d)) ⟨_, upd_same, Paired.mapP (setK_rel hy2 hv) fun p q r => ⟨r.1, r.2.ext x4 R3⟩⟩) (E3.ext x4 R3)
          · rw [if_neg hz] at q; exact q.elim
        | _ => exact q.elim
      | _ => exact q.elim
  | _ => exact q.elim

/-- a, b = x, y, stored from the right -/
theorem setSome_two {i j : Nat} {a b : Z.D} {e : Env} : setSome [i, j] [a, b] e = (e.set i (some a)).set j (some b) := rfl
structure LcAt (X : Cx) (i : Nat) (x : Str) : Prop where
  ix : X.N[i]? = some x
  lc : X.env.scope.names.lookup x = some .local
theorem s_par2 (cx : Ctx B X) {i j : Nat} {x y : Str} {a b : Expr} {l : Cs} {px py pt pos : Pos} {kt k2 : Nat} {pt2 : Pos} (n1 : LcAt X i x) (n2 : LcAt X j y) (hij : i ≠ j) (h : PA X [a, b] (tEvs B G W l)) (hl : l.len = 2)
    (hw : swappedStores [.Tuple [.Name x px, .Name y py] kt pt] (.Tuple [a, b] k2 pt2) X.env = pure (some [x, y])) : PS X (.Assign [.Tuple [.Name x px, .Name y py] kt pt] (.Tuple [a, b] k2 pt2) pos) (tS B G W (.par [i, j] l)) := by
  refine psI (ps_par cx.calm cx.nd n1.ix n2.ix hij n1.lc n2.lc h hw) fun D σ H ⟨g, m, e, R, E, p⟩ => ⟨g, m, e, R, E, ?_⟩
  unfold execS at p
  refine (p.post R E).imp fun g1 m1 H1 ds x1 R1 eq q vs hv => ?_
  have E1 := E.ext x1 R
  have ln : ds.length = 2 := (evalCs_len eq).trans hl
  match ds, vs, hv, q, ln with
  | [d1, d2], _, .cons h1 (.cons h2 .nil), q, _ => exact ⟨_, _, rfl, q g1 H1 _ (Ext.refl _ _) R1 ((E1.set i h1).set j h2)⟩
theorem s_par3 (cx : Ctx B X) {i j k : Nat} {x y z : Str} {a b c : Expr} {l : Cs} {px py pz pt pos : Pos} {kt k2 : Nat} {pt2 : Pos} (n1 : LcAt X i x) (n2 : LcAt X j y) (n3 : LcAt X k z) (hij : i ≠ j) (hik : i ≠ k) (hjk : j ≠ k) (h : PA X [a, b, c] (tEvs B G W l)) (hl : l.len = 3)
    (hw : swappedStores [.Tuple [.Name x px, .Name y py, .Name z pz] kt pt] (.Tuple [a, b, c] k2 pt2) X.env = pure (some [x, y, z])) : PS X (.Assign [.Tuple [.Name x px, .Name y py, .Name z pz] kt pt] (.Tuple [a, b, c] k2 pt2) pos) (tS B G W (.par [i, j, k] l)) := by
  refine psI (ps_par3 cx.calm cx.nd n1.ix n2.ix n3.ix hij hik hjk n1.lc n2.lc n3.lc h hw) fun D σ H ⟨g, m, e, R, E, p⟩ => ⟨g, m, e, R, E, ?_⟩
  unfold execS at p
  refine (p.post R E).imp fun g1 m1 H1 ds x1 R1 eq q vs hv => ?_
  have E1 := E.ext x1 R
  have ln : ds.length = 3 := (evalCs_len eq).trans hl
  match ds, vs, hv, q, ln with
  | [d1, d2, d3], _, .cons h1 (.cons h2 (.cons h3 .nil)), q, _ => exact ⟨_, _, _, rfl, q g1 H1 _ (Ext.refl _ _) R1 (((E1.set i h1).set j h2).set k h3)⟩
theorem key_den {v : V} {d : Z.D} {k : Key} (h : Den B g H v d) (e : keyOf d = some k) : v = kV k := by
  cases h <;> simp [keyOf] at e <;> (subst e; rfl)
theorem dc_read {it ck cv : Z.C} {t : T} {ifs : Cs} {own : List Nat} {σ : L2.St} {H : Hp} {Q : VK} (ho : ∀ i ∈ t.ixs, i ∈ own) (h : tEv B G W (.dcomp own ck cv t it ifs) σ H Q) : tDc (tIt B G W it) (tG B t) (tIfs B G XF ifs) (tEv B G XF ck) (tEv B G XF cv) own σ H Q := by
  obtain ⟨g, m, e, R, E, p⟩ := h
  refine ⟨g, m, e, R, E, ?_⟩
  unfold evalC at p
  cases hE : evalIt G it e m with
  | bad => rw [hE] at p; exact p
  | exc x m' => rw [hE] at p; exact p
  | ok S m1 =>
  rw [hE, Out.bind_ok] at p
  intro g1 H1 x1 R1 J vs ds sv hd st0 sz D hD
  cases hG : dcGo S.stays (fun e m => evalC G ck e m) (fun e m => evalC G cv e m) (fun e m => evalIfs G ifs e m) t S.items (Z.wipe e own) [] m1 with
  | bad => rw [hG] at p; exact p.elim
  | exc x m' => rw [hG] at p; exact p.elim
  | ok ys mE =>
  rw [hG, Out.calm_ok, Out.bind_ok] at p
  have E1 := E.ext x1 R
  have nf : ¬ g1.fz D := R1.fzNone hD
  refine ⟨fun i k Hc => k = S.items.length - i ∧ ∃ g' m' kv xs, Rl B g' m' Hc ∧ Ext g1 H1 g' Hc ∧ D ∉ g'.al ∧ ¬ g'.fz D ∧ Hc D = some (.dK xs) ∧ Paired (fun (p : Key × V) (q : Key × Z.D) => p.1 = q.1 ∧ Den B g' Hc p.2 q.2) xs kv ∧ i ≤ S.items.length ∧
    dcGo S.stays (fun e m => evalC G ck e m) (fun e m => evalC G cv e m) (fun e m => evalIfs G ifs e m) t (S.items.drop i) (Z.wipe e own) kv m' = .ok ys mE,
    ⟨_, rfl, g1, m1, [], [], Rl.upd R1 hD, Ext.upd R1 hD, R1.notIn hD, nf, upd_same, .nil, Nat.zero_le _, hG⟩, ?_⟩
  rintro i k Hc ⟨rfl, g', m', kv, xs, R', x', na', nf', hx, hxs, hi, go⟩
  have hds := (hd.ext x' R1)
  have E' : EnvR B g' Hc (L2.wipe σ own) (Z.wipe e own) := (E1.ext x' R1).wipe own
  by_cases hlt : i < S.items.length
  · right
    rw [List.drop_eq_getElem_cons hlt] at go
    unfold dcGo at go
    by_cases hst : S.stays m' = true
    · rw [if_pos hst] at go
      refine ⟨sv.go g' m' Hc i R' hds hst hlt, fun H' => ∃ k', k' < S.items.length - i ∧ k' = S.items.length - (i + 1) ∧ ∃ g' m' kv xs, Rl B g' m' H' ∧ Ext g1 H1 g' H' ∧ D ∉ g'.al ∧ ¬ g'.fz D ∧ H' D = some (.dK xs) ∧ Paired (fun (p : Key × V) (q : Key × Z.D) => p.1 = q.1 ∧ Den B g' H' p.2 q.2) xs kv ∧ i + 1 ≤ S.items.length ∧
    dcGo S.stays (fun e m => evalC G ck e m) (fun e m => evalC G cv e m) (fun e m => evalIfs G ifs e m) t (S.items.drop (i + 1)) (Z.wipe e own) kv m' = .ok ys mE, fun H' ⟨k', h1, h2⟩ => ⟨k', h1, h2⟩, fun v Hy hy => ?_⟩
      obtain ⟨xy, Ry, hv⟩ := sv.yld g' m' Hc i _ v Hy R' hds hst (List.getElem?_eq_getElem hlt) hy
      cases hb : t.bind S.items[i] (Z.wipe e own) with
      | none => rw [hb] at go; cases go
      | some e2 =>
      rw [hb] at go
      dsimp only at go
      refine ⟨g', m', Z.wipe e own, _, e2, Ry, E'.ext xy R', hv, hb, fun σ2 E2 s2 => ⟨s2 own ho |>.trans ?_, ?_⟩⟩
      · exact wipe_two own fun _ h => h
      · refine ⟨g', m', e2, Ry, E2, ?_⟩
        cases hI : evalIfs G ifs e2 m' with
        | bad => rw [hI] at go; cases go
        | exc x m2 => rw [hI] at go; cases go
        | ok b m2 =>
        rw [hI, Out.bind_ok] at go
        intro g2 H2 x2 R2
        have y2 := xy.trans x2
        have hx2 : H2 D = some (.dK xs) := y2.keep D _ hx na'
        have na2 : D ∉ g2.al := fun z => (y2.newA D z).elim na' fun z => by rw [hx] at z; cases z
        have nf2 : ¬ g2.fz D := fun z => (y2.newF D z).elim nf' fun z => by rw [hx] at z; cases z
        cases b with
        | false =>
          simp only [Bool.false_eq_true, if_false] at go ⊢
          exact ⟨_, by omega, rfl, g2, m2, kv, xs, R2, x'.trans y2, na2, nf2, hx2, Paired.mapP hxs fun p q z => ⟨z.1, z.2.ext y2 R'⟩, hlt, go⟩
        | true =>
          simp only [if_true] at go ⊢
          refine ⟨g2, m2, e2, R2, E2.ext x2 Ry, ?_⟩
          cases hC : evalC G ck e2 m2 with
          | bad => rw [hC] at go; cases go
          | exc x m3 => rw [hC] at go; cases go
          | ok d m3 =>
          rw [hC, Out.bind_ok] at go
          intro g3 H3 x3 R3 w hw
          refine ⟨g3, m3, e2, R3, (E2.ext x2 Ry).ext x3 R2, ?_⟩
          cases hC2 : evalC G cv e2 m3 with
          | bad => rw [hC2] at go; cases go
          | exc x m4 => rw [hC2] at go; cases go
          | ok dv m4 =>
          rw [hC2, Out.bind_ok] at go
          intro g4 H4 x4 R4 w4 hw4
          cases hK : keyOf d with
          | none => rw [hK] at go; cases go
          | some ky =>
          rw [hK] at go
          dsimp only at go
          split at go
          case isFalse => cases go
          rename_i hsz
          have y4 := (y2.trans x3).trans x4
          have hx4 : H4 D = some (.dK xs) := y4.keep D _ hx na'
          have na4 : D ∉ g4.al := fun z => (y4.newA D z).elim na' fun z => by rw [hx] at z; cases z
          have nf4 : ¬ g4.fz D := fun z => (y4.newF D z).elim nf' fun z => by rw [hx] at z; cases z
          have hxs4 : Paired (fun (p : Key × V) (q : Key × Z.D) => p.1 = q.1 ∧ Den B g4 H4 p.2 q.2) xs kv := Paired.mapP hxs fun p q z => ⟨z.1, z.2.ext y4 R'⟩
          obtain ⟨mo, R5⟩ := R4.updOut (o := .dK (putK xs ky w4)) hx4 rfl na4 nf4
          exact ⟨xs, ky, key_den hw hK, hx4, by rw [Paired.length hxs]; exact hsz, _, by omega, rfl, g4, m4, setK kv ky dv, putK xs ky w4, R5, (x'.trans y4).later hD, na4, nf4, upd_same,
            Paired.mapP (setK_rel hxs4 hw4) fun p q z => ⟨z.1, z.2.mon mo R4⟩, hlt, go⟩
    · rw [if_neg hst] at go; cases go
  · left
    have hi2 : i = S.items.length := by omega
    subst hi2
    rw [List.drop_length] at go
    unfold dcGo at go
    by_cases hst : S.stays m' = true
    · rw [if_pos hst] at go
      cases go
      refine ⟨sv.stop g' _ Hc R' hds hst, p _ Hc ((x1.trans x').adoptF (x1.was hD)) (R'.adoptO na' (.inr ⟨xs, hx⟩)) _ (.dct (kvs := xs) (.inr rfl) hx ?_ ?_)⟩
      · clear hx p hG
        induction hxs with
        | nil => rfl
        | cons a _ ih => rw [List.map_cons, List.map_cons, ih, a.1]
      · have mo : Mon g' Hc (g'.frz D) Hc := Mon.frz g' Hc D
        clear hx p hG
        induction hxs with
        | nil => exact .nil
        | cons a _ ih => exact .cons (a.2.mon mo R') ih
    · rw [if_neg hst] at go; cases go
theorem pz_dcomp (cx : Ctx B X) {kx vx tg iter : Expr} {ifs : List Expr} {scope : Scope} {own : List (Str × Nat)} {pos : Pos} {it ck cv : Z.C} {t : T} {l : Cs} (hi : PI X tg iter (tIt B G W it)) (ok : BlkOk X.N X.env.scope scope own)
    (hg : ∀ s H C cl fp, PG (Blk X scope s H C cl fp) tg (tG B t)) (ht : ∀ s H C cl fp, PTs (Blk X scope s H C cl fp) ifs (tIfs B G XF l)) (hk : ∀ s H C cl fp, PE (Blk X scope s H C cl fp) kx (tEv B G XF ck)) (hv : ∀ s H C cl fp, PE (Blk X scope s H C cl fp) vx (tEv B G XF cv))
    (hs : ∀ x, foldedSetIterable iter X.env x = pure x) (ho : ∀ i ∈ t.ixs, i ∈ own.map (·.2)) : PE X (.DictComp kx vx [⟨tg, iter, ifs, 0⟩] scope pos) (tEv B G W (.dcomp (own.map (·.2)) ck cv t it l)) :=
  peI (pe_dc cx.calm cx.nd hi ok hg ht hk hv hs) fun σ H Q h => dc_read ho h
/-- name = {.. for ..} on one line, the name a local -/
theorem ps_setDc {i : Nat} {y : Str} {py : Pos} {kx vx tg iter : Expr} {ifs : List Expr} {scope : Scope} {own : List (Str × Nat)} {pos spos : Pos} {wi : TI} {gg : TG} {tt : TT} {tk tv : TE} (hc : X.calm = true) (hN : X.N.Nodup) (hy : X.N[i]? = some y) (hyl : X.env.scope.names.lookup y = some .local)
    (hsw : swapsWith (.DictComp kx vx [⟨tg, iter, ifs, 0⟩] scope pos) (some (.Name y py)) spos.line X.env = pure true) (hi : PI X tg iter wi) (ok : BlkOk X.N X.env.scope scope own)
    (hg : ∀ (s : Shared) (H : Hp) (C : Addr) (cl : List (Str × Addr)) (fp : List Addr), PG (X.blk s H scope (compEnvC scope cl C X.env) fp) tg gg) (ht : ∀ (s : Shared) (H : Hp) (C : Addr) (cl : List (Str × Addr)) (fp : List Addr), PTs (X.blk s H scope (compEnvC scope cl C X.env) fp) ifs tt)
    (hk : ∀ (s : Shared) (H : Hp) (C : Addr) (cl : List (Str × Addr)) (fp : List Addr), PE (X.blk s H scope (compEnvC scope cl C X.env) fp) kx tk)
    (he : ∀ (s : Shared) (H : Hp) (C : Addr) (cl : List (Str × Addr)) (fp : List Addr), PE (X.blk s H scope (compEnvC scope cl C X.env) fp) vx tv) (hs : ∀ x, foldedSetIterable iter X.env x = pure x) :
    PS X (.Assign [.Name y py] (.DictComp kx vx [⟨tg, iter, ifs, 0⟩] scope pos) spos) (tAsg (tDc wi gg tt tk tv (own.map (·.2))) (gName i)) := by
  refine ⟨fun pins s σ H D I h => ?_⟩
  rw [exec_Assign_Name_used _ _ _ _ hsw]
  refine wpAny_bind (wpAny_standAt (wpAny_bind ?_))
  show wpAny _ X.A (do let _ ← comprehension (.DictComp kx vx [⟨tg, iter, ifs, 0⟩] scope pos) scope X.env (firstIterPos [⟨tg, iter, ifs, 0⟩] pos) newDict false (eval iter X.env) (some (assign (.Name y py) X.env))) _ _ s
  have h : tDc wi gg tt tk tv (own.map (·.2)) σ H (fun x H1 => gName i x σ H1 D.nx) := h
  refine wpAny_bind (thn (dc_core (Qf := fun _ s' => SP X pins D .next s') hc hN I hi ok hg ht hk he hs h fun L C s' m H' I' q hn f => ?_) fun _ s' hq => wpAny_pure (wpAny_pure hq))
  show wpAny _ _ (assign (.Name y py) X.env (.ref L)) _ _ _
  refine wpAny_assign_Name (store_ok2 (v := V.ref L) I' hN hy (.inl hyl) rfl (fun s2 I2 ⟨a, sb, ha⟩ => ?_) (.inr hyl))
  obtain ⟨f0, f1, f2, f3, f4, f5⟩ := f
  have haC : C ≠ a := by
    rcases ha with z | z
    · rw [z]; exact f1
    · exact fun e => f4 y a z e.symm
  refine ⟨m, hn.sameBut sb haC, fun h3 sb3 => ?_⟩
  exact ⟨_, H', I2.turned (t' := s2.toks) (fun b o hb e => (sb3.2 b hb).trans e) f0 f1 f3 f4 f5, q⟩
theorem sw_trueD {kx vx : Expr} {gs : List Comprehension} {scope : Scope} {pos py : Pos} {y : Str} {l : Nat} {env : PySem.Env} (hk : env.scope.kind = .function) (hy : env.scope.names.lookup y = some .local) (hl : (py.line == pos.line) = true)
    (ha : (scope.names.any fun (n, k) => n == y && (k == .local || k == .cell)) = false) : swapsWith (.DictComp kx vx gs scope pos) (some (.Name y py)) l env = pure true := by
  have ky : env.kindOf y = some .local := hy
  have hb : env.blockKind = .function := by unfold PySem.Env.blockKind; rw [hk]; rfl
  unfold swapsWith
  simp only [hb, ky, ha, Expr.pos, hl]
  rfl
theorem s_setDc (cx : Ctx B X) {i : Nat} {y : Str} {py : Pos} {kx vx tg iter : Expr} {ifs : List Expr} {scope : Scope} {own : List (Str × Nat)} {pos spos : Pos} {it ck cv : Z.C} {t : T} {l : Cs} (n : NmAt X i y) (hk : X.env.scope.kind = .function)
    (hi : PI X tg iter (tIt B G W it)) (ok : BlkOk X.N X.env.scope scope own)
    (hg : ∀ s H C cl fp, PG (Blk X scope s H C cl fp) tg (tG B t)) (ht : ∀ s H C cl fp, PTs (Blk X scope s H C cl fp) ifs (tIfs B G XF l)) (hkk : ∀ s H C cl fp, PE (Blk X scope s H C cl fp) kx (tEv B G XF ck)) (hv : ∀ s H C cl fp, PE (Blk X scope s H C cl fp) vx (tEv B G XF cv))
    (hs : ∀ x, foldedSetIterable iter X.env x = pure x) (ho : ∀ i ∈ t.ixs, i ∈ own.map (·.2)) : PS X (.Assign [.Name y py] (.DictComp kx vx [⟨tg, iter, ifs, 0⟩] scope pos) spos) (tS B G W (.set i (.dcomp (own.map (·.2)) ck cv t it l))) := by
  have bk : X.env.blockKind = .function := by unfold PySem.Env.blockKind; rw [hk]; rfl
  by_cases sw : (X.env.scope.names.lookup y = some .local ∧ (py.line == pos.line) = true) ∧ (scope.names.any fun (n, k) => n == y && (k == .local || k == .cell)) = false
  · exact psI (ps_setDc cx.calm cx.nd n.ix sw.1.1 (sw_trueD hk sw.1.1 sw.1.2 sw.2) hi ok hg ht hkk hv hs) fun D σ H q => dc_read ho (rd_set q)
  · refine psI (ps_set cx.nd n.ix n.lc (pe_dc cx.calm cx.nd hi ok hg ht hkk hv hs) ?_ n.fn) fun D σ H q => dc_read ho (rd_set q)
    unfold swapsWith
    have e : (X.env.blockKind == .function && X.env.kindOf y == some .local && py.line == pos.line && !(scope.names.any fun (n, k) => n == y && (k == .local || k == .cell))) = false := by
      apply Bool.eq_false_iff.mpr
      intro h
      simp only [Bool.and_eq_true] at h
      refine sw ⟨⟨?_, h.1.2⟩, by simpa using h.2⟩
      have := h.1.1.2
      simpa [PySem.Env.kindOf] using this
    exact congrArg pure e
theorem s_setLc2 (cx : Ctx B X) {i : Nat} {y : Str} {py : Pos} {elt tg iter tg1 iter1 : Expr} {ifs ifs1 : List Expr} {scope : Scope} {own : List (Str × Nat)} {pos spos : Pos} {it c it1 : Z.C} {t t1 : T} {l l1 : Cs} {code : Z.C} (hcode : code = .comp2 (own.map (·.2)) c t it l t1 it1 l1 ∨ code = .new (.comp2 (own.map (·.2)) c t it l t1 it1 l1)) (n : NmAt X i y) (hk : X.env.scope.kind = .function)
    (hi : PI X tg iter (tIt B G W it)) (ok : BlkOk X.N X.env.scope scope own)
    (hg : ∀ s H C cl fp, PG (Blk X scope s H C cl fp) tg (tG B t)) (ht : ∀ s H C cl fp, PTs (Blk X scope s H C cl fp) ifs (tIfs B G XF l)) (he : ∀ s H C cl fp, PE (Blk X scope s H C cl fp) elt (tEv B G XF c))
    (hi1 : ∀ s H C cl fp, PI (Blk X scope s H C cl fp) tg1 iter1 (tIt B G XF it1)) (hg1 : ∀ s H C cl fp, PG (Blk X scope s H C cl fp) tg1 (tG B t1)) (ht1 : ∀ s H C cl fp, PTs (Blk X scope s H C cl fp) ifs1 (tIfs B G XF l1))
    (hs : ∀ x, foldedSetIterable iter X.env x = pure x) (hs1 : ∀ env x, foldedSetIterable iter1 env x = pure x) (ho : ∀ i ∈ t.ixs, i ∈ own.map (·.2)) (ho1 : ∀ i ∈ t1.ixs, i ∈ own.map (·.2)) :
    PS X (.Assign [.Name y py] (.ListComp elt [⟨tg, iter, ifs, 0⟩, ⟨tg1, iter1, ifs1, 0⟩] scope pos) spos) (tS B G W (.set i code)) := by
  have rd : ∀ {D σ H}, tS B G W (.set i code) D σ H → tEvF B G W (.comp2 (own.map (·.2)) c t it l t1 it1 l1) σ H fun v H1 => D.nx (σ.set i (some v)) H1 := fun {D σ H} h => by
    rcases hcode with e | e
    · subst e; exact rd_frz (rd_set h)
    · subst e; exact rd_new (rd_set h)
  have bk : X.env.blockKind = .function := by unfold PySem.Env.blockKind; rw [hk]; rfl
  by_cases sw : (X.env.scope.names.lookup y = some .local ∧ (py.line == pos.line) = true) ∧ (scope.names.any fun (n, k) => n == y && (k == .local || k == .cell)) = false
  · exact psI (ps_setLc2 cx.calm cx.nd n.ix sw.1.1 (sw_true hk sw.1.1 sw.1.2 sw.2) hi ok ho1 hg ht hi1 hg1 ht1 he hs hs1) fun D σ H q => lc2_read ho (rd q)
  · refine psI (ps_set cx.nd n.ix n.lc (pe_lc2 cx.calm cx.nd hi ok ho1 hg ht hi1 hg1 ht1 he hs hs1) ?_ n.fn) fun D σ H q => lc2_read ho (rd q)
    unfold swapsWith
    have e : (X.env.blockKind == .function && X.env.kindOf y == some .local && py.line == pos.line && !(scope.names.any fun (n, k) => n == y && (k == .local || k == .cell))) = false := by
      apply Bool.eq_false_iff.mpr
      intro h
      simp only [Bool.and_eq_true] at h
      refine sw ⟨⟨?_, h.1.2⟩, by simpa using h.2⟩
      have := h.1.1.2
      simpa [PySem.Env.kindOf] using this
    exact congrArg pure e
/-- list(range(a, b)) -/
theorem rgV_den {a b : Int} : Dens B g H (L2.rgV a b) ((List.range (b - a).toNat).map fun (k : Nat) => Z.D.int (a + (k : Int))) := by
  unfold L2.rgV
  generalize List.range (b - a).toNat = l
  induction l with
  | nil => exact .nil
  | cons x l ih => exact .cons (.int _) ih
theorem pf_lrg2 (cx : Ctx B X) {a b : Expr} {ca cb : Z.C} {p p2 pos pos2 : Pos} (hgl : Gl X "list") (hml : X.mg "list" = none) (hg : Gl X "range") (hm : X.mg "range" = none) (ha : PE X a (tEv B G W ca)) (hb : PE X b (tEv B G W cb)) (na : notStar a = true) (nb : notStar b = true) :
    PE X (.Call (.Name "list" p) [.Call (.Name "range" p2) [a, b] [] pos2] [] pos) (tEvF B G W (.lrg ca cb)) := by
  refine peI (pe_listRg cx.calm hgl hml (prg_2 hg hm ha hb (star_cons na) (star_cons nb) (star_none (by rw [List.all_cons, nb]; rfl)))) fun σ H Q ⟨g, m, e, R, E, q⟩ => ⟨g, m, e, R, E, ?_⟩
  unfold evalC at q
  cases h1 : evalC G ca e m with
  | bad => rw [h1] at q; exact q
  | exc x m' => rw [h1] at q; exact q
  | ok x m1 =>
  rw [h1, Out.bind_ok] at q
  intro g1 H1 x1 R1 v hv
  refine ⟨g1, m1, e, R1, E.ext x1 R, ?_⟩
  cases h2 : evalC G cb e m1 with
  | bad => rw [h2] at q; exact q.elim
  | exc y m' => rw [h2] at q; exact fun g' H' y r => q g' H' (x1.trans y) r
  | ok y m2 =>
  rw [h2, Out.bind_ok] at q
  intro g2 H2 x2 R2 w hw
  cases hd : lrgD x y with
  | none => rw [hd] at q; exact q.elim
  | some d =>
  rw [hd, lift_some] at q
  unfold lrgD at hd
  split at hd
  · rename_i i j
    split at hd
    · rename_i hc
      cases hd
      cases hv
      cases hw
      have hz := sizeLine_eq
      refine ⟨i, j, rfl, rfl, ⟨by omega, by omega, by omega, by omega, by omega⟩, fun qa hq => ?_⟩
      exact q _ _ ((x1.trans x2).trans (Ext.upd R2 hq)) (Rl.upd R2 hq) qa ⟨(x1.trans x2).was hq, R2.fzNone hq, R2.notIn hq, _, upd_same, rgV_den⟩
    · cases hd
  · cases hd
theorem pf_lrg1 (cx : Ctx B X) {b : Expr} {cb : Z.C} {p p2 pos pos2 : Pos} (hgl : Gl X "list") (hml : X.mg "list" = none) (hg : Gl X "range") (hm : X.mg "range" = none) (hb : PE X b (tEv B G W cb)) (nb : notStar b = true) :
    PE X (.Call (.Name "list" p) [.Call (.Name "range" p2) [b] [] pos2] [] pos) (tEvF B G W (.lrg (.con (.int 0)) cb)) := by
  refine peI (pe_listRg cx.calm hgl hml (prg_1 hg hm hb (star_cons nb))) fun σ H Q ⟨g, m, e, R, E, q⟩ => ⟨g, m, e, R, E, ?_⟩
  unfold evalC at q
  rw [show evalC G (.con (.int 0)) e m = .ok (.int 0) m by unfold evalC; rfl, Out.bind_ok] at q
  cases h2 : evalC G cb e m with
  | bad => rw [h2] at q; exact q.elim
  | exc y m' => rw [h2] at q; exact q
  | ok y m2 =>
  rw [h2, Out.bind_ok] at q
  intro g2 H2 x2 R2 w hw
  cases hd : lrgD (.int 0) y with
  | none => rw [hd] at q; exact q.elim
  | some d =>
  rw [hd, lift_some] at q
  unfold lrgD at hd
  split at hd
  · rename_i i j hi
    cases hi
    split at hd
    · rename_i hc
      cases hd
      cases hw
      have hz := sizeLine_eq
      refine ⟨j, rfl, ⟨by omega, by omega, by omega, by omega, by omega⟩, fun qa hq => ?_⟩
      exact q _ _ (x2.trans (Ext.upd R2 hq)) (Rl.upd R2 hq) qa ⟨x2.was hq, R2.fzNone hq, R2.notIn hq, _, upd_same, rgV_den⟩
    · cases hd
  · cases hd
/-- name = [.. for ..], where the name is stored within -/
theorem s_setLc (cx : Ctx B X) {i : Nat} {y : Str} {py : Pos} {elt tg iter : Expr} {ifs : List Expr} {scope : Scope} {own : List (Str × Nat)} {pos spos : Pos} {it c : Z.C} {t : T} {l : Cs} {code : Z.C} (hcode : code = .comp (own.map (·.2)) c t it l ∨ code = .new (.comp (own.map (·.2)) c t it l)) (n : NmAt X i y) (hk : X.env.scope.kind = .function)
    (hi : PI X tg iter (tIt B G W it)) (ok : BlkOk X.N X.env.scope scope own)
    (hg : ∀ s H C cl fp, PG (Blk X scope s H C cl fp) tg (tG B t)) (ht : ∀ s H C cl fp, PTs (Blk X scope s H C cl fp) ifs (tIfs B G XF l)) (he : ∀ s H C cl fp, PE (Blk X scope s H C cl fp) elt (tEv B G XF c))
    (hs : ∀ x, foldedSetIterable iter X.env x = pure x) (ho : ∀ i ∈ t.ixs, i ∈ own.map (·.2)) : PS X (.Assign [.Name y py] (.ListComp elt [⟨tg, iter, ifs, 0⟩] scope pos) spos) (tS B G W (.set i code)) := by
  have rd : ∀ {D σ H}, tS B G W (.set i code) D σ H → tEvF B G W (.comp (own.map (·.2)) c t it l) σ H fun v H1 => D.nx (σ.set i (some v)) H1 := fun {D σ H} h => by
    rcases hcode with e | e
    · subst e; exact rd_frz (rd_set h)
    · subst e; exact rd_new (rd_set h)
  have bk : X.env.blockKind = .function := by unfold PySem.Env.blockKind; rw [hk]; rfl
  by_cases sw : (X.env.scope.names.lookup y = some .local ∧ (py.line == pos.line) = true) ∧ (scope.names.any fun (n, k) => n == y && (k == .local || k == .cell)) = false
  · exact psI (ps_setLc cx.calm cx.nd n.ix sw.1.1 (sw_true hk sw.1.1 sw.1.2 sw.2) hi ok hg ht he hs) fun D σ H q => lc_read ho (rd q)
  · refine psI (ps_set cx.nd n.ix n.lc (pe_lc cx.calm cx.nd hi ok hg ht he hs) ?_ n.fn) fun D σ H q => lc_read ho (rd q)
    unfold swapsWith
    have e : (X.env.blockKind == .function && X.env.kindOf y == some .local && py.line == pos.line && !(scope.names.any fun (n, k) => n == y && (k == .local || k == .cell))) = false := by
      apply Bool.eq_false_iff.mpr
      intro h
      simp only [Bool.and_eq_true] at h
      refine sw ⟨⟨?_, h.1.2⟩, by simpa using h.2⟩
      have := h.1.1.2
      unfold PySem.Env.kindOf at this
      simpa using this
    show pure (X.env.blockKind == .function && X.env.kindOf y == some .local && py.line == pos.line && !(scope.names.any fun (n, k) => n == y && (k == .local || k == .cell))) = pure false
    rw [e]
end Z
/-! X4: code never come to; a starred target; sorted sets. -/
namespace Z
open PySem PySem.Spec PyProof.Rows L2 RZ
variable {B : Bs} {G : Sg} {W : WE} {U : XW} {X : Cx} {g g' g1 g2 : Cfg} {H H' H1 H2 : Hp} {m m' m1 : Mem} {D : Ends} {σ : L2.St} {e : Env}
theorem s_nev {st : Stmt} : PS X st (tS B G W .nev) := psI ps_never fun D σ H ⟨g, m, e, R, E, p⟩ => by
  unfold execS at p
  exact p
theorem pz_nev {x : Expr} : PE X x (tEv B G W .nev) := ⟨fun pins s σ H Q I ⟨g, m, e, R, E, p⟩ => by
  rw [evalC] at p
  exact p.elim⟩
theorem ptz_nev {x : Expr} : PT X x (tEvT B G W .nev) := ⟨fun pins s σ H Q I ⟨g, m, e, R, E, p⟩ => by
  unfold evalT at p
  rw [evalC] at p
  exact p.elim⟩
/-! ### the last target starred -/
def unstar : List Expr → Option (List Expr)
  | [] => none
  | [.Starred x _] => if notStar x then some [x] else none
  | e :: es => if notStar e then (unstar es).map (e :: ·) else none
theorem unstar_ok {env : PySem.Env} : ∀ {es es0 : List Expr}, unstar es = some es0 → (assignEach es env).map (·.2) = (assignEach es0 env).map (·.2) ∧ (assignEach es env).length = (es0.length - 1) + 1 ∧ (assignEach es env).findIdx? (·.1) = some (es0.length - 1) ∧ 0 < es0.length
  | [], _, h => by cases h
  | e :: es, es0, h => by
    by_cases he : notStar e = true
    · have h2 : (unstar es).map (e :: ·) = some es0 := by
        cases es with
        | nil => cases e <;> first | (simp [unstar] at h; done) | (exact absurd he (by simp [notStar]))
        | cons e2 es => cases e <;> first | (simpa [unstar, notStar] using h) | (exact absurd he (by simp [notStar]))
      obtain ⟨es1, h3, rfl⟩ := Option.map_eq_some_iff.mp h2
      obtain ⟨i1, i2, i3, i4⟩ := unstar_ok (env := env) h3
      rw [asg_cons he, asg_cons he]
      refine ⟨by rw [List.map_cons, List.map_cons, i1], by rw [List.length_cons, i2, List.length_cons]; omega, ?_, by simp⟩
      rw [List.findIdx?_cons, i3]
      show Option.map (· + 1) (some (es1.length - 1)) = _
      rw [List.length_cons]
      show some (es1.length - 1 + 1) = some (es1.length + 1 - 1)
      congr 1
      omega
    · cases es with
      | nil =>
        cases e with
        | Starred x p =>
          simp only [unstar] at h
          split at h
          · rename_i hx
            cases h
            refine ⟨?_, rfl, rfl, by simp⟩
            rw [asg_cons hx]
            rfl
          · cases h
        | _ => exact absurd rfl he
      | cons e2 es =>
        cases e <;> first | (exact absurd rfl he) | (simp [unstar, notStar] at h; done)
theorem PGz.num {es : List Expr} {l : Ts} (n : PGz B X es l) : (assignEach es X.env).length = l.num := by
  have : ∀ l : Ts, l.num = l.len := by
    intro l
    induction l using Ts.rec (motive_1 := fun _ => True) <;> first | trivial | rfl | skip
    · rename_i ih; show _ + 1 = _ + 1; rw [ih]
  rw [this]; exact n.len
theorem asg_len {env : PySem.Env} : ∀ es : List Expr, (assignEach es env).length = es.length
  | [] => rfl
  | e :: es => by
    by_cases he : notStar e = true
    · rw [asg_cons he, List.length_cons, List.length_cons, asg_len es]
    · cases e <;> first | exact absurd rfl he | (show (assignEach es env).length + 1 = _; rw [asg_len es]; rfl)
theorem s_unpS (cx : Ctx B X) {l : Ts} {es es0 : List Expr} {k : Nat} {x : Expr} {c : Z.C} {p pos : Pos} (hu : unstar es = some es0) (n : PGz B X es0 l) (h : PE X x (tEv B G W c)) (hs : isComp x = false) (hk : X.env.blockKind = .function) (ht : swNo X.env.scope es x = true) : PS X (.Assign [.Tuple es k p] x pos) (tS B G W (.unpS l c)) := by
  obtain ⟨u1, u2, u3, u4⟩ := unstar_ok (env := X.env) hu
  have hn := n.num
  rw [asg_len] at hn
  refine psI (ps_asg h (pg_star (k := k) (pos := p) cx.calm n.pgs u1 u2 u3) (show swapsWith x (some (.Tuple es k p)) pos.line X.env = pure false from sw_no hs) (sw_none hk ht) rfl) fun D σ H ⟨g, m, e, R, E, p⟩ => ⟨g, m, e, R, E, ?_⟩
  unfold execS at p
  refine (p.post R E).imp fun g1 m1 H1 d x R1 _ q v hv => ?_
  cases hd : starD l.num d with
  | none => rw [hd] at q; exact q.elim
  | some ds =>
  rw [hd] at q
  cases hb : l.bind ds e with
  | none => dsimp only at q; rw [hb] at q; exact q.elim
  | some e' =>
  dsimp only at q
  rw [hb] at q
  have fin : ∀ {a : Addr} {xs : List V} {ys : List Z.D}, Dens B g1 H1 xs ys → (ds = ys.take (l.num - 1) ++ [Z.D.lst (ys.drop (l.num - 1))]) → ∀ p, H1 p = none → tGs B l (xs.take (es0.length - 1) ++ [.ref p]) σ (upd H1 p (.lst (xs.drop (es0.length - 1)))) D.nx := fun {a xs ys} hx e1 p hp => by
    subst e1
    rw [hn]
    have xf := Ext.frz R1 hp (xs := xs.drop (l.num - 1))
    refine ⟨_, m1, e, _, e', Rl.frz R1 hp, (E.ext x R).ext xf R1, (Dens.take _ (hx.ext xf R1)).append (.cons (.lst (.inr rfl) upd_same ((Dens.drop _ hx).ext xf R1)) .nil), hb, fun σ2 E2 _ => ?_⟩
    exact q _ _ σ2 xf (Rl.frz R1 hp) E2
  cases d with
  | tup ys =>
    have hd : (if 0 < l.num ∧ l.num ≤ ys.length + 1 ∧ ys.length ≤ 16000 then some (ys.take (l.num - 1) ++ [Z.D.lst (ys.drop (l.num - 1))]) else none) = some ds := hd
    split at hd
    · rename_i hc
      cases hd
      cases hv with
      | @tup a xs _ h1 h2 =>
        have hl := h2.length
        exact ⟨a, xs, rfl, .inl (by rw [cx.K]; exact h1), by omega, by omega, fin (a := a) h2 rfl⟩
    · cases hd
  | lst ys =>
    have hd : (if 0 < l.num ∧ l.num ≤ ys.length + 1 ∧ ys.length ≤ 16000 then some (ys.take (l.num - 1) ++ [Z.D.lst (ys.drop (l.num - 1))]) else none) = some ds := hd
    split at hd
    · rename_i hc
      cases hd
      cases hv with
      | @lst a xs _ f h1 h2 =>
        have hl := h2.length
        exact ⟨a, xs, rfl, .inr (SqL.of h1), by omega, by omega, fin (a := a) h2 rfl⟩
    · cases hd
  | _ => simp [starD] at hd
/-! ### sorted sets of ints -/
theorem Rl.updExt (R : Rl B g m H) {p : Addr} {o : HO} {φ : Heap → Prop} (h : H p = some (.ext φ)) : Mon g H g (L2.upd H p o) ∧ Rl B g m (L2.upd H p o) := by
  have np : p ∉ g.al := fun z => by
    rcases R.alive z with ⟨_, q⟩ | ⟨_, q⟩ <;> (rw [h] at q; cases q)
  have nf : ¬ g.fz p := fun z => by
    rcases R.trk p z with ⟨_, q⟩ | ⟨_, q⟩ <;> (rw [h] at q; cases q)
  have nt : ∀ a xs, H a = some (.tup xs) → a ≠ p := fun a xs h1 e => by rw [e, h] at h1; cases h1
  have nz : ∀ a o u, H a = some (.frz o u) → a ≠ p := fun a o u h1 e => by rw [e, h] at h1; cases h1
  have x : Mon g H g (L2.upd H p o) := ⟨⟨[], by simp⟩, fun _ h => h, fun a xs f h1 => by rw [upd_ne (show a ≠ p from fun e => nf (e ▸ f))]; exact h1, fun a xs f h1 => by rw [upd_ne (show a ≠ p from fun e => nf (e ▸ f))]; exact h1,
    fun a xs h1 => by rw [upd_ne (nt a _ h1)]; exact h1, fun a o u h1 => by rw [upd_ne (nz a o u h1)]; exact h1⟩
  refine ⟨x, R.nd, R.len, fun n a mo h1 h2 => ?_, R.sep, fun a h1 => ?_⟩
  · have ha : a ∈ g.al := List.mem_of_getElem? h1
    exact MoR.ext x R (fun b hb => upd_ne fun e => np (e ▸ hb)) ha (R.mem n a mo h1 h2)
  · exact (R.trk a h1).to fun o q => by rw [upd_ne (show a ≠ p from fun e => nf (e ▸ h1))]; exact q
theorem insU_mem (k j : Int) : ∀ l : List Int, j ∈ insU k l ↔ j = k ∨ j ∈ l
  | [] => by simp [insU]
  | a :: l => by
    unfold insU
    split
    · simp
    · split
      · rename_i h; subst h; simp
      · simp only [List.mem_cons, insU_mem k j l]
        constructor
        · rintro (h | h | h)
          · exact .inr (.inl h)
          · exact .inl h
          · exact .inr (.inr h)
        · rintro (h | h | h)
          · exact .inr (.inl h)
          · exact .inl h
          · exact .inr (.inr h)
theorem insU_rise (k : Int) : ∀ {l : List Int}, l.Pairwise (· < ·) → (insU k l).Pairwise (· < ·)
  | [], _ => by simp [insU]
  | a :: l, h => by
    rw [List.pairwise_cons] at h
    unfold insU
    split
    · rename_i hk
      rw [List.pairwise_cons, List.pairwise_cons]
      refine ⟨fun b hb => ?_, h⟩
      rcases List.mem_cons.mp hb with rfl | hb
      · exact hk
      · have := h.1 b hb; omega
    · split
      · rw [List.pairwise_cons]; exact h
      · rw [List.pairwise_cons]
        refine ⟨fun b hb => ?_, insU_rise k h.2⟩
        rcases (insU_mem k b l).mp hb with rfl | hb
        · omega
        · exact h.1 b hb
theorem uniq_sorted : ∀ ns : List Int, (uniqI ns).Pairwise (· < ·) ∧ ∀ k, k ∈ uniqI ns ↔ k ∈ ns
  | [] => ⟨.nil, by simp [uniqI]⟩
  | a :: ns => by
    obtain ⟨h1, h2⟩ := uniq_sorted ns
    exact ⟨insU_rise a h1, fun k => by rw [List.mem_cons, ← h2 k]; exact insU_mem a k _⟩
theorem rising_eq : ∀ {as bs : List Int}, as.Pairwise (· < ·) → bs.Pairwise (· < ·) → (∀ k, k ∈ as ↔ k ∈ bs) → as = bs
  | [], [], _, _, _ => rfl
  | [], b :: bs, _, _, h => absurd ((h b).mpr (List.mem_cons_self ..)) (by simp)
  | a :: as, [], _, _, h => absurd ((h a).mp (List.mem_cons_self ..)) (by simp)
  | a :: as, b :: bs, h1, h2, h => by
    rw [List.pairwise_cons] at h1 h2
    have e : a = b := by
      have p1 := (h a).mp (List.mem_cons_self ..)
      have p2 := (h b).mpr (List.mem_cons_self ..)
      rcases List.mem_cons.mp p1 with p1 | p1
      · exact p1
      · rcases List.mem_cons.mp p2 with p2 | p2
        · exact p2.symm
        · have := h1.1 b p2
          have := h2.1 a p1
          omega
    subst e
    rw [rising_eq h1.2 h2.2 fun k => ?_]
    have hk := h k
    constructor
    · intro z
      rcases List.mem_cons.mp (hk.mp (List.mem_cons_of_mem _ z)) with q | q
      · have := h1.1 k z; omega
      · exact q
    · intro z
      rcases List.mem_cons.mp (hk.mpr (List.mem_cons_of_mem _ z)) with q | q
      · have := h2.1 k z; omega
      · exact q
theorem srtc_read {it elt : Z.C} {t : T} {ifs : Cs} {own : List Nat} {σ : L2.St} {H : Hp} {Q : VK} (cx : Ctx B X) (ho : ∀ i ∈ t.ixs, i ∈ own) (h : tEvF B G W (.srtc own elt t it ifs) σ H Q) :
    tSci X.w (tIt B G W it) (tG B t) (tIfs B G XF ifs) (tEv B G XF elt) own σ H fun v H1 => rSortedSet X.w [v] H1 Q := by
  obtain ⟨g, m, e, R, E, p⟩ := h
  refine ⟨g, m, e, R, E, ?_⟩
  rw [evalC] at p
  cases hE : evalIt G it e m with
  | bad => rw [hE] at p; exact p
  | exc x m' => rw [hE] at p; exact p
  | ok S m1 =>
  rw [hE, Out.bind_ok] at p
  intro g1 H1 x1 R1 J vs ds sv hd st0 sz D hD
  cases hG : compGo S.stays (fun e m => evalC G elt e m) (fun e m => evalIfs G ifs e m) t S.items (Z.wipe e own) m1 with
  | bad => rw [hG] at p; exact p.elim
  | exc x m' => rw [hG] at p; exact p.elim
  | ok ys mE =>
  rw [hG, Out.calm_ok, Out.bind_ok] at p
  unfold srtuD at p
  cases hns : asInts ys with
  | none => rw [hns] at p; exact p.elim
  | some ns =>
  rw [hns] at p
  dsimp only at p
  split at p
  case isFalse => exact p.elim
  rename_i h64
  rw [lift_some] at p
  have eys := asInts_eq hns
  have E1 := E.ext x1 R
  have nf : ¬ g1.fz D := R1.fzNone hD
  refine ⟨fun i k Hc => k = S.items.length - i ∧ ∃ g' m' acc tail Sf n, Rl B g' m' Hc ∧ Ext g1 H1 g' Hc ∧ Hc D = some (SetO X.w D Sf n) ∧ (∀ j, Sf j = true ↔ j ∈ acc) ∧ n ≤ acc.length ∧ i ≤ S.items.length ∧
    compGo S.stays (fun e m => evalC G elt e m) (fun e m => evalIfs G ifs e m) t (S.items.drop i) (Z.wipe e own) m' = .ok (tail.map Z.D.int) mE ∧ acc ++ tail = ns,
    ⟨_, rfl, g1, m1, [], ns, _, 0, Rl.upd R1 hD, Ext.upd R1 hD, upd_same, by simp, Nat.zero_le _, Nat.zero_le _, by rw [← eys]; exact hG, rfl⟩, ?_⟩
  rintro i k Hc ⟨rfl, g', m', acc, tail, Sf, n, R', x', hx, hSf, hn, hi, go, ey⟩
  have hds := (hd.ext x' R1)
  have E' : EnvR B g' Hc (L2.wipe σ own) (Z.wipe e own) := (E1.ext x' R1).wipe own
  have na' : D ∉ g'.al := fun z => by
    rcases R'.alive z with ⟨_, q⟩ | ⟨_, q⟩ <;> (rw [hx] at q; cases q)
  by_cases hlt : i < S.items.length
  · right
    rw [List.drop_eq_getElem_cons hlt] at go
    unfold compGo at go
    by_cases hst : S.stays m' = true
    · rw [if_pos hst] at go
      refine ⟨sv.go g' m' Hc i R' hds hst hlt, fun H' => ∃ k', k' < S.items.length - i ∧ k' = S.items.length - (i + 1) ∧ ∃ g' m' acc tail Sf n, Rl B g' m' H' ∧ Ext g1 H1 g' H' ∧ H' D = some (SetO X.w D Sf n) ∧ (∀ j, Sf j = true ↔ j ∈ acc) ∧ n ≤ acc.length ∧ i + 1 ≤ S.items.length ∧
    compGo S.stays (fun e m => evalC G elt e m) (fun e m => evalIfs G ifs e m) t (S.items.drop (i + 1)) (Z.wipe e own) m' = .ok (tail.map Z.D.int) mE ∧ acc ++ tail = ns, fun H' ⟨k', h1, h2⟩ => ⟨k', h1, h2⟩, fun v Hy hy => ?_⟩
      obtain ⟨xy, Ry, hv⟩ := sv.yld g' m' Hc i _ v Hy R' hds hst (List.getElem?_eq_getElem hlt) hy
      cases hb : t.bind S.items[i] (Z.wipe e own) with
      | none => rw [hb] at go; cases go
      | some e2 =>
      rw [hb] at go
      dsimp only at go
      refine ⟨g', m', Z.wipe e own, _, e2, Ry, E'.ext xy R', hv, hb, fun σ2 E2 s2 => ⟨s2 own ho |>.trans ?_, ?_⟩⟩
      · exact wipe_two own fun _ h => h
      · refine ⟨g', m', e2, Ry, E2, ?_⟩
        cases hI : evalIfs G ifs e2 m' with
        | bad => rw [hI] at go; cases go
        | exc x m2 => rw [hI] at go; cases go
        | ok b m2 =>
        rw [hI, Out.bind_ok] at go
        intro g2 H2 x2 R2
        have y2 := xy.trans x2
        have hx2 : H2 D = some (SetO X.w D Sf n) := y2.keep D _ hx na'
        cases b with
        | false =>
          simp only [Bool.false_eq_true, if_false] at go ⊢
          exact ⟨_, by omega, rfl, g2, m2, acc, tail, Sf, n, R2, x'.trans y2, hx2, hSf, hn, hlt, go, ey⟩
        | true =>
          simp only [if_true] at go ⊢
          refine ⟨g2, m2, e2, R2, E2.ext x2 Ry, ?_⟩
          cases hC : evalC G elt e2 m2 with
          | bad => rw [hC] at go; cases go
          | exc x m3 => rw [hC] at go; cases go
          | ok d m3 =>
          rw [hC, Out.bind_ok] at go
          cases hT : compGo S.stays (fun e m => evalC G elt e m) (fun e m => evalIfs G ifs e m) t (S.items.drop (i + 1)) (Z.wipe e own) m3 with
          | bad => rw [hT] at go; cases go
          | exc x m4 => rw [hT] at go; cases go
          | ok tl m4 =>
          rw [hT, Out.bind_ok] at go
          cases tail with
          | nil => cases go
          | cons c tail =>
          rw [List.map_cons] at go
          have go := Out.ok.inj go
          obtain ⟨e7, rfl⟩ := go
          obtain ⟨rfl, rfl⟩ := List.cons.inj e7
          intro g3 H3 x3 R3 w hw
          have y3 := y2.trans x3
          have hx3 : H3 D = some (SetO X.w D Sf n) := y3.keep D _ hx na'
          obtain ⟨mo, R4⟩ := R3.updExt (o := SetO X.w D (fun j => Sf j || decide (j = c)) (if Sf c = true then n else n + 1)) (show H3 D = some (.ext _) from hx3)
          cases hw
          have hl : acc.length + 1 ≤ ns.length := by rw [← ey]; simp
          refine ⟨c, Sf, n, rfl, hx3, ?_, _, by omega, rfl, g3, _, acc ++ [c], tail, _, _, R4, (x'.trans y3).later hD, upd_same, fun j => ?_, ?_, hlt, hT, by rw [List.append_assoc]; exact ey⟩
          · show n + 1 < 4096; omega
          · rw [Bool.or_eq_true, decide_eq_true_eq, hSf j, List.mem_append, List.mem_singleton]
          · rw [List.length_append, List.length_singleton]; split <;> omega
    · rw [if_neg hst] at go; cases go
  · left
    have hi2 : i = S.items.length := by omega
    subst hi2
    rw [List.drop_length] at go
    unfold compGo at go
    by_cases hst : S.stays m' = true
    · rw [if_pos hst] at go
      have go := Out.ok.inj go
      obtain ⟨e7, rfl⟩ := go
      have e8 : tail = [] := by
        cases tail with
        | nil => rfl
        | cons _ _ => cases e7
      subst e8
      rw [List.append_nil] at ey
      subst ey
      refine ⟨sv.stop g' _ Hc R' hds hst, D, Sf, n, rfl, hx, by omega, fun ks q h1 h2 h3 hq => ?_⟩
      obtain ⟨u1, u2⟩ := uniq_sorted acc
      have eu : ks = uniqI acc := rising_eq h1 u1 fun k => (h2 k).trans ((hSf k).trans (u2 k).symm)
      subst eu
      exact FinF.lst R' (FinF.ext (x1.trans x') p) hq (Dens.of_ints _)
    · rw [if_neg hst] at go; cases go
/-- sorted({elt for target in iter if ..}), ints -/
theorem pf_srtc (cx : Ctx B X) {elt tg iter : Expr} {ifs : List Expr} {scope : Scope} {own : List (Str × Nat)} {pos p pos2 : Pos} {it c : Z.C} {t : T} {l : Cs} (hgl : Gl X "sorted") (hm : X.mg "sorted" = none) (hi : PI X tg iter (tIt B G W it)) (ok : BlkOk X.N X.env.scope scope own)
    (hg : ∀ s H C cl fp, PG (Blk X scope s H C cl fp) tg (tG B t)) (ht : ∀ s H C cl fp, PTs (Blk X scope s H C cl fp) ifs (tIfs B G XF l)) (he : ∀ s H C cl fp, PE (Blk X scope s H C cl fp) elt (tEv B G XF c))
    (hs : ∀ x, foldedSetIterable iter X.env x = pure x) (ho : ∀ i ∈ t.ixs, i ∈ own.map (·.2)) : PE X (.Call (.Name "sorted" p) [.SetComp elt [⟨tg, iter, ifs, 0⟩] scope pos] [] pos2) (tEvF B G W (.srtc (own.map (·.2)) c t it l)) := by
  have h1 := pe_sci (pos := pos) cx.calm cx.nd hi ok hg ht he hs
  have ha : PA X [.SetComp elt [⟨tg, iter, ifs, 0⟩] scope pos] _ := pa_cons h1 pa_nil rfl
  refine peI (pe_callB (cr_sortedSet cx.calm) hgl hm (by decide +kernel) ha (by decide) (by decide) rfl rfl) fun σ H Q q => ?_
  have q2 := srtc_read cx ho q
  exact q2
end Z
/-! ZM: methods of lists. -/
namespace Z
open PySem PySem.Spec PyProof.Rows L2 RZ
variable {B : Bs} {G : Sg} {W : WE} {U : XW} {X : Cx} {g g' g1 g2 : Cfg} {H H' H1 H2 : Hp} {m m' m1 : Mem}
def meName : Me → Str
  | .append => "append" | .extend => "extend" | .remove => "remove" | .pop => "pop" | .index => "index" | .count => "count"
def meId : Me → String
  | .append => "list.append" | .extend => "list.extend" | .remove => "list.remove" | .pop => "list.pop" | .index => "list.index" | .count => "list.count"
def rMe (B : Bs) (me : Me) : V → List V → Hp → VK → Prop := fun x xs H Q => ∃ g m o ds d m', Rl B g m H ∧ Den B g H x o ∧ Dens B g H xs ds ∧ mtD me m o ds = some (d, m') ∧ ∀ g' H', Ext g H g' H' → Rl B g' m' H' → ∀ v, Den B g' H' v d → Q v H'
/-- a thing that changes stands where it stands -/
theorem Den.loc_lst {v : V} {n : Nat} {l : List D} (R : Rl B g m H) (h : Den B g H v (.loc n)) (e : m[n]? = some (.lst l)) : ∃ a xs, v = .ref a ∧ g.al[n]? = some a ∧ H a = some (.lst xs) ∧ Dens B g H xs l := by
  cases h with
  | loc ha =>
    obtain ⟨xs, h1, h2⟩ := R.mem n _ _ ha e
    exact ⟨_, xs, rfl, ha, h1, h2⟩
theorem lst_put {Q : VK} {n : Nat} {a : Addr} {l : List D} {xs : List V} {d : D} {v : V} (R : Rl B g m H) (ha : g.al[n]? = some a) (hx : Dens B g H xs l) (q : ∀ g' H', Ext g H g' H' → Rl B g' (m.set n (.lst l)) H' → ∀ v, Den B g' H' v d → Q v H') (hv : Den B g H v d) : Q v (L2.upd H a (.lst xs)) := by
  have x := Ext.put R ha (o := .lst xs)
  exact q g _ x (Rl.put R ha (mo := .lst l) ⟨_, upd_same, hx.ext x R⟩) v (hv.ext x R)
theorem Dens.dropLast : ∀ {vs : List V} {l : List D}, Dens B g H vs l → Dens B g H vs.dropLast l.dropLast
  | _, _, .nil => .nil
  | _, _, .cons h .nil => .nil
  | _, _, .cons h (.cons h2 r) => by
    simp only [List.dropLast_cons_cons]
    exact .cons h (Dens.dropLast (.cons h2 r))
theorem Dens.eraseIdx : ∀ {vs : List V} {l : List D} (k : Nat), Dens B g H vs l → Dens B g H (vs.eraseIdx k) (l.eraseIdx k)
  | _, _, _, .nil => by simp only [List.eraseIdx_nil]; exact .nil
  | _, _, 0, .cons h r => r
  | _, _, k + 1, .cons h r => .cons h (Dens.eraseIdx k r)
theorem find_first {ds : List PyData} {d : PyData} {j : Nat} (h : (ds.findIdx? fun z => PyData.eqv z d) = some j) : ∃ z, ds[j]? = some z ∧ PyData.eqv z d = true ∧ ∀ (i : Nat) (z' : PyData), i < j → ds[i]? = some z' → PyData.eqv z' d = false := by
  rw [List.findIdx?_eq_some_iff_getElem] at h
  obtain ⟨h1, h2, h3⟩ := h
  refine ⟨ds[j], List.getElem?_eq_getElem h1, h2, fun i z' hi e => ?_⟩
  obtain ⟨h4, rfl⟩ := List.getElem?_eq_some_iff.mp e
  have := h3 i hi
  simpa using this
theorem mt_me (cx : Ctx B X) (me : Me) : MtR X (meId me) (rMe B me) := by
  intro pins s σ H x xs v us Q I rx rxs ⟨g, m, o, ds, d, m', R, hx, hds, e, q⟩
  cases me with
  | append =>
    dsimp only [mtD] at e
    split at e
    · rename_i n w
      split at e
      · rename_i l hm
        split at e
        · rename_i hz
          simp only [Option.some.injEq, Prod.mk.injEq] at e
          obtain ⟨rfl, rfl⟩ := e
          obtain ⟨a, ys, rfl, ha, hH, hy⟩ := hx.loc_lst R hm
          obtain ⟨y, rfl, hw⟩ := hds.one
          exact mt_append pins s σ H _ _ v us Q I rx rxs ⟨a, ys, y, rfl, rfl, hH, by rw [hy.length]; exact hz, lst_put R ha (hy.append (.cons hw .nil)) q .non⟩
        · cases e
      · cases e
    · cases e
  | extend =>
    dsimp only [mtD] at e
    split at e
    · rename_i n w
      split at e
      · rename_i l k hm hk
        split at e
        · rename_i hz
          simp only [Option.some.injEq, Prod.mk.injEq] at e
          obtain ⟨rfl, rfl⟩ := e
          obtain ⟨a, ys, rfl, ha, hH, hy⟩ := hx.loc_lst R hm
          obtain ⟨y, rfl, hw⟩ := hds.one
          obtain ⟨b, zs, rfl, hb, hzs⟩ := hw.rdL R hk
          exact mt_extend pins s σ H _ _ v us Q I rx rxs ⟨a, b, ys, zs, rfl, rfl, hH, hb, by rw [hy.length, hzs.length]; exact hz, lst_put R ha (hy.append hzs) q .non⟩
        · cases e
      · cases e
    · cases e
  | remove =>
    dsimp only [mtD] at e
    split at e
    · rename_i n k
      split at e
      · rename_i l hm
        split at e
        · rename_i ns hn
          split at e
          · rename_i hk
            simp only [Option.some.injEq, Prod.mk.injEq] at e
            obtain ⟨rfl, rfl⟩ := e
            obtain ⟨a, ys, rfl, ha, hH, hy⟩ := hx.loc_lst R hm
            obtain ⟨y, rfl, hw⟩ := hds.one
            cases hw
            rw [asInts_eq hn] at hy
            rw [hy.ints] at hH
            obtain ⟨j, j1, j2, j3, j4⟩ := first_at hk
            refine mt_remove pins s σ H _ _ v us Q I rx rxs ⟨a, ns, k, j, rfl, rfl, hH, j2, fun i hi => j3 i hi, ?_⟩
            rw [j4]
            exact lst_put R ha (Dens.of_ints _) q .non
          · cases e
        · cases e
      · cases e
    · cases e
  | pop =>
    dsimp only [mtD] at e
    split at e
    · rename_i n
      split at e
      · rename_i l hm
        split at e
        · rename_i w hw
          simp only [Option.some.injEq, Prod.mk.injEq] at e
          obtain ⟨rfl, rfl⟩ := e
          obtain ⟨a, ys, rfl, ha, hH, hy⟩ := hx.loc_lst R hm
          cases hds
          rw [← hy.length] at hw
          obtain ⟨y, h1, h2⟩ := hy.get hw
          exact mt_pop pins s σ H _ _ v us Q I rx rxs ⟨a, ys, y, rfl, rfl, hH, h1, lst_put R ha hy.dropLast q h2⟩
        · cases e
      · cases e
    · rename_i n i
      split at e
      · rename_i l hm
        split at e
        · rename_i hz
          simp only [Bool.and_eq_true, decide_eq_true_eq] at hz
          split at e
          · rename_i k hk
            split at e
            · rename_i w hw
              simp only [Option.some.injEq, Prod.mk.injEq] at e
              obtain ⟨rfl, rfl⟩ := e
              obtain ⟨a, ys, rfl, ha, hH, hy⟩ := hx.loc_lst R hm
              obtain ⟨y0, rfl, hi⟩ := hds.one
              cases hi
              obtain ⟨y, h1, h2⟩ := hy.get hw
              exact mt_popAt pins s σ H _ _ v us Q I rx rxs ⟨a, ys, i, k, y, rfl, rfl, hH, hz.1, hz.2, by rw [hy.length]; exact hk, h1, lst_put R ha (hy.eraseIdx k) q h2⟩
            · cases e
          · cases e
        · cases e
      · cases e
    · cases e
  | index =>
    dsimp only [mtD] at e
    split at e
    · rename_i w
      split at e
      · rename_i dl dw hp1 hp2
        split at e
        · rename_i hz
          simp only [Bool.and_eq_true] at hz
          split at e
          rotate_left
          · cases e
          rename_i j hj
          simp only [Option.some.injEq, Prod.mk.injEq] at e
          obtain ⟨rfl, rfl⟩ := e
          obtain ⟨y, rfl, hw⟩ := hds.one
          obtain ⟨z, z1, z2, z3⟩ := find_first hj
          have p1 := hx.py R hp1
          have p2 := hw.py R hp2
          rw [← cx.K] at p1 p2
          have hxa : ∃ a, x = .ref a := by
            cases x <;> first | exact ⟨_, rfl⟩ | cases p1
          obtain ⟨a, rfl⟩ := hxa
          exact mt_indexD (by have := cx.un; omega) pins s σ H _ _ v us Q I rx rxs ⟨a, y, dw, dl, j, z, rfl, rfl, p1, p2, hz.1, hz.2, z1, z2, z3, q g H (Ext.refl _ _) R _ (.int _)⟩
        · cases e
      · cases e
    · cases e
  | count =>
    dsimp only [mtD] at e
    split at e
    · rename_i k
      split at e
      · rename_i l hl
        split at e
        rotate_left
        · cases e
        rename_i ns hn
        simp only [Option.some.injEq, Prod.mk.injEq] at e
        obtain ⟨rfl, rfl⟩ := e
        obtain ⟨y, rfl, hw⟩ := hds.one
        cases hw
        obtain ⟨a, ys, rfl, hA, hy⟩ := hx.rdL R hl
        rw [asInts_eq hn] at hy
        rw [hy.ints] at hA
        exact mt_lcount pins s σ H _ _ v us Q I rx rxs ⟨a, ns, k, rfl, rfl, SqL.of hA, q g H (Ext.refl _ _) R _ (.int _)⟩
      · cases e
    · cases e
/-- receivers of the text -/
def objB : Expr → Bool
  | .Name _ _ => true
  | .Subscript _ _ _ => true
  | .Call (.Name _ _) (_ :: _) _ _ => true
  | _ => false
theorem isMe_ty {me : Me} {o : D} {x : V} {K : PySem.W.Frag} (R : Rl B g m H) (h : Den B g H x o) (e : isMe me m o = true) : tyV K "list" x H := by
  have lst : ∀ {l}, rdL m o = some l → tyV K "list" x H := fun {l} e => by
    obtain ⟨a, xs, rfl, hA, _⟩ := h.rdL R e
    exact .inl ⟨rfl, xs, SqL.of hA⟩
  have loc : atList m o = true → tyV K "list" x H := fun e => by
    cases o with
    | loc n =>
      unfold atList at e
      dsimp only at e
      split at e
      · rename_i l hm
        exact lst (l := l) (by simp [Z.rdL, hm])
      · cases e
    | _ => simp [atList] at e
  cases me with
  | index => obtain ⟨l, e⟩ := Option.isSome_iff_exists.mp e; exact lst e
  | count => obtain ⟨l, e⟩ := Option.isSome_iff_exists.mp e; exact lst e
  | _ => exact loc e
theorem me_read {me : Me} {σ : L2.St} {H : Hp} {Q : VK} {oc : Z.C} {l : Cs} {K : PySem.W.Frag} (h : tEv B G W (.mt me oc l) σ H Q) : tEv B G W oc σ H fun x H1 => tyV K "list" x H1 ∧ tEvs B G W l σ H1 fun xs H2 => rMe B me x xs H2 Q := by
  obtain ⟨g, m, e, R, E, p⟩ := h
  refine ⟨g, m, e, R, E, ?_⟩
  rw [evalC] at p
  refine p.bind.imp fun g1 m1 H1 o x1 R1 _ p x hx => ?_
  by_cases ht : isMe me m1 o = true
  · rw [if_pos ht] at p
    refine ⟨isMe_ty R1 hx ht, g1, m1, e, R1, E.ext x1 R, ?_⟩
    refine p.bind.imp fun g2 m2 H2 ds x2 R2 _ p xs hxs => ?_
    cases he : mtD me m2 o ds with
    | none => rw [he] at p; exact p.elim
    | some dm =>
      obtain ⟨d, m'⟩ := dm
      rw [he] at p
      exact ⟨g2, m2, o, ds, d, m', R2, hx.ext x2 R1, hxs, he, p⟩
  · rw [if_neg ht] at p; exact p.elim
theorem slot_me (me : Me) : Slot "list" (meName me) (meId me) := by
  cases me with
  | append => exact PySem.F.slot_list_append
  | extend => exact PySem.F.slot_list_extend
  | remove => exact PySem.F.slot_list_remove
  | pop => exact PySem.F.slot_list_pop
  | index => exact PySem.F.slot_list_index
  | count => exact PySem.F.slot_list_count
theorem type_me (me : Me) : typeOf (.builtin (meId me)) = pure (.type "method_descriptor") := by
  cases me with
  | append => rfl
  | extend => exact PySem.F.type_list_extend
  | remove => exact PySem.F.type_list_remove
  | pop => exact PySem.F.type_list_pop
  | index => exact PySem.F.type_list_index
  | count => exact PySem.F.type_list_count
theorem plain_all {pos : Pos} {env : PySem.Env} : ∀ {es : List Expr}, es.all notStar = true → (backTo pos (starEach es env)).all (fun x => !x.1) = true
  | [], _ => rfl
  | e :: es, h => by
    rw [List.all_cons, Bool.and_eq_true] at h
    rw [star_cons h.1]
    show (!false && (backTo pos (starEach es env)).all (fun x => !x.1)) = true
    rw [plain_all h.2]
    rfl
theorem pz_mt (cx : Ctx B X) {me : Me} {o : Expr} {name : Str} {es : List Expr} {oc : Z.C} {l : Cs} {ap cp : Pos} (hname : name = meName me) (ho : PE X o (tEv B G W oc)) (hob : objB o = true) (ha : PA X es (tEvs B G W l)) (hs : es.all notStar = true) (hl : es.length < 30) (h0 : es = [] → l = .nil) (hline : (ap.endLine == cp.line) = true) :
    PE X (.Call (.Attribute o name ap) es [] cp) (tEv B G W (.mt me oc l)) := by
  subst hname
  have hb : attributeBase o (meName me) X.env (eval o X.env) = eval o X.env := by
    unfold objB at hob
    split at hob <;> first | rfl | exact absurd hob (by simp)
  cases es with
  | nil =>
    obtain rfl := h0 rfl
    refine peI (pe_bm0 (T := "list") (id := meId me) PySem.F.plainAttrs_list (slot_me me) (type_me me) (mt_me cx me) ho hb hline) fun σ H Q h => ?_
    obtain ⟨g, m, e, R, E, p⟩ := me_read (K := X.K) h
    refine ⟨g, m, e, R, E, p.imp fun g1 m1 H1 o x1 R1 _ p x hx => ?_⟩
    obtain ⟨ty, g2, m2, e2, R2, E2, p2⟩ := p x hx
    rw [evalCs_nil] at p2
    exact ⟨ty, p2.ok0 R2 [] .nil⟩
  | cons e1 es =>
    have hs' := hs
    rw [List.all_cons, Bool.and_eq_true] at hs
    refine peI (pe_bm (T := "list") (id := meId me) PySem.F.plainAttrs_list (slot_me me) (type_me me) (mt_me cx me) ho ha hb ?_ hline (star_cons hs.1) (star_none hs.2)) fun σ H Q h => me_read h
    rw [plain_all hs']
    show (true && true && decide ((e1 :: es).length + 0 + 0 < 30)) = true
    rw [decide_eq_true (by simpa using hl)]
    rfl
end Z
/-! ZD: from the text to code, with its proof at hand: expressions. -/
namespace Z
open PySem PySem.Spec PyProof.Rows L2 RZ

/-- what is known of a place before the run -/
structure Gm where
  N : List Str
  sc : Scope
  fc : Str → Bool
  fns : List (Str × Nat)
  bl : List Str
  np : Nat → Option Nat
  shs : List Shp
  mu : List Nat
  gc : List (Str × D)
/-- a place as it is known -/
structure On (Γ : Gm) (B : Bs) (G : Sg) (W : WE) (X : Cx) : Prop extends Fits B G W (· ∈ Γ.shs) X where
  N : X.N = Γ.N
  sc : X.env.scope = Γ.sc
  kd : X.env.scope.kind = .function
  fn : ∀ x, Γ.fc x = true → X.fn x = true
  fns : ∀ x n, Γ.fns.lookup x = some n → ∃ a, B.fa n = some a ∧ X.mg x = some (.ref a)
  ar : ∀ n c, Γ.np n = some c → B.ar n = some c
  blt : ∀ x ∈ Γ.bl, X.mg x = none
  gcs : ∀ x d, Γ.gc.lookup x = some d → ∃ u v, X.mg x = some u ∧ RelV v u ∧ ∀ g H, Den B g H v d
theorem On.fnsA {Γ : Gm} {B : Bs} {G : Sg} {W : WE} {X : Cx} (o : On Γ B G W X) {x : Str} {n : Nat} (h : Γ.fns.lookup x = some n) : ∀ a, B.fa n = some a → X.mg x = some (.ref a) := fun a ha => by
  obtain ⟨b, h1, h2⟩ := o.fns x n h
  rw [ha] at h1
  cases h1
  exact h2
def Gm.blk (Γ : Gm) (scope : Scope) : Gm := { Γ with sc := relS scope Γ.sc, fc := fun x => scope.names.lookup x == some .cell }
theorem On.blk {Γ : Gm} {B : Bs} {G : Sg} {W : WE} {X : Cx} (o : On Γ B G W X) {scope : Scope} (hk : scope.kind = .function) (s : Shared) (H : Hp) (C : Addr) (cl : List (PySem.Str × Addr)) (fp : List Addr) : On (Γ.blk scope) B G XF (Blk X scope s H C cl fp) := by
  refine ⟨⟨⟨o.K, o.calm, o.nd, o.un, o.gd⟩, o.lv, fun σ pins H s e s' I c => ?_⟩, o.N, ?_, hk, fun x h => h, o.fns, o.ar, o.blt, o.gcs⟩
  · obtain ⟨_, _, _, _, _, _, _, _, _, _, _, _, _, _, _, _, _, _, _, q⟩ := c
    exact q.elim
  · show relS scope X.env.scope = relS scope Γ.sc
    rw [o.sc]

/-! ### what is brought, with its proof -/
structure RE (Γ : Gm) (x : Expr) where
  c : Z.C
  ok : ∀ {B G W X}, On Γ B G W X → PE X x (tEv B G W c)
  f : Bool
  okf : f = true → ∀ {B G W X}, On Γ B G W X → PE X x (tEvF B G W c)
structure RT (Γ : Gm) (x : Expr) where
  c : Z.C
  ok : ∀ {B G W X}, On Γ B G W X → PT X x (tEvT B G W c)
structure RW (Γ : Gm) (x : Expr) where
  c : Z.C
  ok : ∀ {B G W X}, On Γ B G W X → PW X x (tEvT B G W c)
structure RA (Γ : Gm) (es : List Expr) where
  l : Cs
  ok : ∀ {B G W X}, On Γ B G W X → PA X es (tEvs B G W l)
  len : l.len = es.length
  ns : es.all notStar = true
  nil : es = [] → l = .nil
structure RO (Γ : Gm) (x : Option Expr) where
  c : Co
  ok : ∀ {B G W X}, On Γ B G W X → PO X x (tCo B G W c)
structure RI (Γ : Gm) (tg x : Expr) where
  c : Z.C
  ok : ∀ {B G W X}, On Γ B G W X → PI X tg x (tIt B G W c)
structure RG (Γ : Gm) (tg : Expr) where
  t : T
  ok : ∀ {B G W X}, On Γ B G W X → PG X tg (tG B t)
def RE.one {Γ : Gm} {x : Expr} (c : Z.C) (ok : ∀ {B G W X}, On Γ B G W X → PE X x (tEv B G W c)) : RE Γ x := ⟨c, ok, false, fun h => nomatch h⟩
def RE.new {Γ : Gm} {x : Expr} (c : Z.C) (ok : ∀ {B G W X}, On Γ B G W X → PE X x (tEvF B G W c)) : RE Γ x := ⟨c, fun o => tEvF_of (ok o), true, fun _ {_ _ _ _} o => ok o⟩
def slot (N : List Str) (x : Str) : Nat := (N.findIdx? (· == x)).getD N.length
def visB (sc : Scope) (x : Str) : Bool := match sc.names.lookup x with
  | some .local => true
  | some .cell => true
  | some .free => true
  | _ => false
theorem vis_of {sc : Scope} {x : Str} (h : visB sc x = true) : Vis sc x := by
  unfold visB at h
  split at h
  · rename_i e; exact .inl e
  · rename_i e; exact .inr (.inl e)
  · rename_i e; exact .inr (.inr e)
  · cases h
def glB (sc : Scope) (x : Str) : Bool := match sc.names.lookup x with
  | some .globalImplicit => true
  | _ => false
theorem gl_of {Γ : Gm} {B : Bs} {G : Sg} {W : WE} {X : Cx} {x : Str} (o : On Γ B G W X) (h : glB Γ.sc x = true) : Gl X x := by
  unfold glB at h
  split at h
  · rename_i e
    show X.env.scope.names.lookup x = _
    rw [o.sc]; exact e
  · cases h
def plainNm (x : Str) : Bool := !(x == ("__debug__" : Str)) && !(x == ("__classdict__" : Str)) && !decide (x = "__name__")
theorem plainNm_of {x : Str} (h : plainNm x = true) : (x == ("__debug__" : Str)) = false ∧ (x == ("__classdict__" : Str)) = false ∧ x ≠ "__name__" := by
  unfold plainNm at h
  simp only [Bool.and_eq_true, Bool.not_eq_true', decide_eq_false_iff_not] at h
  exact ⟨h.1.1, h.1.2, h.2⟩
def trVar (Γ : Gm) (x : Str) (pos : Pos) : Option (RE Γ (.Name x pos)) :=
  if h1 : Γ.N[slot Γ.N x]? = some x then if h2 : visB Γ.sc x = true then if h3 : plainNm x = true then
    some (.one (.var (slot Γ.N x)) fun o => pz_var (by rw [o.N]; exact h1) (vis_of (by rw [o.sc]; exact h2)) (plainNm_of h3).1 (plainNm_of h3).2.1)
  else none else none else none
theorem pz_ty {Γ : Gm} {B : Bs} {G : Sg} {W : WE} {X : Cx} {x : Str} {pos : Pos} (o : On Γ B G W X) {s : String} (hx : glB Γ.sc x = true ∧ x ∈ Γ.bl ∧ plainNm x = true) (hv : bootBuiltins x = some (.type s)) : PE X (.Name x pos) (tEv B G W (.con (.ty s))) :=
  pz_con (pe_bltn (v := .ty s) (gl_of o hx.1) (o.blt x hx.2.1) hv rfl (plainNm_of hx.2.2).2.2 (plainNm_of hx.2.2).1) fun g H => .ty s
def trTy (Γ : Gm) (x : Str) (pos : Pos) : Option (RE Γ (.Name x pos)) :=
  if hx : glB Γ.sc x = true ∧ x ∈ Γ.bl ∧ plainNm x = true then
    if e : x = "int" then some (.one (.con (.ty "int")) fun o => pz_ty o hx (by rw [e]; decide +kernel))
    else if e : x = "bool" then some (.one (.con (.ty "bool")) fun o => pz_ty o hx (by rw [e]; decide +kernel))
    else if e : x = "str" then some (.one (.con (.ty "str")) fun o => pz_ty o hx (by rw [e]; decide +kernel))
    else if e : x = "tuple" then some (.one (.con (.ty "tuple")) fun o => pz_ty o hx (by rw [e]; decide +kernel))
    else if e : x = "list" then some (.one (.con (.ty "list")) fun o => pz_ty o hx (by rw [e]; decide +kernel))
    else none
  else none
def trGc (Γ : Gm) (x : Str) (pos : Pos) : Option (RE Γ (.Name x pos)) := match h : Γ.gc.lookup x with
  | some d => if hx : glB Γ.sc x = true ∧ plainNm x = true then some (.one (.con d) fun o => by
      obtain ⟨u, v, h1, h2, h3⟩ := o.gcs x d h
      exact pz_gcon (gl_of o hx.1) h1 h2 h3 (plainNm_of hx.2).1) else none
  | none => none
def trFn (Γ : Gm) (x : Str) (pos : Pos) : Option (RE Γ (.Name x pos)) := match h : Γ.fns.lookup x with
  | some n => match hc : Γ.np n with
    | some c => if hx : glB Γ.sc x = true ∧ plainNm x = true then some (.one (.con (.fn n c)) fun o => by
        obtain ⟨a, h1, h2⟩ := o.fns x n h
        exact pz_gcon (v := .ref a) (gl_of o hx.1) h2 rfl (fun g H => .fn h1 (o.ar n c hc)) (plainNm_of hx.2).1) else none
    | none => none
  | none => none
def trName (Γ : Gm) (x : Str) (pos : Pos) : Option (RE Γ (.Name x pos)) := match trVar Γ x pos with
  | some r => some r
  | none => match trTy Γ x pos with
    | some r => some r
    | none => match trGc Γ x pos with
      | some r => some r
      | none => trFn Γ x pos
def trConst (Γ : Gm) : (c : Const) → (k : Nat) → (pos : Pos) → Option (RE Γ (.Constant c k pos))
  | .none, _, _ => some (.one (.con .non) fun _ => pz_con pe_non fun _ _ => .non)
  | .bool b, _, _ => some (.one (.con (.bl b)) fun _ => pz_con pe_bl fun _ _ => .bl b)
  | .int i, _, _ => some (.one (.con (.int i)) fun _ => pz_con pe_int fun _ _ => .int i)
  | .str s, _, _ => some (.one (.con (.str s)) fun _ => pz_con pe_str fun _ _ => .str s)
  | _, _, _ => none
def trEs {Γ : Gm} (rec : (x : Expr) → Option (RE Γ x)) : (es : List Expr) → Option (RA Γ es)
  | [] => some ⟨.nil, fun _ => az_nil, rfl, rfl, fun _ => rfl⟩
  | e :: es => if hn : notStar e = true then match rec e, trEs rec es with
    | some r, some s => some ⟨.cons r.c s.l, fun o => az_cons (r.ok o) (s.ok o) (star_cons hn), by show s.l.len + 1 = es.length + 1; rw [s.len], by rw [List.all_cons, hn, s.ns]; rfl, fun h => nomatch h⟩
    | _, _ => none
    else none
def trO {Γ : Gm} (rec : (x : Expr) → Option (RE Γ x)) : (x : Option Expr) → Option (RO Γ x)
  | none => some ⟨.none, fun _ => oz_none⟩
  | some e => match rec e with
    | some r => some ⟨.some r.c, fun o => oz_some (r.ok o)⟩
    | none => none
def trBool {Γ : Gm} (rec : (x : Expr) → Option (RE Γ x)) : (op : BoolOp) → (es : List Expr) → (pos : Pos) → Option (RE Γ (.BoolOp op es pos))
  | _, [], _ => none
  | _, [a], _ => match rec a with
    | some r => some (.one r.c fun o => pz_one (r.ok o))
    | none => none
  | .And, a :: b :: es, pos => match rec a, trBool rec .And (b :: es) pos with
    | some r, some s => some (.one (.and r.c s.c) fun o => pz_and (r.ok o) (s.ok o))
    | _, _ => none
  | .Or, a :: b :: es, pos => match rec a, trBool rec .Or (b :: es) pos with
    | some r, some s => some (.one (.or r.c s.c) fun o => pz_or (r.ok o) (s.ok o))
    | _, _ => none
def trBoolT {Γ : Gm} (rec : (x : Expr) → Option (RT Γ x)) : (op : BoolOp) → (es : List Expr) → (pos : Pos) → Option (RW Γ (.BoolOp op es pos))
  | _, [], _ => none
  | .And, [a], _ => match rec a with
    | some r => some ⟨r.c, fun o => tw_and1 (r.ok o)⟩
    | none => none
  | .Or, [a], _ => match rec a with
    | some r => some ⟨r.c, fun o => tw_or1 (r.ok o)⟩
    | none => none
  | .And, a :: b :: es, pos => match rec a, trBoolT rec .And (b :: es) pos with
    | some r, some s => some ⟨.and r.c s.c, fun o => tz_and (r.ok o) (s.ok o)⟩
    | _, _ => none
  | .Or, a :: b :: es, pos => match rec a, trBoolT rec .Or (b :: es) pos with
    | some r, some s => some ⟨.or r.c s.c, fun o => tz_or (r.ok o) (s.ok o)⟩
    | _, _ => none
def biOf (x : Str) : Option Bi :=
  if x = "isinstance" then some .isinst else if x = "all" then some .all else if x = "any" then some .any else if x = "sum" then some .sum else if x = "len" then some .len
  else if x = "list" then some .list else if x = "tuple" then some .tuple else if x = "sorted" then some .sorted else if x = "repr" then some .repr else if x = "str" then some .str else if x = "int" then some .int else if x = "min" then some .min else if x = "max" then some .max else none
structure RK (Γ : Gm) (kws : List Keyword) where
  ns : List Str
  l : Cs
  ok : ∀ {B G W X}, On Γ B G W X → KwZ B G W X kws ns l
def trKws {Γ : Gm} (rec : (x : Expr) → Option (RE Γ x)) : (ks : List Keyword) → Option (RK Γ ks)
  | [] => some ⟨[], .nil, fun _ => .nil⟩
  | ⟨some k, v, pos⟩ :: ks => match rec v, trKws rec ks with
    | some r, some s => some ⟨k :: s.ns, .cons r.c s.l, fun o => .cons (r.ok o) (s.ok o)⟩
    | _, _ => none
  | _ => none
def trCallV {Γ : Gm} (rec : (x : Expr) → Option (RE Γ x)) (x : Str) (p : Pos) (es : List Expr) (pos : Pos) : Option (RE Γ (.Call (.Name x p) es [] pos)) :=
  if h1 : Γ.N[slot Γ.N x]? = some x ∧ visB Γ.sc x = true ∧ plainNm x = true then match trEs rec es with
    | none => none
    | some a => some (.one (.calv (slot Γ.N x) a.l) fun o => pz_calv o.toFits (by rw [o.N]; exact h1.1) (vis_of (by rw [o.sc]; exact h1.2.1)) (plainNm_of h1.2.2).1 (plainNm_of h1.2.2).2.1 (a.ok o) a.ns a.nil)
  else none
def trCallF {Γ : Gm} (rec : (x : Expr) → Option (RE Γ x)) (x : Str) (p : Pos) (es : List Expr) (pos : Pos) : Option (RE Γ (.Call (.Name x p) es [] pos)) :=
  match h : Γ.fns.lookup x with
  | none => none
  | some n => if hx : glB Γ.sc x = true ∧ plainNm x = true then match trEs rec es with
    | none => none
    | some a => if hn : Γ.np n = some a.l.len then
        some (.one (.call n a.l) fun o => pz_call o.toFits (o.ar _ _ hn) rfl (gl_of o hx.1) (o.fnsA h) (a.ok o) a.ns a.nil (plainNm_of hx.2).1)
      else none
    else none
def bi2Of (x : Str) : Option Bi := if x = "min" then some .min2 else if x = "max" then some .max2 else none
def trCallB2 {Γ : Gm} (rec : (x : Expr) → Option (RE Γ x)) (x : Str) (p : Pos) (es : List Expr) (pos : Pos) : Option (RE Γ (.Call (.Name x p) es [] pos)) :=
  match bi2Of x with
  | none => none
  | some b => if hx : x = biName b ∧ glB Γ.sc x = true ∧ x ∈ Γ.bl then match es with
    | [e, e2] => match trEs rec [e, e2] with
      | none => none
      | some a => some (.new (.bi b a.l) fun o => pf_bi o.toCtx hx.1 (gl_of o hx.2.1) (o.blt x hx.2.2) (a.ok o) a.ns)
    | _ => none
    else none
def trSrtR {Γ : Gm} (rec : (x : Expr) → Option (RE Γ x)) : (x : Str) → (p : Pos) → (es : List Expr) → (kws : List Keyword) → (pos : Pos) → Option (RE Γ (.Call (.Name x p) es kws pos))
  | x, p, [e], [⟨some kn, .Constant (.bool true) j tp, kp⟩], pos => if h : x = "sorted" ∧ kn = "reverse" ∧ glB Γ.sc x = true ∧ x ∈ Γ.bl ∧ notStar e = true then match rec e with
    | some r => some (.new (.srtR r.c) fun o => by obtain ⟨rfl, rfl, h3, h4, h5⟩ := h; exact pf_srtR o.toCtx (gl_of o h3) (o.blt _ h4) (r.ok o) h5)
    | none => none
    else none
  | _, _, _, _, _ => none
def meOf (x : Str) : Option Me := if x = "append" then some .append else if x = "extend" then some .extend else if x = "remove" then some .remove else if x = "pop" then some .pop else if x = "index" then some .index else if x = "count" then some .count else none
def trMt {Γ : Gm} (rec : (x : Expr) → Option (RE Γ x)) (o : Expr) (name : Str) (ap : Pos) (es : List Expr) (cp : Pos) : Option (RE Γ (.Call (.Attribute o name ap) es [] cp)) :=
  match meOf name with
  | none => none
  | some me => if h : name = meName me ∧ objB o = true ∧ es.length < 30 ∧ (ap.endLine == cp.line) = true then match rec o, trEs rec es with
    | some r, some a => some (.one (.mt me r.c a.l) fun w => pz_mt w.toCtx h.1 (r.ok w) h.2.1 (a.ok w) a.ns h.2.2.1 a.nil h.2.2.2)
    | _, _ => none
    else none
def trCallB {Γ : Gm} (rec : (x : Expr) → Option (RE Γ x)) (x : Str) (p : Pos) (es : List Expr) (pos : Pos) : Option (RE Γ (.Call (.Name x p) es [] pos)) :=
  match biOf x with
  | none => none
  | some b => if hx : x = biName b ∧ glB Γ.sc x = true ∧ x ∈ Γ.bl then match es with
    | [] => none
    | e :: es => match trEs rec (e :: es) with
      | none => none
      | some a => some (.new (.bi b a.l) fun o => pf_bi o.toCtx hx.1 (gl_of o hx.2.1) (o.blt x hx.2.2) (a.ok o) a.ns)
    else none
def trCallK {Γ : Gm} (rec : (x : Expr) → Option (RE Γ x)) (x : Str) (p : Pos) (es : List Expr) (kws : List Keyword) (pos : Pos) : Option (RE Γ (.Call (.Name x p) es kws pos)) :=
  match h : Γ.fns.lookup x with
  | none => none
  | some n => if hx : glB Γ.sc x = true ∧ plainNm x = true then match trEs rec es, trKws rec kws with
    | some a, some b => match hs : Γ.shs.find? (fun s => s.n == n && s.npos == es.length && s.ks == b.ns) with
      | none => none
      | some s => if hn : s.n = n ∧ a.l.len = s.npos ∧ b.ns = s.ks then
          some (.one (.callk s.n s.np a.l s.ix b.l s.df) fun o => pz_callk (s := s) o.toFits (List.mem_of_find?_eq_some hs) (gl_of o hx.1) (by rw [hn.1]; exact o.fnsA h) (a.ok o) hn.2.1 (by rw [← hn.2.2]; exact b.ok o) a.ns a.nil (plainNm_of hx.2).1)
        else none
    | _, _ => none
    else none
structure RV (Γ : Gm) (ks : List (Option Expr)) (vs : List Expr) where
  ns : List Str
  l : Cs
  ok : ∀ {B G W X}, On Γ B G W X → DV B G W X ks vs ns l
def trDict {Γ : Gm} (rec : (x : Expr) → Option (RE Γ x)) : (ks : List (Option Expr)) → (vs : List Expr) → Option (RV Γ ks vs)
  | [], [] => some ⟨[], .nil, fun _ => .nil⟩
  | some (.Constant (.str k) j pos) :: ks, v :: vs => match rec v, trDict rec ks vs with
    | some r, some s => some ⟨k :: s.ns, .cons r.c s.l, fun o => .cons (r.ok o) (s.ok o)⟩
    | _, _ => none
  | _, _ => none
/-! ### sources, targets -/
def locB (sc : Scope) (x : Str) : Bool := match sc.names.lookup x with
  | some .local => true
  | some .cell => true
  | _ => false
def isLoc (sc : Scope) (x : Str) : Bool := match sc.names.lookup x with
  | some .local => true
  | _ => false
theorem isLoc_of {sc : Scope} {x : Str} (h : isLoc sc x = true) : sc.names.lookup x = some .local := by
  unfold isLoc at h
  split at h
  · assumption
  · cases h
def nmB (Γ : Gm) (i : Nat) (x : Str) : Bool := decide (Γ.N[i]? = some x) && locB Γ.sc x && (Γ.fc x || isLoc Γ.sc x)
theorem nm_of {Γ : Gm} {B : Bs} {G : Sg} {W : WE} {X : Cx} {i : Nat} {x : Str} (o : On Γ B G W X) (h : nmB Γ i x = true) : NmAt X i x := by
  unfold nmB at h
  simp only [Bool.and_eq_true, decide_eq_true_eq, Bool.or_eq_true] at h
  refine ⟨by rw [o.N]; exact h.1.1, ?_, h.2.imp (o.fn x) fun z => by rw [o.sc]; exact isLoc_of z⟩
  have q := h.1.2
  unfold locB at q
  rw [o.sc]
  split at q
  · rename_i e; exact .inl e
  · rename_i e; exact .inr e
  · cases q
structure RP (Γ : Gm) (es : List Expr) where
  l : Ts
  ok : ∀ {B G W X}, On Γ B G W X → PGz B X es l
def trTgs {Γ : Gm} (rec : (x : Expr) → Option (RG Γ x)) : (es : List Expr) → Option (RP Γ es)
  | [] => some ⟨.nil, fun _ => pgz_nil⟩
  | x :: es => if hn : notStar x = true then match rec x, trTgs rec es with
    | some r, some s => some ⟨.cons r.t s.l, fun o => pgz_cons hn (r.ok o) (s.ok o)⟩
    | _, _ => none
    else none
def trTgN (Γ : Gm) : Nat → (tg : Expr) → Option (RG Γ tg)
  | _ + 1, .Name x pos => if h : nmB Γ (slot Γ.N x) x = true then some ⟨.nm (slot Γ.N x), fun o => gz_name o.toCtx (nm_of o h)⟩ else none
  | n + 1, .Tuple es k pos => match trTgs (trTgN Γ n) es with
    | some r => some ⟨.tp r.l, fun o => gz_tup o.toCtx (r.ok o)⟩
    | none => none
  | _, _ => none
def trTg (Γ : Gm) (tg : Expr) : Option (RG Γ tg) := trTgN Γ 6 tg
def trPlainI {Γ : Gm} (rec : (x : Expr) → Option (RE Γ x)) (tg x : Expr) : Option (RI Γ tg x) := match rec x with
  | some r => if h : plainIt r.c = true then some ⟨r.c, fun o => iz_plain o.toCtx (r.ok o) h⟩ else none
  | none => none
def trRng {Γ : Gm} (rec : (x : Expr) → Option (RE Γ x)) (tg : Expr) : (x : Expr) → Option (RI Γ tg x)
  | .Call (.Name x p) [a] [] pos => if h : x = "range" ∧ glB Γ.sc x = true ∧ x ∈ Γ.bl ∧ notStar a = true then match rec a with
    | some r => some ⟨.rng r.c, fun o => by obtain ⟨rfl, h2, h3, h4⟩ := h; exact iz_rng (r.ok o) (gl_of o h2) (o.blt _ h3) h4⟩
    | none => none
    else none
  | _ => none
def trRng2 {Γ : Gm} (rec : (x : Expr) → Option (RE Γ x)) (tg : Expr) : (x : Expr) → Option (RI Γ tg x)
  | .Call (.Name x p) [a, b] [] pos => if h : x = "range" ∧ glB Γ.sc x = true ∧ x ∈ Γ.bl ∧ notStar a = true ∧ notStar b = true then match rec a, rec b with
    | some r, some s => some ⟨.rng2 r.c s.c, fun o => by obtain ⟨rfl, h2, h3, h4, h5⟩ := h; exact iz_rng2 (r.ok o) (s.ok o) (gl_of o h2) (o.blt _ h3) h4 h5⟩
    | _, _ => none
    else none
  | _ => none
def trEnum {Γ : Gm} (rec : (x : Expr) → Option (RE Γ x)) : (tg x : Expr) → Option (RI Γ tg x)
  | .Tuple es k tp, .Call (.Name x p) [a] [] pos => if h : x = "enumerate" ∧ glB Γ.sc x = true ∧ x ∈ Γ.bl ∧ notStar a = true then match rec a with
    | some r => some ⟨.enum r.c, fun o => by obtain ⟨rfl, h2, h3, h4⟩ := h; exact iz_enum o.toCtx (r.ok o) (gl_of o h2) (o.blt _ h3) h4⟩
    | none => none
    else none
  | _, _ => none
def trZip {Γ : Gm} (rec : (x : Expr) → Option (RE Γ x)) : (tg x : Expr) → Option (RI Γ tg x)
  | .Tuple es k tp, .Call (.Name x p) [a, b] [] pos => if h : x = "zip" ∧ glB Γ.sc x = true ∧ x ∈ Γ.bl ∧ notStar a = true ∧ notStar b = true then match rec a, rec b with
    | some r, some s => some ⟨.zip r.c s.c, fun o => by obtain ⟨rfl, h2, h3, h4, h5⟩ := h; exact iz_zip o.toCtx (r.ok o) (s.ok o) (gl_of o h2) (o.blt _ h3) h4 h5⟩
    | _, _ => none
    else none
  | _, _ => none
def trIt {Γ : Gm} (rec : (x : Expr) → Option (RE Γ x)) (tg x : Expr) : Option (RI Γ tg x) := match trRng rec tg x with
  | some r => some r
  | none => match trZip rec tg x with
    | some r => some r
    | none => match trRng2 rec tg x with
      | some r => some r
      | none => match trEnum rec tg x with
        | some r => some r
        | none => trPlainI rec tg x
def notSet : Expr → Bool
  | .Set _ _ _ => false
  | _ => true
theorem notSet_of {x : Expr} {env : PySem.Env} (h : notSet x = true) : ∀ v, foldedSetIterable x env v = pure v := fun v => by
  cases x <;> first | rfl | (exact absurd h (by simp [notSet]))
/-! ### comprehensions -/
structure RC (Γ : Gm) (elt tg iter : Expr) (ifs : List Expr) (scope : Scope) where
  own : List (Str × Nat)
  it : Z.C
  c : Z.C
  t : T
  l : Cs
  hi : ∀ {B G W X}, On Γ B G W X → PI X tg iter (tIt B G W it)
  ok : ∀ {B G W X}, On Γ B G W X → BlkOk X.N X.env.scope scope own
  hg : ∀ {B G W X}, On Γ B G W X → ∀ s H C cl fp, PG (Blk X scope s H C cl fp) tg (tG B t)
  ht : ∀ {B G W X}, On Γ B G W X → ∀ s H C cl fp, PTs (Blk X scope s H C cl fp) ifs (tIfs B G XF l)
  he : ∀ {B G W X}, On Γ B G W X → ∀ s H C cl fp, PE (Blk X scope s H C cl fp) elt (tEv B G XF c)
  hs : notSet iter = true
  ho : ∀ i ∈ t.ixs, i ∈ own.map (·.2)
structure RF (Γ : Gm) (ifs : List Expr) where
  l : Cs
  ok : ∀ {B G W X}, On Γ B G W X → PTs X ifs (tIfs B G W l)
def trIfs {Γ : Gm} (recT : (x : Expr) → Option (RT Γ x)) : (ifs : List Expr) → Option (RF Γ ifs)
  | [] => some ⟨.nil, fun _ => fz_nil⟩
  | [c] => match recT c with
    | some r => some ⟨.cons r.c .nil, fun o => fz_one (r.ok o)⟩
    | none => none
  | _ => none
def ownOf (N : List Str) (scope : Scope) : List (Str × Nat) := scope.names.filterMap fun p => match p.2 with
  | .local => if N.contains p.1 then some (p.1, slot N p.1) else none
  | .cell => if N.contains p.1 then some (p.1, slot N p.1) else none
  | _ => none
def trComp {Γ : Gm} (rec : ∀ Γ (x : Expr), Option (RE Γ x)) (recT : ∀ Γ (x : Expr), Option (RT Γ x)) (elt tg iter : Expr) (ifs : List Expr) (scope : Scope) : Option (RC Γ elt tg iter ifs scope) :=
  if hk : scope.kind = .function then if hb : blkC Γ.N Γ.sc scope (ownOf Γ.N scope) = true then if hs : notSet iter = true then
    match trIt (rec Γ) tg iter, trTg (Γ.blk scope) tg, trIfs (recT (Γ.blk scope)) ifs, rec (Γ.blk scope) elt with
    | some i, some g, some f, some e => if ho : ∀ j ∈ g.t.ixs, j ∈ (ownOf Γ.N scope).map (·.2) then
        some ⟨ownOf Γ.N scope, i.c, e.c, g.t, f.l, fun o => i.ok o, fun o => blkOk_by (by rw [o.N, o.sc]; exact hb), fun o s H C cl fp => g.ok (o.blk hk s H C cl fp),
          fun o s H C cl fp => f.ok (o.blk hk s H C cl fp), fun o s H C cl fp => e.ok (o.blk hk s H C cl fp), hs, ho⟩
      else none
    | _, _, _, _ => none
  else none else none else none
def RC.re {Γ : Gm} {elt tg iter : Expr} {ifs : List Expr} {scope : Scope} (r : RC Γ elt tg iter ifs scope) (pos : Pos) : RE Γ (.ListComp elt [⟨tg, iter, ifs, 0⟩] scope pos) :=
  .new (.comp (r.own.map (·.2)) r.c r.t r.it r.l) fun o => pf_comp o.toCtx (r.hi o) (r.ok o) (r.hg o) (r.ht o) (r.he o) (notSet_of r.hs) r.ho
structure RC2 (Γ : Gm) (elt tg iter : Expr) (ifs : List Expr) (tg1 iter1 : Expr) (ifs1 : List Expr) (scope : Scope) where
  own : List (Str × Nat)
  it : Z.C
  c : Z.C
  t : T
  l : Cs
  it1 : Z.C
  t1 : T
  l1 : Cs
  hi : ∀ {B G W X}, On Γ B G W X → PI X tg iter (tIt B G W it)
  ok : ∀ {B G W X}, On Γ B G W X → BlkOk X.N X.env.scope scope own
  hg : ∀ {B G W X}, On Γ B G W X → ∀ s H C cl fp, PG (Blk X scope s H C cl fp) tg (tG B t)
  ht : ∀ {B G W X}, On Γ B G W X → ∀ s H C cl fp, PTs (Blk X scope s H C cl fp) ifs (tIfs B G XF l)
  hi1 : ∀ {B G W X}, On Γ B G W X → ∀ s H C cl fp, PI (Blk X scope s H C cl fp) tg1 iter1 (tIt B G XF it1)
  hg1 : ∀ {B G W X}, On Γ B G W X → ∀ s H C cl fp, PG (Blk X scope s H C cl fp) tg1 (tG B t1)
  ht1 : ∀ {B G W X}, On Γ B G W X → ∀ s H C cl fp, PTs (Blk X scope s H C cl fp) ifs1 (tIfs B G XF l1)
  he : ∀ {B G W X}, On Γ B G W X → ∀ s H C cl fp, PE (Blk X scope s H C cl fp) elt (tEv B G XF c)
  hs : notSet iter = true
  hs1 : notSet iter1 = true
  ho : ∀ i ∈ t.ixs, i ∈ own.map (·.2)
  ho1 : ∀ i ∈ t1.ixs, i ∈ own.map (·.2)
def trComp2 {Γ : Gm} (rec : ∀ Γ (x : Expr), Option (RE Γ x)) (recT : ∀ Γ (x : Expr), Option (RT Γ x)) (elt tg iter : Expr) (ifs : List Expr) (tg1 iter1 : Expr) (ifs1 : List Expr) (scope : Scope) : Option (RC2 Γ elt tg iter ifs tg1 iter1 ifs1 scope) :=
  if hk : scope.kind = .function then if hb : blkC Γ.N Γ.sc scope (ownOf Γ.N scope) = true then if hs : notSet iter = true ∧ notSet iter1 = true then
    match trIt (rec Γ) tg iter, trTg (Γ.blk scope) tg, trIfs (recT (Γ.blk scope)) ifs, rec (Γ.blk scope) elt, trIt (rec (Γ.blk scope)) tg1 iter1, trTg (Γ.blk scope) tg1, trIfs (recT (Γ.blk scope)) ifs1 with
    | some i, some g, some f, some e, some i1, some g1, some f1 => if ho : (∀ j ∈ g.t.ixs, j ∈ (ownOf Γ.N scope).map (·.2)) ∧ ∀ j ∈ g1.t.ixs, j ∈ (ownOf Γ.N scope).map (·.2) then
        some ⟨ownOf Γ.N scope, i.c, e.c, g.t, f.l, i1.c, g1.t, f1.l, fun o => i.ok o, fun o => blkOk_by (by rw [o.N, o.sc]; exact hb), fun o s H C cl fp => g.ok (o.blk hk s H C cl fp),
          fun o s H C cl fp => f.ok (o.blk hk s H C cl fp), fun o s H C cl fp => i1.ok (o.blk hk s H C cl fp), fun o s H C cl fp => g1.ok (o.blk hk s H C cl fp), fun o s H C cl fp => f1.ok (o.blk hk s H C cl fp), fun o s H C cl fp => e.ok (o.blk hk s H C cl fp), hs.1, hs.2, ho.1, ho.2⟩
      else none
    | _, _, _, _, _, _, _ => none
  else none else none else none
def RC2.re {Γ : Gm} {elt tg iter : Expr} {ifs : List Expr} {tg1 iter1 : Expr} {ifs1 : List Expr} {scope : Scope} (r : RC2 Γ elt tg iter ifs tg1 iter1 ifs1 scope) (pos : Pos) : RE Γ (.ListComp elt [⟨tg, iter, ifs, 0⟩, ⟨tg1, iter1, ifs1, 0⟩] scope pos) :=
  .new (.comp2 (r.own.map (·.2)) r.c r.t r.it r.l r.t1 r.it1 r.l1) fun o => pf_comp2 o.toCtx (r.hi o) (r.ok o) (r.hg o) (r.ht o) (r.he o) (r.hi1 o) (r.hg1 o) (r.ht1 o) (notSet_of r.hs) (fun env v => notSet_of r.hs1 v) r.ho r.ho1
structure RDC (Γ : Gm) (kx vx tg iter : Expr) (ifs : List Expr) (scope : Scope) where
  own : List (Str × Nat)
  it : Z.C
  ck : Z.C
  cv : Z.C
  t : T
  l : Cs
  hi : ∀ {B G W X}, On Γ B G W X → PI X tg iter (tIt B G W it)
  ok : ∀ {B G W X}, On Γ B G W X → BlkOk X.N X.env.scope scope own
  hg : ∀ {B G W X}, On Γ B G W X → ∀ s H C cl fp, PG (Blk X scope s H C cl fp) tg (tG B t)
  ht : ∀ {B G W X}, On Γ B G W X → ∀ s H C cl fp, PTs (Blk X scope s H C cl fp) ifs (tIfs B G XF l)
  hk : ∀ {B G W X}, On Γ B G W X → ∀ s H C cl fp, PE (Blk X scope s H C cl fp) kx (tEv B G XF ck)
  hv : ∀ {B G W X}, On Γ B G W X → ∀ s H C cl fp, PE (Blk X scope s H C cl fp) vx (tEv B G XF cv)
  hs : notSet iter = true
  ho : ∀ i ∈ t.ixs, i ∈ own.map (·.2)
def trDComp {Γ : Gm} (rec : ∀ Γ (x : Expr), Option (RE Γ x)) (recT : ∀ Γ (x : Expr), Option (RT Γ x)) (kx vx tg iter : Expr) (ifs : List Expr) (scope : Scope) : Option (RDC Γ kx vx tg iter ifs scope) :=
  if hk : scope.kind = .function then if hb : blkC Γ.N Γ.sc scope (ownOf Γ.N scope) = true then if hs : notSet iter = true then
    match trIt (rec Γ) tg iter, trTg (Γ.blk scope) tg, trIfs (recT (Γ.blk scope)) ifs, rec (Γ.blk scope) kx, rec (Γ.blk scope) vx with
    | some i, some g, some f, some ek, some ev => if ho : ∀ j ∈ g.t.ixs, j ∈ (ownOf Γ.N scope).map (·.2) then
        some ⟨ownOf Γ.N scope, i.c, ek.c, ev.c, g.t, f.l, fun o => i.ok o, fun o => blkOk_by (by rw [o.N, o.sc]; exact hb), fun o s H C cl fp => g.ok (o.blk hk s H C cl fp),
          fun o s H C cl fp => f.ok (o.blk hk s H C cl fp), fun o s H C cl fp => ek.ok (o.blk hk s H C cl fp), fun o s H C cl fp => ev.ok (o.blk hk s H C cl fp), hs, ho⟩
      else none
    | _, _, _, _, _ => none
  else none else none else none
def trLrg {Γ : Gm} (rec : (x : Expr) → Option (RE Γ x)) : (x : Str) → (p : Pos) → (es : List Expr) → (pos : Pos) → Option (RE Γ (.Call (.Name x p) es [] pos))
  | x, p, [.Call (.Name y p2) [b] [] pos2], pos => if h : x = "list" ∧ y = "range" ∧ (glB Γ.sc x = true ∧ x ∈ Γ.bl) ∧ (glB Γ.sc y = true ∧ y ∈ Γ.bl) ∧ notStar b = true then match rec b with
    | some r => some (.new (.lrg (.con (.int 0)) r.c) fun o => by obtain ⟨rfl, rfl, h3, h4, h5⟩ := h; exact pf_lrg1 o.toCtx (gl_of o h3.1) (o.blt _ h3.2) (gl_of o h4.1) (o.blt _ h4.2) (r.ok o) h5)
    | none => none
    else none
  | x, p, [.Call (.Name y p2) [a, b] [] pos2], pos => if h : x = "list" ∧ y = "range" ∧ (glB Γ.sc x = true ∧ x ∈ Γ.bl) ∧ (glB Γ.sc y = true ∧ y ∈ Γ.bl) ∧ notStar a = true ∧ notStar b = true then match rec a, rec b with
    | some r, some s => some (.new (.lrg r.c s.c) fun o => by obtain ⟨rfl, rfl, h3, h4, h5⟩ := h; exact pf_lrg2 o.toCtx (gl_of o h3.1) (o.blt _ h3.2) (gl_of o h4.1) (o.blt _ h4.2) (r.ok o) (s.ok o) h5.1 h5.2)
    | _, _ => none
    else none
  | _, _, _, _ => none
/-- sorted({..}) -/
def trSrtC {Γ : Gm} (rec : ∀ Γ (x : Expr), Option (RE Γ x)) (recT : ∀ Γ (x : Expr), Option (RT Γ x)) : (x : Str) → (p : Pos) → (es : List Expr) → (pos : Pos) → Option (RE Γ (.Call (.Name x p) es [] pos))
  | x, p, [.SetComp elt [⟨tg, iter, ifs, 0⟩] scope cp], pos => if h : x = "sorted" ∧ glB Γ.sc x = true ∧ x ∈ Γ.bl then match trComp (Γ := Γ) rec recT elt tg iter ifs scope with
    | some r => some (.new (.srtc (r.own.map (·.2)) r.c r.t r.it r.l) fun o => by obtain ⟨rfl, h2, h3⟩ := h; exact pf_srtc o.toCtx (gl_of o h2) (o.blt _ h3) (r.hi o) (r.ok o) (r.hg o) (r.ht o) (r.he o) (notSet_of r.hs) r.ho)
    | none => none
    else none
  | _, _, _, _ => none
/-! ### expressions -/
def plainIxB : Expr → Bool
  | .Name _ _ => true
  | .Constant _ _ _ => true
  | .BinOp _ _ _ _ => true
  | .UnaryOp _ _ _ => true
  | .Call _ _ _ _ => true
  | .Subscript _ _ _ => true
  | _ => false
theorem plainIx_of {x : Expr} (h : plainIxB x = true) : PlainIx x := by
  cases x <;> first | (intro o i; rfl) | (exact absurd h (by simp [plainIxB]))
def stepE (rec : ∀ Γ (x : Expr), Option (RE Γ x)) (recT : ∀ Γ (x : Expr), Option (RT Γ x)) (Γ : Gm) : (x : Expr) → Option (RE Γ x)
  | .Name x pos => trName Γ x pos
  | .Constant c k pos => trConst Γ c k pos
  | .Tuple es k pos => match trEs (rec Γ) es with
    | some a => if h : a.l.len ≤ 1000 then some (.one (.tup a.l) fun o => pz_tup (a.ok o) h) else none
    | none => none
  | .List es pos => match trEs (rec Γ) es with
    | some a => if h : a.l.len ≤ 1000 then some (.new (.lst a.l) fun o => pf_lst (a.ok o) h) else none
    | none => none
  | .BinOp a op b pos => match rec Γ a, rec Γ b with
    | some r, some s => some (.new (.bin op r.c s.c) fun o => pf_bin o.toCtx (r.ok o) (s.ok o))
    | _, _ => none
  | .UnaryOp .USub a pos => match rec Γ a with
    | some r => some (.one (.neg r.c) fun o => pz_neg (r.ok o))
    | none => none
  | .UnaryOp .Not a pos => match rec Γ a with
    | some r => some (.one (.not r.c) fun o => pz_not (r.ok o))
    | none => none
  | .Compare a [op] [b] pos => if h : behindInMarks op b = false then match rec Γ a, rec Γ b with
    | some r, some s => some (.one (.cmp op r.c s.c) fun o => pz_cmp o.toCtx (r.ok o) (s.ok o) h)
    | _, _ => none
    else none
  | .Compare a [op, op2] [b, c] pos => if h : lastMarks [op, op2] [b, c] = false then match rec Γ a, rec Γ b, rec Γ c with
    | some r, some s, some t => some (.one (.chn op op2 r.c s.c t.c) fun o => pz_chn o.toCtx (r.ok o) (s.ok o) (t.ok o) h)
    | _, _, _ => none
    else none
  | .BoolOp op es pos => trBool (rec Γ) op es pos
  | .IfExp t a b pos => match recT Γ t, rec Γ a, rec Γ b with
    | some q, some r, some s => some (.one (.ite q.c r.c s.c) fun o => pz_ite (q.ok o) (r.ok o) (s.ok o))
    | _, _, _ => none
  | .Subscript a (.Slice none none (some (.UnaryOp .USub (.Constant (.int 1) k p1) p2)) p3) pos => match rec Γ a with
    | some r => some (.new (.rev r.c) fun o => pf_back o.toCtx (r.ok o))
    | none => none
  | .Subscript a (.Slice lo hi none p2) pos => match rec Γ a, trO (rec Γ) lo, trO (rec Γ) hi with
    | some r, some l, some h => some (.new (.cut r.c l.c h.c) fun o => pf_cut o.toCtx (r.ok o) (l.ok o) (h.ok o))
    | _, _, _ => none
  | .Subscript a i pos => if h : plainIxB i = true then match rec Γ a, rec Γ i with
    | some r, some s => some (.one (.sub r.c s.c) fun o => pz_sub o.toCtx (r.ok o) (s.ok o) (plainIx_of h))
    | _, _ => none
    else none
  | .Dict ks vs pos => match trDict (rec Γ) ks vs with
    | some r => if h : r.ns ≠ [] ∧ r.ns.length ≤ 15 ∧ r.ns.Nodup then some (.one (.dict r.ns r.l) fun o => pz_dict (r.ok o) h.1 h.2.1 h.2.2) else none
    | none => none
  | .Call (.Name x p) es [] pos => match trCallV (rec Γ) x p es pos with
   | some r => some r
   | none => match trCallF (rec Γ) x p es pos with
    | some r => some r
    | none => match trCallB2 (rec Γ) x p es pos with
      | some r => some r
      | none => match trCallB (rec Γ) x p es pos with
        | some r => some r
        | none => match trLrg (rec Γ) x p es pos with
          | some r => some r
          | none => match trSrtC (Γ := Γ) rec recT x p es pos with
            | some r => some r
            | none => trCallK (rec Γ) x p es [] pos
  | .Call (.Name x p) es (k :: ks) pos => match trSrtR (rec Γ) x p es (k :: ks) pos with
    | some r => some r
    | none => trCallK (rec Γ) x p es (k :: ks) pos
  | .Call (.Attribute o name ap) es [] pos => trMt (rec Γ) o name ap es pos
  | .ListComp elt [⟨tg, iter, ifs, 0⟩] scope pos => match trComp (Γ := Γ) rec recT elt tg iter ifs scope with
    | some r => some (r.re pos)
    | none => none
  | .ListComp elt [⟨tg, iter, ifs, 0⟩, ⟨tg1, iter1, ifs1, 0⟩] scope pos => match trComp2 (Γ := Γ) rec recT elt tg iter ifs tg1 iter1 ifs1 scope with
    | some r => some (r.re pos)
    | none => none
  | .DictComp kx vx [⟨tg, iter, ifs, 0⟩] scope pos => match trDComp (Γ := Γ) rec recT kx vx tg iter ifs scope with
    | some r => some (.one (.dcomp (r.own.map (·.2)) r.ck r.cv r.t r.it r.l) fun o => pz_dcomp o.toCtx (r.hi o) (r.ok o) (r.hg o) (r.ht o) (r.hk o) (r.hv o) (notSet_of r.hs) r.ho)
    | none => none
  | _ => none
def valB : Expr → Bool
  | .Name _ _ => true
  | .Constant _ _ _ => true
  | .Call _ _ _ _ => true
  | .Subscript _ _ _ => true
  | _ => false
def trVal {Γ : Gm} (rec : (x : Expr) → Option (RE Γ x)) (x : Expr) : Option (RT Γ x) := if h : valB x = true then match rec x with
  | some r => some ⟨r.c, fun o => tz_val (r.ok o) (by cases x <;> first | (intro w; rfl) | (exact absurd h (by simp [valB])))⟩
  | none => none
  else none
def stepT (rec : ∀ Γ (x : Expr), Option (RE Γ x)) (recT : ∀ Γ (x : Expr), Option (RT Γ x)) (Γ : Gm) : (x : Expr) → Option (RT Γ x)
  | .UnaryOp .Not a pos => match recT Γ a with
    | some r => some ⟨.not r.c, fun o => tz_not (r.ok o)⟩
    | none => none
  | .Compare a [op] [b] pos => if h : behindInMarks op b = false then match rec Γ a, rec Γ b with
    | some r, some s => some ⟨.cmp op r.c s.c, fun o => tz_cmp o.toCtx (r.ok o) (s.ok o) h⟩
    | _, _ => none
    else none
  | .Compare a [op, op2] [b, c] pos => if h : lastMarks [op, op2] [b, c] = false then match rec Γ a, rec Γ b, rec Γ c with
    | some r, some s, some t => some ⟨.chn op op2 r.c s.c t.c, fun o => tz_chn o.toCtx (r.ok o) (s.ok o) (t.ok o) h⟩
    | _, _, _ => none
    else none
  | .BoolOp op es pos => match trBoolT (recT Γ) op es pos with
    | some r => some ⟨r.c, fun o => (r.ok o).pt⟩
    | none => none
  | x => trVal (rec Γ) x
def tr : Nat → (∀ Γ (x : Expr), Option (RE Γ x)) × (∀ Γ (x : Expr), Option (RT Γ x))
  | 0 => (fun _ _ => none, fun _ _ => none)
  | n + 1 => (fun Γ x => stepE (tr n).1 (tr n).2 Γ x, fun Γ x => stepT (tr n).1 (tr n).2 Γ x)
end Z
/-! ZE: from the text to code: statements; a def by its body. -/
namespace Z
open PySem PySem.Spec PyProof.Rows L2 RZ

structure RS (Γ : Gm) (st : Stmt) where
  s : S
  ok : ∀ {B G W X}, On Γ B G W X → Own X → PS X st (tS B G W s)
structure RSs (Γ : Gm) (sts : List Stmt) where
  b : Ss
  ok : ∀ {B G W X}, On Γ B G W X → Own X → PSs X sts (tSs B G W b)
def trSs {Γ : Gm} (rec : (x : Stmt) → Option (RS Γ x)) : (sts : List Stmt) → Option (RSs Γ sts)
  | [] => some ⟨.nil, fun _ _ => sz_nil⟩
  | s :: sts => match rec s, trSs rec sts with
    | some r, some t => some ⟨.cons r.s t.b, fun o w => sz_cons (r.ok o w) (t.ok o w)⟩
    | _, _ => none
/-- the code of a value stored in slot i -/
def RE.at {Γ : Gm} {x : Expr} (r : RE Γ x) (i : Nat) : RE Γ x := if h : Γ.mu.contains i = true ∧ r.f = true then .one (.new r.c) fun o => tEv_new (r.okf h.2 o) else r
theorem lc_of {Γ : Gm} {B : Bs} {G : Sg} {W : WE} {X : Cx} {i : Nat} {x : Str} (o : On Γ B G W X) (h : Γ.N[i]? = some x ∧ isLoc Γ.sc x = true) : LcAt X i x := ⟨by rw [o.N]; exact h.1, by rw [o.sc]; exact isLoc_of h.2⟩
def isStarred : Expr → Bool
  | .Starred _ _ => true
  | _ => false
theorem any_starred {l : List Expr} (h : l.all notStar = true) : (l.any fun | .Starred .. => true | _ => false) = false := by
  induction l with
  | nil => rfl
  | cons a l ih =>
    rw [List.all_cons, Bool.and_eq_true] at h
    rw [List.any_cons, ih h.2, Bool.or_false]
    cases a <;> first | rfl | (exact absurd h.1 (by simp [notStar]))
theorem sw_two {env : PySem.Env} {x y : Str} {px py pt pt2 : Pos} {kt k2 : Nat} {a b : Expr} (bk : env.blockKind = .function) (kx : env.scope.names.lookup x = some .local) (ky : env.scope.names.lookup y = some .local) (hl : (py.line == px.line) = true) (hne : x ≠ y)
    (h1 : [a, b].all notStar = true) (h2 : [a, b].all (foldedForSure 8) = false) (h3 : [a, b].all (constantsAlone 8) = false) :
    swappedStores [.Tuple [.Name x px, .Name y py] kt pt] (.Tuple [a, b] k2 pt2) env = pure (some [x, y]) := by
  have kx' : env.kindOf x = some .local := kx
  have ky' : env.kindOf y = some .local := ky
  unfold swappedStores
  have s1 := any_starred h1
  have hne' : (y == x) = false := by simpa using fun e : y = x => hne e.symm
  simp only [bk, List.length_cons, List.length_nil, s1, h2, h3, List.filterMap_cons, List.filterMap_nil, kx', ky', Expr.pos, List.head?_cons, Option.map_some, Option.getD_some, hl]
  simp [List.eraseDups_cons, hne']
  intro h
  simp only [List.any_cons, List.any_nil, Bool.or_false, Bool.or_eq_false_iff] at s1
  rcases h with h | h
  · exact Bool.noConfusion (h.symm.trans s1.1)
  · exact Bool.noConfusion (h.symm.trans s1.2)
theorem sw_three {env : PySem.Env} {x y z : Str} {px py pz pt pt2 : Pos} {kt k2 : Nat} {a b c : Expr} (bk : env.blockKind = .function) (kx : env.scope.names.lookup x = some .local) (ky : env.scope.names.lookup y = some .local) (kz : env.scope.names.lookup z = some .local) (hl : (py.line == px.line) = true) (hl2 : (pz.line == px.line) = true) (hne : x ≠ y) (hnz : x ≠ z) (hyz : y ≠ z)
    (h1 : [a, b, c].all notStar = true) (h2 : [a, b, c].all (foldedForSure 8) = false) (h3 : [a, b, c].all (constantsAlone 8) = false) :
    swappedStores [.Tuple [.Name x px, .Name y py, .Name z pz] kt pt] (.Tuple [a, b, c] k2 pt2) env = pure (some [x, y, z]) := by
  have kx' : env.kindOf x = some .local := kx
  have ky' : env.kindOf y = some .local := ky
  have kz' : env.kindOf z = some .local := kz
  unfold swappedStores
  have s1 := any_starred h1
  have e1 : (y == x) = false := by simpa using fun e : y = x => hne e.symm
  have e2 : (z == x) = false := by simpa using fun e : z = x => hnz e.symm
  have e3 : (z == y) = false := by simpa using fun e : z = y => hyz e.symm
  simp only [bk, List.length_cons, List.length_nil, s1, h2, h3, List.filterMap_cons, List.filterMap_nil, kx', ky', kz', Expr.pos, List.head?_cons, Option.map_some, Option.getD_some, hl, hl2]
  simp [List.eraseDups_cons, e1, e2, e3]
  intro h
  simp only [List.any_cons, List.any_nil, Bool.or_false, Bool.or_eq_false_iff] at s1
  rcases h with h | h | h
  · exact Bool.noConfusion (h.symm.trans s1.1)
  · exact Bool.noConfusion (h.symm.trans s1.2.1)
  · exact Bool.noConfusion (h.symm.trans s1.2.2)
theorem bk_of {X : Cx} (h : X.env.scope.kind = .function) : X.env.blockKind = .function := by unfold PySem.Env.blockKind; rw [h]; rfl
/-- the values stored in slots -/
def trEsAt {Γ : Gm} (rec : (x : Expr) → Option (RE Γ x)) : (is : List Nat) → (es : List Expr) → Option (RA Γ es)
  | _, [] => some ⟨.nil, fun _ => az_nil, rfl, rfl, fun _ => rfl⟩
  | is, e :: es => if hn : notStar e = true then match rec e, trEsAt rec is.tail es with
    | some r, some s => some ⟨.cons (r.at (is.headD 0)).c s.l, fun o => az_cons ((r.at (is.headD 0)).ok o) (s.ok o) (star_cons hn), by show s.l.len + 1 = es.length + 1; rw [s.len], by rw [List.all_cons, hn, s.ns]; rfl, fun h => nomatch h⟩
    | _, _ => none
    else none
def trPar2 {Γ : Gm} (rec : (x : Expr) → Option (RE Γ x)) (x y : Str) (px py pt : Pos) (kt : Nat) (a b : Expr) (k2 : Nat) (pt2 pos : Pos) : Option (RS Γ (.Assign [.Tuple [.Name x px, .Name y py] kt pt] (.Tuple [a, b] k2 pt2) pos)) :=
  if h : (Γ.N[slot Γ.N x]? = some x ∧ isLoc Γ.sc x = true) ∧ (Γ.N[slot Γ.N y]? = some y ∧ isLoc Γ.sc y = true) ∧ slot Γ.N x ≠ slot Γ.N y ∧ x ≠ y ∧ (py.line == px.line) = true ∧ [a, b].all (foldedForSure 8) = false ∧ [a, b].all (constantsAlone 8) = false then
    match trEsAt rec [slot Γ.N x, slot Γ.N y] [a, b] with
    | some r => some ⟨.par [slot Γ.N x, slot Γ.N y] r.l, fun o w => by
        obtain ⟨h1, h2, h3, h4, h5, h6, h7⟩ := h
        have n1 := lc_of o h1
        have n2 := lc_of o h2
        exact s_par2 o.toCtx n1 n2 h3 (r.ok o) r.len (sw_two (bk_of o.kd) n1.lc n2.lc h5 h4 r.ns h6 h7)⟩
    | none => none
  else none
def trPar3 {Γ : Gm} (rec : (x : Expr) → Option (RE Γ x)) (x y z : Str) (px py pz pt : Pos) (kt : Nat) (a b c : Expr) (k2 : Nat) (pt2 pos : Pos) : Option (RS Γ (.Assign [.Tuple [.Name x px, .Name y py, .Name z pz] kt pt] (.Tuple [a, b, c] k2 pt2) pos)) :=
  if h : ((Γ.N[slot Γ.N x]? = some x ∧ isLoc Γ.sc x = true) ∧ (Γ.N[slot Γ.N y]? = some y ∧ isLoc Γ.sc y = true) ∧ (Γ.N[slot Γ.N z]? = some z ∧ isLoc Γ.sc z = true)) ∧ (slot Γ.N x ≠ slot Γ.N y ∧ slot Γ.N x ≠ slot Γ.N z ∧ slot Γ.N y ≠ slot Γ.N z ∧ x ≠ y ∧ x ≠ z ∧ y ≠ z) ∧ (py.line == px.line) = true ∧ (pz.line == px.line) = true ∧ [a, b, c].all (foldedForSure 8) = false ∧ [a, b, c].all (constantsAlone 8) = false then
    match trEsAt rec [slot Γ.N x, slot Γ.N y, slot Γ.N z] [a, b, c] with
    | some r => some ⟨.par [slot Γ.N x, slot Γ.N y, slot Γ.N z] r.l, fun o w => by
        obtain ⟨⟨h1, h2, h3⟩, ⟨d1, d2, d3, e1, e2, e3⟩, l1, l2, h6, h7⟩ := h
        have n1 := lc_of o h1
        have n2 := lc_of o h2
        have n3 := lc_of o h3
        exact s_par3 o.toCtx n1 n2 n3 d1 d2 d3 (r.ok o) r.len (sw_three (bk_of o.kd) n1.lc n2.lc n3.lc l1 l2 e1 e2 e3 r.ns h6 h7)⟩
    | none => none
  else none
/-- what is not served is never come to -/
def orNev {Γ : Gm} {st : Stmt} : Option (RS Γ st) → Option (RS Γ st)
  | some r => some r
  | none => some ⟨.nev, fun _ _ => s_nev⟩
def trUnpS {Γ : Gm} (rec : ∀ Γ (x : Expr), Option (RE Γ x)) (es : List Expr) (k : Nat) (p : Pos) (x : Expr) (pos : Pos) : Option (RS Γ (.Assign [.Tuple es k p] x pos)) :=
  if h : isComp x = false ∧ swNo Γ.sc es x = true then match hu : unstar es with
    | some es0 => match trTgs (trTgN Γ 6) es0, rec Γ x with
      | some n, some r => some ⟨.unpS n.l r.c, fun o w => s_unpS o.toCtx hu (n.ok o) (r.ok o) h.1 (bk_of o.kd) (by rw [o.sc]; exact h.2)⟩
      | _, _ => none
    | none => none
  else none
def trUnp {Γ : Gm} (rec : ∀ Γ (x : Expr), Option (RE Γ x)) (es : List Expr) (k : Nat) (p : Pos) (x : Expr) (pos : Pos) : Option (RS Γ (.Assign [.Tuple es k p] x pos)) :=
  if h : isComp x = false ∧ swNo Γ.sc es x = true then match trTgs (trTgN Γ 6) es, rec Γ x with
    | some n, some r => some ⟨.unp (.tp n.l) r.c, fun o w => s_unp o.toCtx (n.ok o) (r.ok o) h.1 (bk_of o.kd) (by rw [o.sc]; exact h.2)⟩
    | _, _ => none
  else none
def varOf : Z.C → Option Nat
  | .var j => some j
  | _ => none
theorem varOf_eq {c : Z.C} {j : Nat} (h : varOf c = some j) : c = .var j := by
  cases c <;> first | (cases h; rfl) | exact absurd h (by simp [varOf])
def trAssign {Γ : Gm} (rec : ∀ Γ (x : Expr), Option (RE Γ x)) (recT : ∀ Γ (x : Expr), Option (RT Γ x)) : (tgs : List Expr) → (x : Expr) → (pos : Pos) → Option (RS Γ (.Assign tgs x pos))
  | [.Name y p], .ListComp elt [⟨tg, iter, ifs, 0⟩] scope cp, pos => if h : nmB Γ (slot Γ.N y) y = true then match trComp (Γ := Γ) rec recT elt tg iter ifs scope with
    | some r => if Γ.mu.contains (slot Γ.N y) then some ⟨.set (slot Γ.N y) (.new (.comp (r.own.map (·.2)) r.c r.t r.it r.l)), fun o w => s_setLc o.toCtx (.inr rfl) (nm_of o h) o.kd (r.hi o) (r.ok o) (r.hg o) (r.ht o) (r.he o) (notSet_of r.hs) r.ho⟩
      else some ⟨.set (slot Γ.N y) (.comp (r.own.map (·.2)) r.c r.t r.it r.l), fun o w => s_setLc o.toCtx (.inl rfl) (nm_of o h) o.kd (r.hi o) (r.ok o) (r.hg o) (r.ht o) (r.he o) (notSet_of r.hs) r.ho⟩
    | none => none
    else none
  | [.Name y p], .ListComp elt [⟨tg, iter, ifs, 0⟩, ⟨tg1, iter1, ifs1, 0⟩] scope cp, pos => if h : nmB Γ (slot Γ.N y) y = true then match trComp2 (Γ := Γ) rec recT elt tg iter ifs tg1 iter1 ifs1 scope with
    | some r => if Γ.mu.contains (slot Γ.N y) then some ⟨.set (slot Γ.N y) (.new (.comp2 (r.own.map (·.2)) r.c r.t r.it r.l r.t1 r.it1 r.l1)), fun o w => s_setLc2 o.toCtx (.inr rfl) (nm_of o h) o.kd (r.hi o) (r.ok o) (r.hg o) (r.ht o) (r.he o) (r.hi1 o) (r.hg1 o) (r.ht1 o) (notSet_of r.hs) (fun env v => notSet_of r.hs1 v) r.ho r.ho1⟩
      else some ⟨.set (slot Γ.N y) (.comp2 (r.own.map (·.2)) r.c r.t r.it r.l r.t1 r.it1 r.l1), fun o w => s_setLc2 o.toCtx (.inl rfl) (nm_of o h) o.kd (r.hi o) (r.ok o) (r.hg o) (r.ht o) (r.he o) (r.hi1 o) (r.hg1 o) (r.ht1 o) (notSet_of r.hs) (fun env v => notSet_of r.hs1 v) r.ho r.ho1⟩
    | none => none
    else none
  | [.Name y p], .DictComp kx vx [⟨tg, iter, ifs, 0⟩] scope cp, pos => if h : nmB Γ (slot Γ.N y) y = true then match trDComp (Γ := Γ) rec recT kx vx tg iter ifs scope with
    | some r => some ⟨.set (slot Γ.N y) (.dcomp (r.own.map (·.2)) r.ck r.cv r.t r.it r.l), fun o w => s_setDc o.toCtx (nm_of o h) o.kd (r.hi o) (r.ok o) (r.hg o) (r.ht o) (r.hk o) (r.hv o) (notSet_of r.hs) r.ho⟩
    | none => none
    else none
  | [.Name y p], x, pos => if h : nmB Γ (slot Γ.N y) y = true ∧ isComp x = false then match rec Γ x with
    | some r => match hv : varOf r.c with
      | some j => if Γ.mu.contains (slot Γ.N y) && Γ.mu.contains j && j != slot Γ.N y then some ⟨.mv (slot Γ.N y) j, fun o w => s_mv o.toCtx (nm_of o h.1) (varOf_eq hv ▸ r.ok o) h.2⟩
        else some ⟨.set (slot Γ.N y) (r.at (slot Γ.N y)).c, fun o w => s_set o.toCtx (nm_of o h.1) ((r.at _).ok o) h.2⟩
      | none => some ⟨.set (slot Γ.N y) (r.at (slot Γ.N y)).c, fun o w => s_set o.toCtx (nm_of o h.1) ((r.at _).ok o) h.2⟩
    | none => none
    else none
  | [.Subscript a k p], x, pos => match rec Γ a, rec Γ k, rec Γ x with
    | some r, some s, some t => some ⟨.put r.c s.c t.c, fun o w => s_put o.toCtx (r.ok o) (s.ok o) (t.ok o)⟩
    | _, _, _ => none
  | [.Tuple [.Name x px, .Name y py] kt pt], .Tuple [a, b] k2 pt2, pos => match trPar2 (rec Γ) x y px py pt kt a b k2 pt2 pos with
    | some r => some r
    | none => trUnp rec _ _ _ _ pos
  | [.Tuple [.Name x px, .Name y py, .Name z pz] kt pt], .Tuple [a, b, c] k2 pt2, pos => match trPar3 (rec Γ) x y z px py pz pt kt a b c k2 pt2 pos with
    | some r => some r
    | none => trUnp rec _ _ _ _ pos
  | [.Tuple es k p], x, pos => match trUnp rec es k p x pos with
    | some r => some r
    | none => trUnpS rec es k p x pos
  | _, _, _ => none
def trDropE {Γ : Gm} (rec : (x : Expr) → Option (RE Γ x)) (x : Expr) (pos : Pos) : Option (RS Γ (.Expr x pos)) := if h : isComp x = false then match rec x with
    | some r => some ⟨.drop r.c, fun o w => s_drop (r.ok o) h⟩
    | none => none
    else none
def trDrop {Γ : Gm} (rec : (x : Expr) → Option (RE Γ x)) : (x : Expr) → (pos : Pos) → Option (RS Γ (.Expr x pos))
  | .Constant (.str d) j p, pos => some ⟨.pass, fun _ _ => s_doc⟩
  | .Call (.Attribute (.Name y p) at_ ap) [x] [] cp, pos => if h : at_ = "append" ∧ Γ.N[slot Γ.N y]? = some y ∧ visB Γ.sc y = true ∧ plainNm y = true ∧ notStar x = true ∧ (ap.endLine == cp.line) = true then match rec x with
    | some r => some ⟨.app (slot Γ.N y) r.c, fun o w => by
        obtain ⟨rfl, h1, h2, h3, h4, h5⟩ := h
        exact s_app o.toCtx (by rw [o.N]; exact h1) (vis_of (by rw [o.sc]; exact h2)) (plainNm_of h3).1 (plainNm_of h3).2.1 (r.ok o) h4 h5⟩
    | none => none
    else trDropE rec _ pos
  | x, pos => trDropE rec x pos
def trS : Nat → (Γ : Gm) → (st : Stmt) → Option (RS Γ st)
  | 0, _, _ => none
  | _ + 1, _, .Pass pos => some ⟨.pass, fun _ _ => s_pass⟩
  | _ + 1, _, .Break pos => some ⟨.brk, fun _ _ => s_brk⟩
  | _ + 1, _, .Continue pos => some ⟨.cont, fun _ _ => s_cont⟩
  | _ + 1, _, .Return none pos => some ⟨.retN, fun _ _ => s_retN⟩
  | _ + 1, Γ, .Return (some x) pos => match (tr 20).1 Γ x with
    | some r => some ⟨.ret r.c, fun o _ => s_ret (r.ok o)⟩
    | none => none
  | _ + 1, Γ, .Expr x pos => trDrop ((tr 20).1 Γ) x pos
  | _ + 1, Γ, .Assign tgs x pos => trAssign (tr 20).1 (tr 20).2 tgs x pos
  | _ + 1, Γ, .AugAssign (.Name y p) op x pos => if h : nmB Γ (slot Γ.N y) y = true then match (tr 20).1 Γ x with
    | some r => some ⟨.aug op (slot Γ.N y) r.c, fun o _ => s_aug o.toCtx (nm_of o h) (r.ok o)⟩
    | none => none
    else none
  | n + 1, Γ, .If x a b pos => match (tr 20).2 Γ x, trSs (fun st => orNev (trS n Γ st)) a, trSs (fun st => orNev (trS n Γ st)) b with
    | some r, some s, some t => some ⟨.ite r.c s.b t.b, fun o w => s_if (r.ok o) (s.ok o w) (t.ok o w)⟩
    | _, _, _ => none
  | n + 1, Γ, .While x a [] pos => match (tr 20).2 Γ x, trSs (fun st => orNev (trS n Γ st)) a with
    | some r, some s => some ⟨.while_ r.c s.b, fun o w => s_while w (r.ok o) (s.ok o w)⟩
    | _, _ => none
  | n + 1, Γ, .For tg iter a [] pos => if h : notSet iter = true then match trIt ((tr 20).1 Γ) tg iter, trTg Γ tg, trSs (fun st => orNev (trS n Γ st)) a with
    | some i, some g, some s => some ⟨.for_ g.t i.c s.b, fun o w => s_for o.toCtx w (i.ok o) (g.ok o) (s.ok o w) (notSet_of h)⟩
    | _, _, _ => none
    else none
  | _ + 1, _, _ => none
def trBody (Γ : Gm) (sts : List Stmt) : Option (RSs Γ sts) := trSs (fun st => orNev (trS 20 Γ st)) sts

/-! ### a def by its body -/
section
variable {P : Program} {w : World} {mg : Str → Option Value} {base : Heap} {B : Bs} {G : Sg}
def wExc (B : Bs) (E : XK) : WE := fun _ _ x g m H => ∀ cls d, ExAt B g H x cls d → E cls d H
theorem env_start {N : List Str} {g : Cfg} {H : Hp} {vs : List V} {ds : List D} (h : Dens B g H vs ds) : EnvR B g H (L2.start N vs) (ds.map some ++ List.replicate (N.length - ds.length) none) := by
  unfold L2.start
  refine ⟨by simp [h.length], fun i d hi => ?_⟩
  by_cases hl : i < ds.length
  · rw [List.getElem?_append_left (by simpa using hl), List.getElem?_map] at hi
    cases e : ds[i]? with
    | none => rw [e] at hi; cases hi
    | some d' =>
      rw [e] at hi
      cases hi
      obtain ⟨v, h1, h2⟩ := h.get e
      exact ⟨v, by rw [List.getElem?_append_left (by simpa [h.length] using hl), List.getElem?_map, h1]; rfl, h2⟩
  · rw [List.getElem?_append_right (by simpa using Nat.le_of_not_lt hl), List.getElem?_replicate] at hi
    split at hi <;> cases hi
theorem flp_out {g : Cfg} {H : Hp} {Q : VK} {E : XK} {f : Fl} (h : Post B g H (fun x g' m' H' => ∀ cls d, ExAt B g' H' x cls d → E cls d H') (fun g' m' H' d => ∀ v, Den B g' H' v d → Q v H') f.out) :
    FlP B g H (wExc B E) { nx := fun _ H' => Q .non H', rt := Q } f := by
  cases f with
  | rt d m => exact fun g' H' v x R hv => h g' H' x R v hv
  | nx e m => exact fun g' H' σ x R _ => h g' H' x R .non .non
  | exc y e m => exact fun g' H' σ x R _ => h g' H' x R
  | bk e m => exact h.elim
  | ct e m => exact h.elim
  | bad => exact h.elim
theorem fn_g {k : Nat} {f : Addr} {fd : FuncData} {x qual : Str} {st : Stmt} {N ps : List Str} {b : Ss} (F : Fun B.K x qual st f fd) (S : FnScope N ps (defScope st))
    (hb : ∀ (X : Cx), X.prog = P → X.w = w → X.K = B.K → X.mg = mg → X.base = base → X.calm = true → X.N = N → X.A.units + 200 < cLine → X.A.guards = some [] → Room k X.A → X.env.scope = defScope st → (∀ x, X.fn x = true) → Own X → ∀ E,
      (∀ σ, PassesAt (L2.CX X.prog X.w) X σ (EW B (wExc B E) σ)) → PSs X (defBody st) (tSs B G (wExc B E) b)) (hu : ∀ A : Around, Room k A → A.units + 200 < cLine) : FnG P w B.K mg base (k + 1) f fd ps (spOf B ps.length (fun ds m => bodyD G N.length b ds m)) := by
  obtain ⟨oc, od, kV, doc, pm, an, cdv, ct, osl, rfl, lk, hcd⟩ := F.ex
  have len : ∀ vs H Q E, spOf B ps.length (fun ds m => bodyD G N.length b ds m) vs H Q E → vs.length = ps.length := fun vs H Q E ⟨g, m, ds, R, hv, hl, p⟩ => by rw [hv.length, hl]
  refine ⟨len, fun A outer s H args us vs Q E hr hg e0 hbd r hsp => ?_⟩
  have hl := len _ _ _ _ hsp
  have KX : B.K.In s.heap := e0.mod.kin.keeps fun b o e => (e0.bs b o e).1
  have lim : s.heap.NoLimit := e0.mod.nolimit.keeps fun b o e => (e0.bs b o e).1
  have hkind : ∀ y ∈ ps.zip us, (defScope st).names.lookup y.1 = some .local ∨ ((defScope st).names.lookup y.1 = some .cell ∧ ((cellsFrom (s.heap.objs.size + 1) (defScope st).names []).lookup y.1).isSome = true) := fun ⟨n, v⟩ hy =>
    (S.par n (List.of_mem_zip hy).1).imp id fun q => ⟨q, PySem.W.cellsFrom_some _ _ _ (.inl q)⟩
  refine codeAny_call_function hr.depth (KX _ _ lk) rfl S.co S.gen rfl (PySem.W.codeRec_of KX hcd) (hbd _ _ _ _ ?_)
  refine wpAny_newFunctionEnv_cells S.kind hkind fun env he s1 x => ?_
  subst he
  refine ⟨lim.keeps x.toInCall.keep, codeAny_func ?_⟩
  have tk := takes_of (X := cxOf (L2.CX P w) P w B.K mg base N qual (defScope st) f cdv A outer s H E) (E := E) rfl rfl rfl rfl
  have body := hb (cxOf (L2.CX P w) P w B.K mg base N qual (defScope st) f cdv A outer s H E) rfl rfl rfl rfl rfl rfl rfl (hu _ (hr.deeper _)) hg (hr.deeper _) rfl (fun _ => rfl) PassesOwn.leaving E fun σ pins H' s' e s'' I c =>
    passes_call tk (W := fun cls d _ H => E cls d H) (E := EW B (wExc B E) σ) (fun cls d σ H ⟨e, x, g', m', _, _, ha, hw⟩ => hw cls d ha) pins σ H' s' e s'' I c
  have I : Inv (cxOf (L2.CX P w) P w B.K mg base N qual (defScope st) f cdv A outer s H E) [] (L2.start N vs) H s1 := inv_start S hr.hd e0 hl r x
  obtain ⟨g, m, ds, R, hv, hn, p⟩ := hsp
  have q : tSs B G (wExc B E) b { nx := fun _ H' => Q .non H', rt := Q } (L2.start N vs) H := ⟨g, m, _, R, env_start hv, flp_out p⟩
  refine wpAny_mono (body.run [] s1 (L2.start N vs) H _ I q) (fun fl s' hs => ?_) fun e s' hs => hs
  have fin : ∀ {σ' : L2.St} {H' : Hp} {v : V} {u : Value}, Inv (cxOf (L2.CX P w) P w B.K mg base N qual (defScope st) f cdv A outer s H E) [] σ' H' s' → RelV v u → Q v H' → CE outer P w H s Q u s' :=
    fun {σ' H' v u} J rv q => ⟨v, H', J.os, J.bare, J.base, J.hok, rv, q⟩
  cases fl with
  | ret u =>
    obtain ⟨v, σ', H', J, rv, q⟩ := hs
    exact fin J rv q
  | next =>
    obtain ⟨σ', H', J, q⟩ := hs
    exact fin (v := V.non) (u := Value.none) J rfl q
  | brk =>
    obtain ⟨_, _, _, q⟩ := hs
    exact False.elim q
  | cont =>
    obtain ⟨_, _, _, q⟩ := hs
    exact False.elim q
end
end Z
/-! ZF: a program of defs; the law at the top. -/
namespace Z
open PySem PySem.Spec PyProof.Rows L2 RZ

/-- a def of the program: its name, its text, its slots, its parameters, its code, the slots of things that change -/
structure Fd where
  nm : Str
  st : Stmt
  N : List Str
  ps : List Str
  mu : List Nat
  b : Ss
  /-- its arguments may all be given by place -/
  pl : Bool := true
/-! ### what a call leaves: a list of its own handed back stands as data, its other things are gone -/
mutual
/-- no place from n on -/
def D.under (n : Nat) : D → Bool
  | .tup l => D.unders n l
  | .lst l => D.unders n l
  | .loc a => decide (a < n)
  | .dct _ vs => D.unders n vs
  | _ => true
def D.unders (n : Nat) : List D → Bool
  | [] => true
  | d :: l => D.under n d && D.unders n l
end
theorem D.unders_iff {n : Nat} : ∀ {l : List D}, D.unders n l = true ↔ ∀ d ∈ l, d.under n = true
  | [] => by simp [D.unders]
  | d :: l => by simp [D.unders, D.unders_iff (l := l)]
def MO.under (n : Nat) : MO → Bool
  | .lst l => D.unders n l
  | .dk kvs => D.unders n (kvs.map (·.2))
  | .ins _ _ => false
def gcD (n : Nat) (m : Mem) (d : D) : D := match d with
  | .loc a => if a < n then .loc a else match m[a]? with
    | some (.lst l) => .lst l
    | _ => .loc a
  | d => d
def GcOk (m m' : Mem) : Prop := m.length ≤ m'.length ∧ ∀ k, k < m.length → m'[k]? = m[k]? ∨ ∃ o, m'[k]? = some o ∧ o.under m.length = true
open Classical in
noncomputable def gcO (m : Mem) : Out D → Out D
  | .ok d m' => if GcOk m m' ∧ (gcD m.length m' d).under m.length = true then .ok (gcD m.length m' d) (m'.take m.length) else .ok d m'
  | .exc x m' => if GcOk m m' ∧ D.unders m.length x.fs = true then .exc x (m'.take m.length) else .exc x m'
  | .bad => .bad
theorem gcO_ok (m m' : Mem) (d : D) : gcO m (.ok d m') = .ok d m' ∨ (gcO m (.ok d m') = .ok (gcD m.length m' d) (m'.take m.length) ∧ GcOk m m' ∧ (gcD m.length m' d).under m.length = true) := by
  unfold gcO
  dsimp only
  split
  · exact .inr ⟨rfl, by assumption⟩
  · exact .inl rfl
theorem gcO_exc (m m' : Mem) (x : Ex) : gcO m (.exc x m') = .exc x m' ∨ (gcO m (.exc x m') = .exc x (m'.take m.length) ∧ GcOk m m' ∧ D.unders m.length x.fs = true) := by
  unfold gcO
  dsimp only
  split
  · exact .inr ⟨rfl, by assumption⟩
  · exact .inl rfl
theorem gcO_yes {m m' : Mem} {d : D} (h : GcOk m m') (u : (gcD m.length m' d).under m.length = true) : gcO m (.ok d m') = .ok (gcD m.length m' d) (m'.take m.length) := by
  unfold gcO
  dsimp only
  rw [if_pos ⟨h, u⟩]
theorem gcO_yesX {m m' : Mem} {x : Ex} (h : GcOk m m') (u : D.unders m.length x.fs = true) : gcO m (.exc x m') = .exc x (m'.take m.length) := by
  unfold gcO
  dsimp only
  rw [if_pos ⟨h, u⟩]
@[simp] theorem gcO_bad (m : Mem) : gcO m .bad = .bad := rfl
mutual
theorem Den.dim {B : Bs} {g g2 : Cfg} {H : Hp} {n : Nat} (ha : ∀ k, k < n → g2.al[k]? = g.al[k]?) (hf : ∀ a, g.fz a → g2.fz a) : ∀ {v : V} {d : D}, Den B g H v d → d.under n = true → Den B g2 H v d
  | _, _, .non, _ => .non
  | _, _, .bl b, _ => .bl b
  | _, _, .int i, _ => .int i
  | _, _, .str s, _ => .str s
  | _, _, .tup h r, u => .tup h (Dens.dim ha hf r (by rwa [D.under] at u))
  | _, _, .lst f h r, u => .lst (hf _ f) h (Dens.dim ha hf r (by rwa [D.under] at u))
  | _, _, .scr h, _ => .scr h
  | _, _, .scrK h, _ => .scrK h
  | _, _, .loc (n := k) h, u => .loc (by rw [D.under, decide_eq_true_eq] at u; rw [ha _ u]; exact h)
  | _, _, .fn h h2, _ => .fn h h2
  | _, _, .ty s, _ => .ty s
  | _, _, .dct f h q r, u => .dct (hf _ f) h q (Dens.dim ha hf r (by rwa [D.under] at u))
theorem Dens.dim {B : Bs} {g g2 : Cfg} {H : Hp} {n : Nat} (ha : ∀ k, k < n → g2.al[k]? = g.al[k]?) (hf : ∀ a, g.fz a → g2.fz a) : ∀ {v : List V} {d : List D}, Dens B g H v d → D.unders n d = true → Dens B g2 H v d
  | _, _, .nil, _ => .nil
  | _, _, .cons h r, u => by
    rw [D.unders, Bool.and_eq_true] at u
    exact .cons (Den.dim ha hf h u.1) (Dens.dim ha hf r u.2)
end
mutual
theorem Den.under {B : Bs} {g : Cfg} {H : Hp} : ∀ {v : V} {d : D}, Den B g H v d → d.under g.al.length = true
  | _, _, .non => rfl
  | _, _, .bl b => rfl
  | _, _, .int i => rfl
  | _, _, .str s => rfl
  | _, _, .tup h r => by rw [D.under]; exact Dens.under r
  | _, _, .lst f h r => by rw [D.under]; exact Dens.under r
  | _, _, .scr h => rfl
  | _, _, .scrK h => rfl
  | _, _, .loc h => by rw [D.under, decide_eq_true_eq]; exact (List.getElem?_eq_some_iff.mp h).1
  | _, _, .fn h h2 => rfl
  | _, _, .ty s => rfl
  | _, _, .dct f h q r => by rw [D.under]; exact Dens.under r
theorem Dens.under {B : Bs} {g : Cfg} {H : Hp} : ∀ {v : List V} {d : List D}, Dens B g H v d → D.unders g.al.length d = true
  | _, _, .nil => rfl
  | _, _, .cons h r => by rw [D.unders, Den.under h, Dens.under r]; rfl
end
theorem MoR.dim {B : Bs} {g g2 : Cfg} {H : Hp} {n : Nat} (ha : ∀ k, k < n → g2.al[k]? = g.al[k]?) (hf : ∀ a, g.fz a → g2.fz a) {a : Addr} {o : MO} (h : MoR B g H a o) (u : o.under n = true) : MoR B g2 H a o := by
  cases o with
  | lst l =>
    obtain ⟨xs, h1, h2⟩ := h
    exact ⟨xs, h1, h2.dim ha hf u⟩
  | dk kvs =>
    obtain ⟨ks, h1, h2⟩ := h
    refine ⟨ks, h1, ?_⟩
    have u2 : ∀ q ∈ kvs, q.2.under n = true := fun q hq => D.unders_iff.mp u _ (List.mem_map_of_mem hq)
    clear h1 u
    induction h2 with
    | nil => exact .nil
    | cons p t ih => exact .cons ⟨p.1, p.2.dim ha hf (u2 _ (List.mem_cons_self ..))⟩ (ih fun q hq => u2 q (List.mem_cons_of_mem _ hq))
  | ins c fs => exact h.elim
theorem MoR.under {B : Bs} {g : Cfg} {H : Hp} {a : Addr} {o : MO} (h : MoR B g H a o) : o.under g.al.length = true := by
  cases o with
  | lst l => obtain ⟨xs, h1, h2⟩ := h; exact h2.under
  | dk kvs =>
    obtain ⟨ks, h1, h2⟩ := h
    refine D.unders_iff.mpr fun d hd => ?_
    obtain ⟨q, hq, rfl⟩ := List.mem_map.mp hd
    clear h1 hd
    induction h2 with
    | nil => cases hq
    | cons p t ih =>
      rcases List.mem_cons.mp hq with rfl | hq
      · exact p.2.under
      · exact ih hq
  | ins c fs => exact h.elim
/-- the state behind a call, its own things forgotten, one of them told never to change -/
theorem gc_state {B : Bs} {g g' : Cfg} {H H' : Hp} {m m' : Mem} (R : Rl B g m H) (x : Ext g H g' H') (R' : Rl B g' m' H') (ok : GcOk m m') (A : Option Addr) (hA : ∀ a, A = some a → a ∈ g'.al ∧ a ∉ g.al ∧ Stood H' a) :
    let g2 : Cfg := ⟨g.al, fun a => g'.fz a ∨ A = some a⟩
    Ext g H g2 H' ∧ Rl B g2 (m'.take m.length) H' ∧ (∀ k, k < m.length → g2.al[k]? = g'.al[k]?) ∧ (∀ a, g'.fz a → g2.fz a) := by
  intro g2
  obtain ⟨t, et⟩ := x.pre
  have hl := R.len
  have ha : ∀ k, k < m.length → g2.al[k]? = g'.al[k]? := fun k hk => by
    rw [et, List.getElem?_append_left (by rw [hl]; exact hk)]
  refine ⟨⟨⟨[], by simp [g2]⟩, fun a h => .inl (x.sub a h), x.keep, fun a h => ?_, fun a h => .inl h, x.trk⟩, ⟨R.nd, ?_, fun k a mo h1 h2 => ?_, fun a h1 h2 => ?_, fun a h => ?_⟩, ha, fun a h => .inl h⟩
  · rcases h with h | h
    · exact x.newF a h
    · obtain ⟨h1, h2, _⟩ := hA a h
      exact .inr ((x.newA a h1).resolve_left h2)
  · rw [List.length_take, Nat.min_eq_left ok.1]; exact hl
  · have hk : k < m.length := by rw [← hl]; exact (List.getElem?_eq_some_iff.mp h1).1
    rw [List.getElem?_take_of_lt hk] at h2
    have q := R'.mem k a mo (by rw [← ha k hk]; exact h1) h2
    refine q.dim (g2 := g2) (n := m.length) ha (fun a h => .inl h) ?_
    rcases ok.2 k hk with e | ⟨o, e, u⟩
    · rw [← hl]
      exact (R.mem k a mo h1 (by rw [← e]; exact h2)).under
    · rw [e] at h2; cases h2; exact u
  · rcases h2 with h2 | h2
    · exact R'.sep a (by rw [et]; exact List.mem_append_left _ h1) h2
    · exact (hA a h2).2.1 h1
  · rcases h with h | h
    · exact R'.trk a h
    · exact (hA a h).2.2
theorem sp_gc {B : Bs} {np : Nat} {S : List D → Mem → Out D} {vs : List V} {H : Hp} {Q : VK} {E : XK} (h : spOf B np (fun ds m => gcO m (S ds m)) vs H Q E) : spOf B np S vs H Q E := by
  obtain ⟨g, m, ds, R, hv, hn, p⟩ := h
  refine ⟨g, m, ds, R, hv, hn, ?_⟩
  dsimp only at p
  cases hS : S ds m with
  | bad => rw [hS] at p; exact p
  | exc y m' =>
    rw [hS] at p
    rcases gcO_exc m m' y with e | ⟨e, hk⟩
    · rw [e] at p; exact p
    · rw [e] at p
      intro g' H' x R' cls d ha
      obtain ⟨x2, R2, h1, h2⟩ := gc_state R x R' hk.1 none (fun a h => nomatch h)
      refine p _ H' x2 R2 cls d ?_
      obtain ⟨C, ns, vs, dx, e1, e2, e3, e4, e5, e6⟩ := ha
      exact ⟨C, ns, vs, dx, e1, e2, e3, e4, e5.dim h1 h2 hk.2, e6⟩
  | ok d m' =>
    rw [hS] at p
    rcases gcO_ok m m' d with e | ⟨e, hk⟩
    · rw [e] at p; exact p
    · rw [e] at p
      intro g' H' x R' v hd
      have plain : gcD m.length m' d = d → Q v H' := fun e => by
        rw [e] at p hk
        obtain ⟨x2, R2, h1, h2⟩ := gc_state R x R' hk.1 none (fun a h => nomatch h)
        exact p _ H' x2 R2 v (hd.dim h1 h2 hk.2)
      by_cases hloc : ∃ a, d = .loc a ∧ m.length ≤ a
      · obtain ⟨a, rfl, ha⟩ := hloc
        cases hm : m'[a]? with
        | none => exact plain (by unfold gcD; dsimp only; rw [if_neg (by omega), hm])
        | some o =>
          cases o with
          | lst l =>
            have e : gcD m.length m' (.loc a) = .lst l := by unfold gcD; dsimp only; rw [if_neg (by omega), hm]
            rw [e] at p hk
            cases hd with
            | @loc A _ hA =>
              obtain ⟨xs, q1, q2⟩ := R'.mem a A _ hA hm
              have nA : A ∉ g.al := fun z => by
                obtain ⟨k, hk1, hk2⟩ := List.getElem_of_mem z
                obtain ⟨t, et⟩ := x.pre
                have h1 : g'.al[k]? = some A := by rw [et, List.getElem?_append_left hk1, List.getElem?_eq_getElem hk1, hk2]
                obtain ⟨i1, e1⟩ := List.getElem?_eq_some_iff.mp h1
                obtain ⟨i2, e2⟩ := List.getElem?_eq_some_iff.mp hA
                have := (List.getElem_inj R'.nd).mp (e1.trans e2.symm)
                have := R.len
                omega
              obtain ⟨x2, R2, h1, h2⟩ := gc_state R x R' hk.1 (some A) (fun b h => by cases h; exact ⟨List.mem_of_getElem? hA, nA, .inl ⟨xs, q1⟩⟩)
              exact p _ H' x2 R2 _ (.lst (.inr rfl) q1 (q2.dim h1 h2 (by have := hk.2; rwa [D.under] at this)))
          | dk _ => exact plain (by unfold gcD; dsimp only; rw [if_neg (by omega), hm])
          | ins _ _ => exact plain (by unfold gcD; dsimp only; rw [if_neg (by omega), hm])
      · refine plain ?_
        cases d with
        | loc a => exact if_pos (Nat.lt_of_not_le fun z => hloc ⟨a, rfl, z⟩)
        | _ => rfl
theorem fng_gc {P : Program} {w : World} {K : PySem.W.Frag} {mg : Str → Option Value} {base : Heap} {B : Bs} {k np : Nat} {f : Addr} {fd : FuncData} {ps : List Str} {S : List D → Mem → Out D} (h : FnG P w K mg base k f fd ps (spOf B np S)) : FnG P w K mg base k f fd ps (spOf B np fun ds m => gcO m (S ds m)) :=
  ⟨fun vs H Q E q => h.len vs H Q E (sp_gc q), fun A outer s H args us vs Q E a b c d e q => h.run A outer s H args us vs Q E a b c d e (sp_gc q)⟩
/-- what the defs do, by the number of calls that may be under way -/
noncomputable def progG (ds : List Fd) : Nat → Sg
  | 0, _, _, _ => .bad
  | k + 1, n, args, m => match ds[n]? with
    | some f => gcO m (bodyD (progG ds k) f.N.length f.b args m)
    | none => .bad
def npOf (ds : List Fd) (n : Nat) : Option Nat := match ds[n]? with
  | some f => if f.pl then some f.ps.length else none
  | none => none
def nmsOf (ds : List Fd) : List (Str × Nat) := ds.zipIdx.map fun p => (p.1.nm, p.2)
def gmOf (ds : List Fd) (bl : List Str) (shs : List Shp) (gc : List (Str × D)) (f : Fd) : Gm := ⟨f.N, defScope f.st, fun _ => true, nmsOf ds, bl, npOf ds, shs, f.mu, gc⟩
theorem nms_get {ds : List Fd} {x : Str} {n : Nat} (h : (nmsOf ds).lookup x = some n) : ∃ f, ds[n]? = some f ∧ f.nm = x := by
  have hm := PySem.mem_of_lookup h
  unfold nmsOf at hm
  obtain ⟨⟨f, i⟩, h1, h2⟩ := List.mem_map.mp hm
  simp only [Prod.mk.injEq] at h2
  obtain ⟨rfl, rfl⟩ := h2
  obtain ⟨_, h3, h4⟩ := List.mem_zipIdx h1
  refine ⟨f, ?_, rfl⟩
  simp at h3 h4
  rw [List.getElem?_eq_getElem (by omega), h4]
section
variable {P : Program} {w : World} {mg : Str → Option Value} {base : Heap} {B : Bs}
/-- a def stands at its place -/
structure Stands (B : Bs) (mg : Str → Option Value) (shs : List Shp) (n : Nat) (f : Fd) (a : Addr) : Prop where
  mgf : mg f.nm = some (.ref a)
  kp : PySem.W.keepIn B.K (.ref a) = true
  fn : ∃ fd, Fun B.K f.nm f.nm f.st a fd ∧ (f.pl = true → Binds B.K fd f.ps []) ∧ ∀ s ∈ shs, s.n = n → s.np = f.ps.length ∧ ∃ vV vU, Dfl B s.df vV vU ∧
    ∀ (st : Shared) (us ws : List Value), B.K.In st.heap → us.length = s.npos → ws.length = s.ks.length → BindsTo st fd ⟨us, s.ks.zip ws⟩ (f.ps.zip (placed f.ps.length us s.ix ws vU .none))
/-- the program as it is known -/
structure Known (B : Bs) (mg : Str → Option Value) (ds : List Fd) (bl : List Str) (shs : List Shp) (gc : List (Str × D)) : Prop where
  all : ∀ n f, ds[n]? = some f → ∃ a, B.fa n = some a ∧ Stands B mg shs n f a
  ar : B.ar = npOf ds
  blt : ∀ x ∈ bl, mg x = none
  shn : ∀ s ∈ shs, (ds[s.n]?).isSome = true
  gcs : ∀ x d, gc.lookup x = some d → ∃ u v, mg x = some u ∧ RelV v u ∧ ∀ g H, Den B g H v d
  code : ∀ f ∈ ds, FnScope f.N f.ps (defScope f.st) ∧ ∃ r, trBody (gmOf ds bl shs gc f) (defBody f.st) = some r ∧ r.b = f.b
theorem fns_of {ds : List Fd} {bl : List Str} {shs : List Shp} {gc : List (Str × D)} (k : Known B mg ds bl shs gc) (j : Nat) (h : ∀ n f a fd, ds[n]? = some f → B.fa n = some a → Fun B.K f.nm f.nm f.st a fd → FnG P w B.K mg base j a fd f.ps (spOf B f.ps.length (progG ds j n))) :
    Fns P w mg base B (progG ds j) j (· ∈ shs) := by
  refine ⟨fun n c hc => ?_, fun s hm => ?_⟩
  · rw [k.ar] at hc
    unfold npOf at hc
    cases hf : ds[n]? with
    | none => rw [hf] at hc; cases hc
    | some f =>
      rw [hf] at hc
      by_cases hp : f.pl = true
      · simp only [hp, if_true, Option.some.injEq] at hc
        subst hc
        obtain ⟨a, ha, st⟩ := k.all n f hf
        obtain ⟨fd, F, hb, hs⟩ := st.fn
        exact ⟨a, fd, f.ps, ha, rfl, st.kp, hb hp, h n f a fd hf ha F⟩
      · simp [hp] at hc
  · obtain ⟨f, hf⟩ := Option.isSome_iff_exists.mp (k.shn s hm)
    obtain ⟨a, ha, st⟩ := k.all s.n f hf
    obtain ⟨fd, F, hb, hs⟩ := st.fn
    obtain ⟨e1, vV, vU, d, b⟩ := hs s hm rfl
    have q := h s.n f a fd hf ha F
    rw [← e1] at q b
    exact ⟨a, fd, f.ps, ha, e1.symm, st.kp, q, vV, vU, d, b⟩
/-- every def keeps what its code promises, at every number of calls -/
theorem fng_at {ds : List Fd} {bl : List Str} {shs : List Shp} {gc : List (Str × D)} (k : Known B mg ds bl shs gc) : ∀ (j : Nat) (n : Nat) (f : Fd) (a : Addr) (fd : FuncData), ds[n]? = some f → B.fa n = some a → Fun B.K f.nm f.nm f.st a fd → FnG P w B.K mg base j a fd f.ps (spOf B f.ps.length (progG ds j n))
  | 0, n, f, a, fd, hf, ha, F => by
    refine ⟨fun vs H Q E ⟨g, m, ds, _, hv, hl, _⟩ => by rw [hv.length, hl], fun A outer s H args us vs Q E _ _ _ _ _ ⟨g, m, ds, _, _, _, p⟩ => ?_⟩
    exact p.elim
  | j + 1, n, f, a, fd, hf, ha, F => by
    have ih := fns_of (P := P) (w := w) (base := base) k j (fng_at k j)
    obtain ⟨sc, r, hr, hb⟩ := k.code f (List.mem_of_getElem? hf)
    have e : progG ds (j + 1) n = fun args m => gcO m (bodyD (progG ds j) f.N.length f.b args m) := by
      funext args m
      show (match ds[n]? with | some f => _ | none => _) = _
      rw [hf]
    rw [e, ← hb]
    refine fng_gc (fn_g F sc (fun X h1 h2 h3 h4 h5 h6 h7 h8 h9 h10 h11 h12 ow E hp => ?_) fun A hr => by have := hr.un; omega)
    refine r.ok (W := wExc B E) ⟨⟨⟨h3, h6, by rw [h7]; exact sc.nd, h8, h9⟩, ⟨j, h10, ?_⟩, hp⟩, h7, h11, by rw [h11]; exact sc.kind, fun x _ => h12 x, fun x n hx => ?_, fun n c hc => by rw [k.ar]; exact hc, fun x hx => by rw [h4]; exact k.blt x hx, by rw [h4]; exact k.gcs⟩ ow
    · rw [h1, h2, h4, h5]
      exact ih
    · obtain ⟨f', hf', rfl⟩ := nms_get hx
      obtain ⟨a', ha', st⟩ := k.all n f' hf'
      exact ⟨a', ha', by rw [h4]; exact st.mgf⟩
/-- a look at the code that stands in the text -/
theorem code_is {Γ : Gm} {sts : List Stmt} {b : Ss} (h : (trBody Γ sts).map (fun r => r.b) = some b) : ∃ r, trBody Γ sts = some r ∧ r.b = b := by
  obtain ⟨r, h1, h2⟩ := Option.map_eq_some_iff.mp h
  exact ⟨r, h1, h2⟩
end

/-! ### the law -/
/-- what a call of the law must come to, from a heap with the script -/
def LawEnds (S : List D → Mem → Out D) (most : Nat) : Prop := ∀ ns : List Int, ns.length ≤ most → ∃ m, S [.scr ns] [] = .ok (.bl true) m
theorem rl_none (B : Bs) (H : Hp) : Rl B ⟨[], fun _ => False⟩ [] H := ⟨List.nodup_nil, rfl, fun n a mo h _ => (by simp at h), fun a h => (by simp at h), fun a h => h.elim⟩
theorem law_run {P : Program} {w : World} {B : Bs} {mg mb : Str → Option Value} {k : Nat} {law scr : Addr} {fd : FuncData} {x : Str} {S : List D → Mem → Out D} {t : Shared} {vs : List Value} {ns : List Int} {most : Nat}
    (kin : B.K.In t.heap) (nsm : t.heap.Ns mainGlobals mg) (nsb : t.heap.Ns builtinsNs mb) (nsbb : ∀ x : Str, x ≠ "__name__" → mb x = bootBuiltins x) (lim : t.heap.NoLimit) (gens : t.gens = #[])
    (hs : t.heap.get? scr = some { cls := .type "list", data := .seq vs.toArray }) (are : IntsAre vs ns) (few : ns.length ≤ most) (mz : most ≤ sizeLine) (room : Room k callerA)
    (F : ∀ base : Heap, B.K.In base → base.Ns mainGlobals mg → FnG P w B.K mg base k law fd [x] (spOf B 1 S)) (bind : Binds B.K fd [x] []) (ends : LawEnds S most) :
    codeAny (model P w) callerA (.call (.ref law) ⟨[.ref scr], []⟩) (fun r s' => r = .ok (.ret (.bool true)) ∧ OldK t.heap s'.heap ∧ s'.os = t.os ∧ AllBare s'.gens) t := by
  have vals := vals_ints are
  have many := are.length
  have sz : ns.length ≤ sizeLine := Nat.le_trans few mz
  -- whatever is tracked is the script alone
  have main : ∀ T : Hp, HOk P w T t.heap → (∀ b, T b ≠ none → b = scr ∧ B.K.lookup scr = none ∧ T b = some (.frz { cls := .type "list", data := .seq vs.toArray } (.lst (ns.map V.int)))) → Den B ⟨[], fun _ => False⟩ T (.ref scr) (.scr ns) →
      codeAny (model P w) callerA (.call (.ref law) ⟨[.ref scr], []⟩) (fun r s' => r = .ok (.ret (.bool true)) ∧ OldK t.heap s'.heap ∧ s'.os = t.os ∧ AllBare s'.gens) t := by
    intro T ok sole den
    have free : ∀ {b : Addr} {o : Obj}, t.heap.get? b = some o → (∀ es ep, o.data = .dict es ep → T b = none) := fun {b o} e es ep d => by
      cases q : T b with
      | none => rfl
      | some u =>
        obtain ⟨rfl, _, _⟩ := sole b (by rw [q]; simp)
        rw [hs] at e
        cases e
        exact nomatch d
    have name : ∀ {b : Addr} {m : Str → Option Value}, t.heap.Ns b m → (hidT t.heap T).Ns b m := fun {b m} z => by
      obtain ⟨o, es, ep, e, d, r⟩ := z
      exact ⟨o, es, ep, hidT_get e (free e es ep d), d, r⟩
    have kin2 : B.K.In (hidT t.heap T) := fun b o e => by
      refine hidT_get (kin b o e) ?_
      cases q : T b with
      | none => rfl
      | some u =>
        obtain ⟨rfl, z, _⟩ := sole b (by rw [q]; simp)
        rw [z] at e
        cases e
    obtain ⟨mc, l1, l2⟩ := lim
    have env : Env0 P w B.K mg (hidT t.heap T) callerA [] t T :=
      ⟨rfl, ⟨kin2, name nsm, ⟨mb, name nsb, nsbb⟩, ⟨mc, name l1, l2⟩⟩, fun b o e => of_hidT e, by rw [hidT_size]; exact Nat.le_refl _, trivial, fun b z => (by cases z), ok, .of_eq gens⟩
    obtain ⟨m', eS⟩ := ends ns few
    have spec : spOf B 1 S [.ref scr] T (fun v _ => v = .bl true) (fun _ _ _ => False) := by
      refine ⟨⟨[], fun _ => False⟩, [], [.scr ns], rl_none B T, .cons den .nil, rfl, ?_⟩
      rw [eS]
      intro g' H' _ _ v hv
      cases hv
      rfl
    have run := (F _ kin2 (name nsm)).run callerA [] t T ⟨[.ref scr], []⟩ [.ref scr] [.ref scr] _ _ room rfl env (bind t [.ref scr] kin rfl) (.cons rfl .nil) spec
    refine codeAny_mono run fun r s' h => ?_
    match r, h with
    | .error e, h =>
      obtain ⟨_, _, _, _, _, _, _, _, _, _, _, _, bad⟩ := h
      exact bad.elim
    | .ok .next, h => exact False.elim h
    | .ok .brk, h => exact False.elim h
    | .ok .cont, h => exact False.elim h
    | .ok (.ret u), h =>
      obtain ⟨v, T', os, bare, un, ok', rv, q⟩ := h
      have e1 : v = .bl true := q
      subst e1
      obtain rfl : u = Value.bool true := rv
      refine ⟨rfl, OldK.of_keep fun b o e => ?_, os, bare⟩
      cases q : T b with
      | none => exact un.keep b o e q (fun z => by cases z) (fun z => by cases z)
      | some u =>
        obtain ⟨rfl, _, z⟩ := sole b (by rw [q]; simp)
        rw [hs] at e
        cases e
        exact (ok' _ _ (un.frzs _ _ _ z)).1
  cases known : B.K.lookup scr with
  | some o =>
    have e := kin scr o known
    rw [hs] at e
    cases e
    exact main (fun _ => none) (fun b u z => nomatch z) (fun b z => absurd rfl z) (.scrK fun H' => .inr ⟨_, vs.toArray, _, known, rfl, rfl, rfl, by rw [List.size_toArray, many]; exact sz, by simpa using vals⟩)
  | none =>
    refine main (fun b => if b = scr then some (.frz { cls := .type "list", data := .seq vs.toArray } (.lst (ns.map V.int))) else none) (fun b u z => ?_) (fun b z => ?_) (.scr (if_pos rfl))
    · by_cases hb : b = scr
      · cases (if_pos hb).symm.trans z
        rw [hb]
        exact ⟨hs, by rw [List.length_map]; exact sz, vs, _, vals, hs⟩
      · cases (if_neg hb).symm.trans z
    · by_cases hb : b = scr
      · exact ⟨hb, known, if_pos hb⟩
      · exact absurd (if_neg hb) z
/-- the goal that the head leaves -/
theorem law_walk {l : PySem.W.OpenLaw} {n k : Nat} {q : Program} {loose : List Str} {XP : (Str → Option Value) → Heap → Prop} {YP : World → Heap → Prop} {d : DefRec} {K : Params → PySem.W.Frag} {x : Str} {S : List D → Mem → Out D}
    (most : l.most = some n) (fits : n ≤ sizeLine) (nodef : d.params.defaults = []) (room : Room k callerA) (kin : ∀ (w : World) (h : Heap), YP w h → (K w.params).In h)
    (F : ∀ (w : World) (mg : Str → Option Value) (fa : Addr) (h : Heap), (K w.params).In h → h.Ns mainGlobals mg → mg d.name = some (.ref fa) → ∃ (B : Bs) (fd : FuncData), B.K = K w.params ∧ Binds (K w.params) fd [x] [] ∧
      ∀ base : Heap, (K w.params).In base → base.Ns mainGlobals mg → FnG l.prog w (K w.params) mg base k fa fd [x] (spOf B 1 S)) (ends : LawEnds S n) :
    PySem.W.WalkO q loose XP YP l.row.toRowW d [] (fun f vs => PySem.call f vs) := by
  refine Att.attach_call most nodef fun w s t mg mb fa o pm cd doc a vs ns gr y _ _ _ named obj are few gens => ?_
  have kx := kin w _ y
  obtain ⟨B, fd, eK, bind, run⟩ := F w mg fa _ kx gr.T.g named
  rw [← eK] at kx bind run
  exact law_run kx gr.T.g gr.T.b gr.T.builtins gr.T.nolimit gens obj are few fits room run bind ends
end Z
/-! ZG: what code comes to, by equations; loops; small data (plain Lean). -/
namespace Z
open PySem
section
variable {G : Sg} {e : Env} {m : Mem}
@[simp] theorem ev_var (i : Nat) : evalC G (.var i) e m = lift (e.getD i none) m := by rw [evalC]
@[simp] theorem ev_con (d : D) : evalC G (.con d) e m = .ok d m := by rw [evalC]
@[simp] theorem ev_tup (l : Cs) : evalC G (.tup l) e m = (evalCs G l e m).bind fun l m => .ok (.tup l) m := by rw [evalC]
@[simp] theorem ev_lst (l : Cs) : evalC G (.lst l) e m = (evalCs G l e m).bind fun l m => .ok (.lst l) m := by rw [evalC]
def newD (d : D) (m : Mem) : Out D := match d with
  | .lst l => .ok (.loc m.length) (m ++ [.lst l])
  | _ => .bad
@[simp] theorem newD_lst (l : List D) : newD (.lst l) m = .ok (.loc m.length) (m ++ [.lst l]) := rfl
@[simp] theorem ev_new (c : C) : evalC G (.new c) e m = (evalC G c e m).bind newD := by rw [evalC]; rfl
@[simp] theorem ev_dict (ks : List Str) (vs : Cs) : evalC G (.dict ks vs) e m = (evalCs G vs e m).bind fun l m => .ok (.loc m.length) (m ++ [.dk ((ks.map Sum.inr).zip l)]) := by rw [evalC]
@[simp] theorem ev_bin (op : Operator) (a b : C) : evalC G (.bin op a b) e m = (evalC G a e m).bind fun x m => (evalC G b e m).bind fun y m => lift (binD op m x y) m := by rw [evalC]
@[simp] theorem ev_neg (a : C) : evalC G (.neg a) e m = (evalC G a e m).bind fun x m => lift (negD x) m := by rw [evalC]
@[simp] theorem ev_cmp (op : CmpOp) (a b : C) : evalC G (.cmp op a b) e m = (evalC G a e m).bind fun x m => (evalC G b e m).bind fun y m => lift ((cmpD op m x y).map D.bl) m := by rw [evalC]
@[simp] theorem ev_chn (o1 o2 : CmpOp) (a b c : C) : evalC G (.chn o1 o2 a b c) e m = (evalC G a e m).bind fun x m => (evalC G b e m).bind fun y m => (lift (cmpD o1 m x y) m).bind fun k m =>
      if k then (evalC G c e m).bind fun z m => lift ((cmpD o2 m y z).map D.bl) m else .ok (.bl false) m := by rw [evalC]
@[simp] theorem ev_and (a b : C) : evalC G (.and a b) e m = (evalC G a e m).bind fun x m => (asBl x m).bind fun k m => if k then evalC G b e m else .ok (.bl false) m := by rw [evalC]
@[simp] theorem ev_or (a b : C) : evalC G (.or a b) e m = (evalC G a e m).bind fun x m => (asBl x m).bind fun k m => if k then .ok (.bl true) m else evalC G b e m := by rw [evalC]
@[simp] theorem ev_not (a : C) : evalC G (.not a) e m = (evalC G a e m).bind fun x m => (asBl x m).bind fun k m => .ok (.bl (!k)) m := by rw [evalC]
@[simp] theorem ev_ite (t a b : C) : evalC G (.ite t a b) e m = (evalC G t e m).bind fun x m => (asBl x m).bind fun k m => if k then evalC G a e m else evalC G b e m := by rw [evalC]
@[simp] theorem ev_sub (a i : C) : evalC G (.sub a i) e m = (evalC G a e m).bind fun x m => (evalC G i e m).bind fun y m => lift (subD m x y) m := by rw [evalC]
@[simp] theorem ev_cut (a : C) (lo hi : Co) : evalC G (.cut a lo hi) e m = (evalC G a e m).bind fun x m => (evalCo G lo e m).bind fun l m => (evalCo G hi e m).bind fun h m => lift (cutD m x l h) m := by rw [evalC]
@[simp] theorem ev_rev (a : C) : evalC G (.rev a) e m = (evalC G a e m).bind fun x m => lift (revD m x) m := by rw [evalC]
@[simp] theorem ev_call (f : Nat) (l : Cs) : evalC G (.call f l) e m = (evalCs G l e m).bind fun l m => G f l m := by rw [evalC]
@[simp] theorem ev_callk (f np : Nat) (l : Cs) (ix : List Nat) (kw : Cs) (df : List (Nat × D)) : evalC G (.callk f np l ix kw df) e m = (evalCs G l e m).bind fun l m => (evalCs G kw e m).bind fun k m => G f (placed np l ix k df .non) m := by rw [evalC]
@[simp] theorem ev_bi (b : Bi) (l : Cs) : evalC G (.bi b l) e m = (evalCs G l e m).bind fun l m => lift (biD b m l) m := by rw [evalC]
@[simp] theorem ev_srtR (a : C) : evalC G (.srtR a) e m = (evalC G a e m).bind fun x m => lift (srtRD m x) m := by rw [evalC]
def meF (me : Me) (x : D) (ys : List D) (m : Mem) : Out D := match mtD me m x ys with
  | some (d, m) => .ok d m
  | none => .bad
@[simp] theorem ev_mt (me : Me) (o : C) (l : Cs) : evalC G (.mt me o l) e m = (evalC G o e m).bind fun x m => if isMe me m x then (evalCs G l e m).bind (meF me x) else .bad := by rw [evalC]; rfl
/-- a comprehension's items -/
def compD (G : Sg) (own : List Nat) (elt : C) (t : T) (ifs : Cs) (s : Src) (e : Env) (m : Mem) : Out (List D) :=
  (compGo s.stays (fun e m => evalC G elt e m) (fun e m => evalIfs G ifs e m) t s.items (wipe e own) m).calm
@[simp] theorem ev_comp (own : List Nat) (elt : C) (t : T) (it : C) (ifs : Cs) : evalC G (.comp own elt t it ifs) e m = ((evalIt G it e m).bind fun s m => compD G own elt t ifs s e m).bind fun l m => .ok (.lst l) m := by rw [evalC]; rfl
/-- .. of two walks -/
def comp2D (G : Sg) (own : List Nat) (elt : C) (t : T) (ifs : Cs) (t1 : T) (it1 : C) (ifs1 : Cs) (s : Src) (e : Env) (m : Mem) : Out (List D) :=
  (compGoL s.stays (fun e m => (evalIt G it1 e m).bind fun s1 m => compGo s1.stays (fun e m => evalC G elt e m) (fun e m => evalIfs G ifs1 e m) t1 s1.items (wipe e t1.ixs) m) (fun e m => evalIfs G ifs e m) t s.items (wipe e own) m).calm
def sizedL (l : List D) (m : Mem) : Out D := if l.length ≤ sizeLine then .ok (.lst l) m else .bad
@[simp] theorem ev_comp2 (own : List Nat) (elt : C) (t : T) (it : C) (ifs : Cs) (t1 : T) (it1 : C) (ifs1 : Cs) : evalC G (.comp2 own elt t it ifs t1 it1 ifs1) e m = ((evalIt G it e m).bind fun s m => comp2D G own elt t ifs t1 it1 ifs1 s e m).bind sizedL := by rw [evalC]; rfl
def dcompD (G : Sg) (own : List Nat) (k v : C) (t : T) (ifs : Cs) (s : Src) (e : Env) (m : Mem) : Out (List (Key × D)) :=
  (dcGo s.stays (fun e m => evalC G k e m) (fun e m => evalC G v e m) (fun e m => evalIfs G ifs e m) t s.items (wipe e own) [] m).calm
@[simp] theorem ev_dcomp (own : List Nat) (k v : C) (t : T) (it : C) (ifs : Cs) : evalC G (.dcomp own k v t it ifs) e m = ((evalIt G it e m).bind fun s m => dcompD G own k v t ifs s e m).bind fun kvs m => .ok (.dct (kvs.map (·.1)) (kvs.map (·.2))) m := by rw [evalC]; rfl
@[simp] theorem ev_lrg (a b : C) : evalC G (.lrg a b) e m = (evalC G a e m).bind fun x m => (evalC G b e m).bind fun y m => lift (lrgD x y) m := by rw [evalC]
@[simp] theorem ev_nev : evalC G .nev e m = .bad := by rw [evalC]
@[simp] theorem ev_srtc (own : List Nat) (elt : C) (t : T) (it : C) (ifs : Cs) : evalC G (.srtc own elt t it ifs) e m = ((evalIt G it e m).bind fun s m => compD G own elt t ifs s e m).bind fun l m => lift (srtuD l) m := by rw [evalC]; rfl
@[simp] theorem evs_nil : evalCs G .nil e m = .ok [] m := evalCs_nil e m
@[simp] theorem evs_cons (c : C) (l : Cs) : evalCs G (.cons c l) e m = (evalC G c e m).bind fun d m => (evalCs G l e m).bind fun ds m => .ok (d :: ds) m := by rw [evalCs]
@[simp] theorem evf_nil : evalIfs G .nil e m = .ok true m := by rw [evalIfs]
@[simp] theorem evf_cons (c : C) (l : Cs) : evalIfs G (.cons c l) e m = (evalC G c e m).bind fun d m => (asBl d m).bind fun k m => if k then evalIfs G l e m else .ok false m := by rw [evalIfs]
@[simp] theorem evo_none : evalCo G .none e m = .ok none m := by rw [evalCo]
def asIx (d : D) (m : Mem) : Out (Option Int) := match d with
  | .int i => .ok (some i) m
  | _ => .bad
@[simp] theorem asIx_int (i : Int) : asIx (.int i) m = .ok (some i) m := rfl
@[simp] theorem evo_some (c : C) : evalCo G (.some c) e m = (evalC G c e m).bind asIx := by rw [evalCo]; rfl
def rngS (d : D) (m : Mem) : Out Src := match d with
  | .int n => if -(2 ^ 62) ≤ n ∧ n ≤ sizeLine then .ok ⟨(List.range n.toNat).map fun (k : Nat) => D.int (k : Int), none⟩ m else .bad
  | _ => .bad
@[simp] theorem evi_rng (a : C) : evalIt G (.rng a) e m = (evalC G a e m).bind rngS := by rw [evalIt]; rfl
@[simp] theorem evi_zip (a b : C) : evalIt G (.zip a b) e m = (evalC G a e m).bind fun x m => (evalC G b e m).bind fun y m => lift (zipS m x y) m := by rw [evalIt]
def rng2S (x y : D) (m : Mem) : Out Src := match x, y with
  | .int i, .int j => if (-(2 ^ 62) ≤ i ∧ i ≤ sizeLine) ∧ (-(2 ^ 62) ≤ j ∧ j ≤ sizeLine) ∧ j - i ≤ sizeLine then .ok ⟨(List.range (j - i).toNat).map fun (k : Nat) => D.int (i + (k : Int)), none⟩ m else .bad
  | _, _ => .bad
@[simp] theorem evi_rng2 (a b : C) : evalIt G (.rng2 a b) e m = (evalC G a e m).bind fun x m => (evalC G b e m).bind fun y m => rng2S x y m := by rw [evalIt]; rfl
@[simp] theorem evi_enum (a : C) : evalIt G (.enum a) e m = (evalC G a e m).bind fun x m => lift (enumS x) m := by rw [evalIt]
@[simp] theorem evi_mt (me : Me) (o : C) (l : Cs) : evalIt G (.mt me o l) e m = (evalC G (.mt me o l) e m).bind fun d m => lift (srcOf m d) m := evalIt_plain rfl e m
@[simp] theorem evi_srtR (a : C) : evalIt G (.srtR a) e m = (evalC G (.srtR a) e m).bind fun d m => lift (srcOf m d) m := evalIt_plain rfl e m
theorem evi_plain {c : C} (h : plainIt c = true) : evalIt G c e m = (evalC G c e m).bind fun d m => lift (srcOf m d) m := evalIt_plain h e m
@[simp] theorem evi_var (i : Nat) : evalIt G (.var i) e m = (evalC G (.var i) e m).bind fun d m => lift (srcOf m d) m := evalIt_plain rfl e m
@[simp] theorem evi_con (d : D) : evalIt G (.con d) e m = (evalC G (.con d) e m).bind fun d m => lift (srcOf m d) m := evalIt_plain rfl e m
@[simp] theorem evi_ite (t a b : C) : evalIt G (.ite t a b) e m = (evalC G (.ite t a b) e m).bind fun d m => lift (srcOf m d) m := evalIt_plain rfl e m
@[simp] theorem evi_sub (a b : C) : evalIt G (.sub a b) e m = (evalC G (.sub a b) e m).bind fun d m => lift (srcOf m d) m := evalIt_plain rfl e m
@[simp] theorem evi_cut (a : C) (b c : Co) : evalIt G (.cut a b c) e m = (evalC G (.cut a b c) e m).bind fun d m => lift (srcOf m d) m := evalIt_plain rfl e m
@[simp] theorem evi_rev (a : C) : evalIt G (.rev a) e m = (evalC G (.rev a) e m).bind fun d m => lift (srcOf m d) m := evalIt_plain rfl e m
@[simp] theorem evi_lst (l : Cs) : evalIt G (.lst l) e m = (evalC G (.lst l) e m).bind fun d m => lift (srcOf m d) m := evalIt_plain rfl e m
@[simp] theorem evi_tup (l : Cs) : evalIt G (.tup l) e m = (evalC G (.tup l) e m).bind fun d m => lift (srcOf m d) m := evalIt_plain rfl e m
@[simp] theorem evi_call (f : Nat) (l : Cs) : evalIt G (.call f l) e m = (evalC G (.call f l) e m).bind fun d m => lift (srcOf m d) m := evalIt_plain rfl e m
@[simp] theorem evi_callk (f np : Nat) (l : Cs) (ix : List Nat) (kw : Cs) (df : List (Nat × D)) : evalIt G (.callk f np l ix kw df) e m = (evalC G (.callk f np l ix kw df) e m).bind fun d m => lift (srcOf m d) m := evalIt_plain rfl e m
@[simp] theorem evi_bi (b : Bi) (l : Cs) : evalIt G (.bi b l) e m = (evalC G (.bi b l) e m).bind fun d m => lift (srcOf m d) m := evalIt_plain rfl e m
@[simp] theorem evi_bin (op : Operator) (a b : C) : evalIt G (.bin op a b) e m = (evalC G (.bin op a b) e m).bind fun d m => lift (srcOf m d) m := evalIt_plain rfl e m
@[simp] theorem evi_comp (own : List Nat) (elt : C) (t : T) (it : C) (ifs : Cs) : evalIt G (.comp own elt t it ifs) e m = (evalC G (.comp own elt t it ifs) e m).bind fun d m => lift (srcOf m d) m := evalIt_plain rfl e m
@[simp] theorem evi_comp2 (own : List Nat) (elt : C) (t : T) (it : C) (ifs : Cs) (t1 : T) (it1 : C) (ifs1 : Cs) : evalIt G (.comp2 own elt t it ifs t1 it1 ifs1) e m = (evalC G (.comp2 own elt t it ifs t1 it1 ifs1) e m).bind fun d m => lift (srcOf m d) m := evalIt_plain rfl e m
@[simp] theorem evi_srtc (own : List Nat) (elt : C) (t : T) (it : C) (ifs : Cs) : evalIt G (.srtc own elt t it ifs) e m = (evalC G (.srtc own elt t it ifs) e m).bind fun d m => lift (srcOf m d) m := evalIt_plain rfl e m
@[simp] theorem evi_lrg (a b : C) : evalIt G (.lrg a b) e m = (evalC G (.lrg a b) e m).bind fun d m => lift (srcOf m d) m := evalIt_plain rfl e m
@[simp] theorem asBl_bl (b : Bool) : asBl (.bl b) m = .ok b m := rfl
/-! ### statements -/
@[simp] theorem xs_nil : execSs G .nil e m = .nx e m := by rw [execSs]
@[simp] theorem xs_cons (s : S) (l : Ss) : execSs G (.cons s l) e m = (execS G s e m).andThen fun e m => execSs G l e m := by rw [execSs]
@[simp] theorem x_drop (c : C) : execS G (.drop c) e m = (evalC G c e m).fl e fun _ m => .nx e m := by rw [execS]
@[simp] theorem x_set (i : Nat) (c : C) : execS G (.set i c) e m = (evalC G c e m).fl e fun d m => .nx (e.set i (some d)) m := by rw [execS]
def unpD (t : T) (e : Env) (d : D) (m : Mem) : Fl := match t.bind d e with
  | some e => .nx e m
  | none => .bad
@[simp] theorem x_unp (t : T) (c : C) : execS G (.unp t c) e m = (evalC G c e m).fl e (unpD t e) := by rw [execS]; rfl
@[simp] theorem x_par (is : List Nat) (cs : Cs) : execS G (.par is cs) e m = (evalCs G cs e m).fl e fun ds m => .nx (setSome is ds e) m := by rw [execS]
def augF (op : Operator) (i : Nat) (x : D) (e : Env) (y : D) (m : Mem) : Fl := match augD op x y with
  | some z => .nx (e.set i (some z)) m
  | none => .bad
@[simp] theorem augF_add (i : Nat) (e : Env) (a b : Int) : augF .Add i (.int a) e (.int b) m = .nx (e.set i (some (.int (a + b)))) m := rfl
@[simp] theorem augF_sub (i : Nat) (e : Env) (a b : Int) : augF .Sub i (.int a) e (.int b) m = .nx (e.set i (some (.int (a - b)))) m := rfl
theorem x_aug (op : Operator) (i : Nat) (c : C) {x : D} (h : e.getD i none = some x) : execS G (.aug op i c) e m = (evalC G c e m).fl e (augF op i x e) := by
  rw [execS, h]
  rfl
def putF (o k v : D) (e : Env) (m : Mem) : Fl := match putD m o k v with
  | some m => .nx e m
  | none => .bad
@[simp] theorem x_put (o k v : C) : execS G (.put o k v) e m = (evalC G v e m).fl e fun v m => (evalC G o e m).fl e fun o m => (evalC G k e m).fl e fun k m => putF o k v e m := by rw [execS]; rfl
def appF (o v : D) (e : Env) (m : Mem) : Fl := match appD m o v with
  | some m => .nx e m
  | none => .bad
theorem x_app (i : Nat) (c : C) {o : D} {l : List D} (h : e.getD i none = some o) (hl : rdL m o = some l) : execS G (.app i c) e m = (evalC G c e m).fl e fun v m => appF o v e m := by
  rw [execS, h]
  dsimp only
  rw [hl]
  rfl
def methF (x : Option Nat) (i : Nat) (me : Me) (xs : List D) (e : Env) (ys : List D) (m : Mem) : Fl := match mtV me xs ys with
  | some (d, zs) => .nx ((setO x d e).set i (some (.lst zs))) m
  | none => .bad
theorem x_mv (i j : Nat) {d : D} (h : e.getD j none = some d) : execS G (.mv i j) e m = .nx ((e.set i (some d)).set j none) m := by rw [execS, h]
theorem x_meth (x : Option Nat) (i : Nat) (me : Me) (l : Cs) {xs : List D} (h : e.getD i none = some (.lst xs)) : execS G (.meth x i me l) e m = (evalCs G l e m).fl e (methF x i me xs e) := by
  rw [execS, h]
  rfl
@[simp] theorem x_ret (c : C) : execS G (.ret c) e m = (evalC G c e m).fl e fun d m => .rt d m := by rw [execS]
@[simp] theorem x_retN : execS G .retN e m = .rt .non m := by rw [execS]
@[simp] theorem evt (c : C) : evalT G c e m = (evalC G c e m).bind fun d m => asBl d m := rfl
@[simp] theorem x_ite (t : C) (a b : Ss) : execS G (.ite t a b) e m = (evalT G t e m).fl e fun k m => if k then execSs G a e m else execSs G b e m := by rw [execS]
/-- a loop over a source -/
noncomputable def loopF (G : Sg) (b : Ss) (t : T) (s : Src) (e : Env) (m : Mem) : Fl := forGo s.stays (fun e m => execSs G b e m) t s.items e m
@[simp] theorem x_for (t : T) (it : C) (b : Ss) : execS G (.for_ t it b) e m = (evalIt G it e m).fl e fun s m => loopF G b t s e m := by rw [execS]; rfl
@[simp] theorem x_while (t : C) (b : Ss) : execS G (.while_ t b) e m = whileF (fun e m => evalT G t e m) (fun e m => execSs G b e m) e m := by rw [execS]
@[simp] theorem x_brk : execS G .brk e m = .bk e m := by rw [execS]
@[simp] theorem x_cont : execS G .cont e m = .ct e m := by rw [execS]
@[simp] theorem x_nev : execS G .nev e m = .bad := by rw [execS]
def unpSD (l : Ts) (e : Env) (d : D) (m : Mem) : Fl := match starD l.num d with
  | some ds => match l.bind ds e with
    | some e => .nx e m
    | none => .bad
  | none => .bad
@[simp] theorem x_unpS (l : Ts) (c : C) : execS G (.unpS l c) e m = (evalC G c e m).fl e (unpSD l e) := by rw [execS]; rfl
@[simp] theorem x_pass : execS G .pass e m = .nx e m := by rw [execS]
@[simp] theorem out_rt (d : D) : (Fl.rt d m).out = .ok d m := rfl
@[simp] theorem out_nx : (Fl.nx e m).out = .ok .non m := rfl
end
theorem progG_at {ds : List Fd} {k n : Nat} {f : Fd} (h : ds[n]? = some f) (args : List D) (m : Mem) : progG ds (k + 1) n args m = gcO m (bodyD (progG ds k) f.N.length f.b args m) := by
  show (match ds[n]? with | some f => _ | none => _) = _
  rw [h]
/-! ### flat memory facts -/
@[simp] theorem src_none (l : List D) (m : Mem) : (Src.mk l none).stays m = true := rfl
theorem src_at {l : List D} {n : Nat} {m : Mem} (h : m[n]? = some (.lst l)) : (Src.mk l (some n)).stays m = true := sameL_refl h
/-! ### comprehensions -/
section
variable {stays : Mem → Bool} {f : Env → Mem → Out D} {p : Env → Mem → Out Bool} {t : T}
/-- each item chosen or not, its value; the memory as it was -/
theorem compGo_pure {e : Env} {m : Mem} (h0 : stays m = true) (c : D → Bool) (v : D → D) : ∀ {ds : List D}, (∀ d ∈ ds, ∃ e', t.bind d e = some e' ∧ p e' m = .ok (c d) m ∧ (c d = true → f e' m = .ok (v d) m)) →
    compGo stays f p t ds e m = .ok ((ds.filter c).map v) m
  | [], _ => by unfold compGo; rw [if_pos h0]; rfl
  | d :: ds, h => by
    obtain ⟨e', h1, h2, h3⟩ := h d (List.mem_cons_self ..)
    have ih := compGo_pure h0 c v (fun d hd => h d (List.mem_cons_of_mem _ hd))
    unfold compGo
    rw [if_pos h0, h1]
    dsimp only
    rw [h2, Out.bind_ok, List.filter_cons]
    cases hc : c d with
    | true =>
      rw [if_pos rfl, if_pos rfl, h3 hc, Out.bind_ok, ih, Out.bind_ok, List.map_cons]
    | false =>
      rw [if_neg Bool.false_ne_true, if_neg Bool.false_ne_true, ih]
/-- every item, with an effect kept by M: the values are as P says -/
theorem compGo_eff {e : Env} {M : Mem → Prop} {P : D → D → Prop} (h0 : ∀ m, M m → stays m = true) : ∀ {ds : List D} {m : Mem}, M m → (∀ d ∈ ds, ∀ m, M m → ∃ e', t.bind d e = some e' ∧ p e' m = .ok true m ∧ ∃ v m', f e' m = .ok v m' ∧ M m' ∧ P d v) →
    ∃ vs m', compGo stays f p t ds e m = .ok vs m' ∧ M m' ∧ Paired P ds vs
  | [], m, hm, _ => ⟨[], m, by unfold compGo; rw [if_pos (h0 m hm)], hm, .nil⟩
  | d :: ds, m, hm, h => by
    obtain ⟨e', h1, h2, v, m', h3, h4, h5⟩ := h d (List.mem_cons_self ..) m hm
    obtain ⟨vs, m2, h6, h7, h8⟩ := compGo_eff h0 h4 (fun d hd => h d (List.mem_cons_of_mem _ hd))
    refine ⟨v :: vs, m2, ?_, h7, .cons h5 h8⟩
    unfold compGo
    rw [if_pos (h0 m hm), h1]
    dsimp only
    rw [h2, Out.bind_ok, if_pos rfl, h3, Out.bind_ok, h6, Out.bind_ok]
end
/-! ### loops -/
/-- a loop that goes through its items: I by what is left -/
theorem forGo_inv {stays : Mem → Bool} {b : Env → Mem → Fl} {t : T} (I : List D → Env → Mem → Prop) (h0 : ∀ l e m, I l e m → stays m = true) (hs : ∀ d l e m, I (d :: l) e m → ∃ e1, t.bind d e = some e1 ∧ ∃ e' m', b e1 m = .nx e' m' ∧ I l e' m') :
    ∀ {ds : List D} {e : Env} {m : Mem}, I ds e m → ∃ e' m', forGo stays b t ds e m = .nx e' m' ∧ I [] e' m'
  | [], e, m, h => ⟨e, m, by unfold forGo; rw [if_pos (h0 _ e m h)], h⟩
  | d :: ds, e, m, h => by
    obtain ⟨e1, h1, e', m', h2, h3⟩ := hs d ds e m h
    obtain ⟨e2, m2, h4, h5⟩ := forGo_inv I h0 hs h3
    refine ⟨e2, m2, ?_, h5⟩
    unfold forGo
    rw [if_pos (h0 _ e m h), h1]
    dsimp only
    rw [h2]
    exact h4
/-- a loop whose items all keep I -/
theorem forGo_all {stays : Mem → Bool} {b : Env → Mem → Fl} {t : T} (I : Env → Mem → Prop) {ds : List D} (h0 : ∀ e m, I e m → stays m = true) (hs : ∀ d ∈ ds, ∀ e m, I e m → ∃ e1, t.bind d e = some e1 ∧ ∃ e' m', b e1 m = .nx e' m' ∧ I e' m')
    {e : Env} {m : Mem} (h : I e m) : ∃ e' m', forGo stays b t ds e m = .nx e' m' ∧ I e' m' := by
  obtain ⟨e', m', h1, h2, _⟩ := forGo_inv (stays := stays) (b := b) (t := t) (fun l e m => I e m ∧ ∀ d ∈ l, d ∈ ds) (fun l e m z => h0 e m z.1) (fun d l e m z => by
    obtain ⟨e1, h1, e', m', h2, h3⟩ := hs d (z.2 d (List.mem_cons_self ..)) e m z.1
    exact ⟨e1, h1, e', m', h2, h3, fun d hd => z.2 d (List.mem_cons_of_mem _ hd)⟩) (ds := ds) ⟨h, fun d hd => hd⟩
  exact ⟨e', m', h1, h2⟩
/-- a loop over a source, I by what is left -/
theorem loop_inv {G : Sg} {b : Ss} {t : T} {s : Src} (I : List D → Env → Mem → Prop) (h0 : ∀ l e m, I l e m → s.stays m = true) (hs : ∀ d l e m, I (d :: l) e m → ∃ e1, t.bind d e = some e1 ∧ ∃ e' m', execSs G b e1 m = .nx e' m' ∧ I l e' m')
    {e : Env} {m : Mem} (h : I s.items e m) : ∃ e' m', loopF G b t s e m = .nx e' m' ∧ I [] e' m' := forGo_inv I h0 hs h
/-- .. whose items all keep I -/
theorem loop_all {G : Sg} {b : Ss} {t : T} {s : Src} (I : Env → Mem → Prop) (h0 : ∀ e m, I e m → s.stays m = true) (hs : ∀ d ∈ s.items, ∀ e m, I e m → ∃ e1, t.bind d e = some e1 ∧ ∃ e' m', execSs G b e1 m = .nx e' m' ∧ I e' m')
    {e : Env} {m : Mem} (h : I e m) : ∃ e' m', loopF G b t s e m = .nx e' m' ∧ I e' m' := forGo_all I h0 hs h
end Z
/-! ZH: small data: shown, compared, told by kind (plain Lean). -/
namespace Z
open PySem
/-- data of at most a weight and a depth -/
structure Small (w p : Nat) (x : PyData) : Prop where
  lay : x.canLay0 = true
  vis : x.showable = true
  leaf : x.leavesShort 1921 = true
  dep : x.depth ≤ p
  wgt : x.weight ≤ w
def Sm (w p : Nat) (d : D) : Prop := ∃ x, toPy d = some x ∧ Small w p x
variable {w w' p p' n : Nat} {d a b : D} {m : Mem} {l : List D}
theorem Sm.mono (h : Sm w p d) (h1 : w ≤ w') (h2 : p ≤ p') : Sm w' p' d := by
  obtain ⟨x, e, s⟩ := h
  exact ⟨x, e, s.lay, s.vis, s.leaf, Nat.le_trans s.dep h2, Nat.le_trans s.wgt h1⟩
theorem sm_non : Sm 0 0 .non := ⟨.none, rfl, rfl, rfl, rfl, Nat.le_refl _, Nat.le_refl _⟩
theorem sm_bl (k : Bool) : Sm 0 0 (.bl k) := ⟨.bool k, rfl, rfl, rfl, rfl, Nat.le_refl _, Nat.le_refl _⟩
theorem sm_int {i : Int} {k : Nat} (h : i.natAbs < 2 ^ k) (hk : k ≤ 1900) : Sm k 0 (.int i) := by
  have l2 : i.natAbs.log2 < 1920 := by
    by_cases z : i.natAbs = 0
    · rw [z]; decide
    · exact Nat.lt_of_lt_of_le ((Nat.log2_lt z).mpr h) (by omega)
  refine ⟨.int i, rfl, rfl, by simpa only [PyData.showable, decide_eq_true_eq] using l2, ?_, Nat.zero_le _, ?_⟩
  · simp only [PyData.leavesShort, decide_eq_true_eq]
    show (Str.ofString (toString i)).length ≤ 1921
    rw [ofString_length]
    exact int_text_length_le (by decide) l2
  · simp only [PyData.weight]
    by_cases z : i.natAbs = 0
    · have e : i = 0 := Int.natAbs_eq_zero.mp z
      rw [e]; exact Nat.zero_le _
    · have q := (Nat.log2_lt z).mpr h
      split <;> omega
theorem sm_str {s : Str} (h : PyData.strOk s = true) : Sm s.length 0 (.str s) := by
  refine ⟨.str s, rfl, h, rfl, ?_, Nat.zero_le _, Nat.le_refl _⟩
  simp only [PyData.leavesShort, List.all_eq_true, decide_eq_true_eq]
  intro c hc
  unfold PyData.strOk at h
  rw [← Array.all_toList, List.all_eq_true] at h
  have := h c hc
  simp only [decide_eq_true_eq] at this
  omega
theorem sm_all : ∀ {l : List D}, (∀ d ∈ l, Sm w p d) → ∃ xs, toPys l = some xs ∧ PyData.canLayAll0 xs = true ∧ PyData.showableAll xs = true ∧ PyData.leavesShortAll 1921 xs = true ∧ PyData.depthAll xs ≤ p ∧ PyData.weightAll xs ≤ l.length * (w + 1) ∧ xs.length = l.length
  | [], _ => ⟨[], rfl, rfl, rfl, rfl, Nat.zero_le _, Nat.zero_le _, rfl⟩
  | d :: l, h => by
    obtain ⟨x, e, s⟩ := h d (List.mem_cons_self ..)
    obtain ⟨xs, h1, h2, h3, h4, h5, h6, h7⟩ := sm_all (l := l) fun d hd => h d (List.mem_cons_of_mem _ hd)
    refine ⟨x :: xs, by simp only [toPys, e, h1], ?_, ?_, ?_, ?_, ?_, by rw [List.length_cons, List.length_cons, h7]⟩
    · simp only [PyData.canLayAll0, s.lay, h2, Bool.and_self]
    · simp only [PyData.showableAll, s.vis, h3, Bool.and_self]
    · simp only [PyData.leavesShortAll, s.leaf, h4, Bool.and_self]
    · simp only [PyData.depthAll]
      exact Nat.max_le.mpr ⟨s.dep, h5⟩
    · simp only [PyData.weightAll, List.length_cons, Nat.add_mul, Nat.one_mul]
      have := s.wgt
      omega
theorem sm_tup (h : ∀ d ∈ l, Sm w p d) (hl : l.length ≤ n) : Sm (n * (w + 1)) (p + 1) (.tup l) := by
  obtain ⟨xs, h1, h2, h3, h4, h5, h6, h7⟩ := sm_all h
  refine ⟨.tuple xs, by simp only [toPy, h1], by simpa only [PyData.canLay0] using h2, by simpa only [PyData.showable] using h3, by simpa only [PyData.leavesShort] using h4, ?_, ?_⟩
  · simp only [PyData.depth]; omega
  · simp only [PyData.weight]
    exact Nat.le_trans h6 (Nat.mul_le_mul_right _ hl)
theorem sm_lst (h : ∀ d ∈ l, Sm w p d) (hl : l.length ≤ n) : Sm (n * (w + 1)) (p + 1) (.lst l) := by
  obtain ⟨xs, h1, h2, h3, h4, h5, h6, h7⟩ := sm_all h
  refine ⟨.list xs, by simp only [toPy, h1], by simpa only [PyData.canLay0] using h2, by simpa only [PyData.showable] using h3, by simpa only [PyData.leavesShort] using h4, ?_, ?_⟩
  · simp only [PyData.depth]; omega
  · simp only [PyData.weight]
    exact Nat.le_trans h6 (Nat.mul_le_mul_right _ hl)
theorem Sm.top (h : Sm w p d) : top m d = d := by
  obtain ⟨x, e, _⟩ := h
  cases d <;> first | rfl | (simp [toPy] at e)
theorem Sm.py (h : Sm w p d) : ∃ x, pyOf m d = some x ∧ toPy d = some x ∧ Small w p x := by
  obtain ⟨x, e, s⟩ := id h
  exact ⟨x, by unfold pyOf; rw [h.top]; exact e, e, s⟩
/-- its text: the same in every memory -/
theorem Sm.repr (h : Sm w p d) (hp : p ≤ 60) (hw : w ≤ 8000) : ∃ s, ∀ m, reprD m d = some (.str s) := by
  obtain ⟨x, e, s⟩ := id h
  refine ⟨x.shown, fun m => ?_⟩
  unfold reprD
  have e' : pyOf m d = some x := by unfold pyOf; rw [h.top]; exact e
  rw [e']
  have q := PyData.shown_le 1921 (by decide) x s.leaf
  have q2 : (1921 + 2) * x.weight ≤ 1923 * 8000 := Nat.mul_le_mul (Nat.le_refl _) (Nat.le_trans s.wgt hw)
  have q3 : x.shown.length ≤ sizeLine := by rw [sizeLine_eq]; omega
  have q4 : x.depth ≤ 60 := Nat.le_trans s.dep hp
  simp only [s.lay, s.vis, decide_eq_true q3, decide_eq_true q4, Bool.and_self, if_true]
theorem Small.shaped {x : PyData} (h : Small w p x) (hp : p ≤ 64) : SeqAt.shaped x = true := by
  unfold SeqAt.shaped
  rw [h.lay, decide_eq_true (Nat.le_trans h.dep hp)]
  rfl
/-! ### the text of a pair of truths -/
theorem repr_bls (a b : Bool) : ∃ s, ∀ m, reprD m (.tup [.bl a, .bl b]) = some (.str s) :=
  (sm_tup (w := 0) (p := 0) (n := 2) (l := [.bl a, .bl b]) (fun d hd => by
    rcases List.mem_cons.mp hd with rfl | hd
    · exact sm_bl _
    · rw [List.mem_singleton.mp hd]; exact sm_bl _) (Nat.le_refl _)).repr (by decide) (by decide)
/-! ### lists of ints compared -/
theorem toPys_ints : ∀ ns : List Int, toPys (ns.map D.int) = some (ns.map PyData.int)
  | [] => rfl
  | n :: ns => by simp only [List.map_cons, toPys, toPy, toPys_ints ns]
theorem lay_ints : ∀ ns : List Int, PyData.canLayAll0 (ns.map PyData.int) = true
  | [] => rfl
  | n :: ns => by simp only [List.map_cons, PyData.canLayAll0, PyData.canLay0, lay_ints ns, Bool.and_self]
theorem dep_ints : ∀ ns : List Int, PyData.depthAll (ns.map PyData.int) = 0
  | [] => rfl
  | n :: ns => by simp only [List.map_cons, PyData.depthAll, PyData.depth, dep_ints ns, Nat.max_self]
theorem eqv_ints : ∀ xs ys : List Int, PyData.eqvAll (xs.map PyData.int) (ys.map PyData.int) = decide (xs = ys)
  | [], [] => rfl
  | [], _ :: _ => rfl
  | _ :: _, [] => rfl
  | x :: xs, y :: ys => by
    simp only [List.map_cons, PyData.eqvAll, PyData.eqv, eqv_ints xs ys, List.cons.injEq, Bool.decide_and]
    rfl
theorem eqD_tups (xs ys : List Int) : eqD m (.tup (xs.map D.int)) (.tup (ys.map D.int)) = some (decide (xs = ys)) := by
  show eqP m _ _ = _
  unfold eqP pyOf top
  simp only [toPy, toPys_ints]
  unfold SeqAt.shaped
  simp only [PyData.canLay0, lay_ints, PyData.depth, dep_ints, PyData.eqv, eqv_ints]
  rfl
theorem eqD_lsts (xs ys : List Int) : eqD m (.lst (xs.map D.int)) (.lst (ys.map D.int)) = some (decide (xs = ys)) := by
  show eqP m _ _ = _
  unfold eqP pyOf top
  simp only [toPy, toPys_ints]
  unfold SeqAt.shaped
  simp only [PyData.canLay0, lay_ints, PyData.depth, dep_ints, PyData.eqv, eqv_ints]
  rfl
@[simp] theorem eqD_int (x y : Int) : eqD m (.int x) (.int y) = some (decide (x = y)) := rfl
@[simp] theorem eqD_str (x y : Str) : eqD m (.str x) (.str y) = some (decide (x = y)) := rfl
/-! ### kinds -/
theorem asBools_map : ∀ bs : List Bool, asBools (bs.map D.bl) = some bs
  | [] => rfl
  | b :: bs => by simp only [List.map_cons, asBools, asBools_map bs, Option.map_some]
theorem asInts_map : ∀ ns : List Int, asInts (ns.map D.int) = some ns
  | [] => rfl
  | n :: ns => by simp only [List.map_cons, asInts, asInts_map ns, Option.map_some]
@[simp] theorem bi_isinst (d : D) (t : String) : biD .isinst m [d, .ty t] = (isinstD m d t).map D.bl := rfl
@[simp] theorem isi_non_int  : isinstD m .non "int" = some false := rfl
@[simp] theorem isi_non_bool  : isinstD m .non "bool" = some false := rfl
@[simp] theorem isi_non_str  : isinstD m .non "str" = some false := rfl
@[simp] theorem isi_non_tuple  : isinstD m .non "tuple" = some false := rfl
@[simp] theorem isi_non_list  : isinstD m .non "list" = some false := rfl
@[simp] theorem isi_bl_int (b : Bool) : isinstD m (.bl b) "int" = some true := rfl
@[simp] theorem isi_bl_bool (b : Bool) : isinstD m (.bl b) "bool" = some true := rfl
@[simp] theorem isi_bl_str (b : Bool) : isinstD m (.bl b) "str" = some false := rfl
@[simp] theorem isi_bl_tuple (b : Bool) : isinstD m (.bl b) "tuple" = some false := rfl
@[simp] theorem isi_bl_list (b : Bool) : isinstD m (.bl b) "list" = some false := rfl
@[simp] theorem isi_int_int (i : Int) : isinstD m (.int i) "int" = some true := rfl
@[simp] theorem isi_int_bool (i : Int) : isinstD m (.int i) "bool" = some false := rfl
@[simp] theorem isi_int_str (i : Int) : isinstD m (.int i) "str" = some false := rfl
@[simp] theorem isi_int_tuple (i : Int) : isinstD m (.int i) "tuple" = some false := rfl
@[simp] theorem isi_int_list (i : Int) : isinstD m (.int i) "list" = some false := rfl
@[simp] theorem isi_str_int (s : Str) : isinstD m (.str s) "int" = some false := rfl
@[simp] theorem isi_str_bool (s : Str) : isinstD m (.str s) "bool" = some false := rfl
@[simp] theorem isi_str_str (s : Str) : isinstD m (.str s) "str" = some true := rfl
@[simp] theorem isi_str_tuple (s : Str) : isinstD m (.str s) "tuple" = some false := rfl
@[simp] theorem isi_str_list (s : Str) : isinstD m (.str s) "list" = some false := rfl
@[simp] theorem isi_tup_int (l : List D) : isinstD m (.tup l) "int" = some false := rfl
@[simp] theorem isi_tup_bool (l : List D) : isinstD m (.tup l) "bool" = some false := rfl
@[simp] theorem isi_tup_str (l : List D) : isinstD m (.tup l) "str" = some false := rfl
@[simp] theorem isi_tup_tuple (l : List D) : isinstD m (.tup l) "tuple" = some true := rfl
@[simp] theorem isi_tup_list (l : List D) : isinstD m (.tup l) "list" = some false := rfl
@[simp] theorem isi_lst_int (l : List D) : isinstD m (.lst l) "int" = some false := rfl
@[simp] theorem isi_lst_bool (l : List D) : isinstD m (.lst l) "bool" = some false := rfl
@[simp] theorem isi_lst_str (l : List D) : isinstD m (.lst l) "str" = some false := rfl
@[simp] theorem isi_lst_tuple (l : List D) : isinstD m (.lst l) "tuple" = some false := rfl
@[simp] theorem isi_lst_list (l : List D) : isinstD m (.lst l) "list" = some true := rfl
@[simp] theorem cmpD_eq (a b : D) : cmpD .Eq m a b = eqD m a b := rfl
@[simp] theorem cmpD_ne (a b : D) : cmpD .NotEq m a b = (eqD m a b).map (!·) := rfl
@[simp] theorem cmpD_lt (a b : Int) : cmpD .Lt m (.int a) (.int b) = some (decide (a < b)) := rfl
@[simp] theorem cmpD_le (a b : Int) : cmpD .LtE m (.int a) (.int b) = some (decide (a ≤ b)) := rfl
@[simp] theorem cmpD_gt (a b : Int) : cmpD .Gt m (.int a) (.int b) = some (decide (b < a)) := rfl
@[simp] theorem cmpD_ge (a b : Int) : cmpD .GtE m (.int a) (.int b) = some (decide (b ≤ a)) := rfl
@[simp] theorem binD_add (a b : Int) : binD .Add m (.int a) (.int b) = some (.int (a + b)) := rfl
@[simp] theorem binD_sub (a b : Int) : binD .Sub m (.int a) (.int b) = some (.int (a - b)) := rfl
theorem binD_mul {a b : Int} (h : smallMul a b = true) : binD .Mult m (.int a) (.int b) = some (.int (a * b)) := by unfold binD; simp only [h, if_true]
theorem binD_mod {a b : Int} (h : 0 < b) : binD .Mod m (.int a) (.int b) = some (.int (a % b)) := by unfold binD; simp only [h, if_true]
theorem binD_div {a b : Int} (h : 0 < b) (h2 : b < 1073741824) : binD .FloorDiv m (.int a) (.int b) = some (.int (a / b)) := by unfold binD; simp only [h, h2, and_self, if_true]
theorem binD_lst {a b : List D} (h : a.length + b.length ≤ sizeLine) : binD .Add m (.lst a) (.lst b) = some (.lst (a ++ b)) := by unfold binD; simp only [rdL, h, if_true]
theorem binD_tup {a b : List D} (h : a.length + b.length ≤ sizeLine) : binD .Add m (.tup a) (.tup b) = some (.tup (a ++ b)) := by unfold binD; simp only [h, if_true]
theorem binD_str {a b : Str} (h : a.length + b.length ≤ sizeLine) : binD .Add m (.str a) (.str b) = some (.str (a ++ b)) := by unfold binD; simp only [h, if_true]
@[simp] theorem negD_int (a : Int) : negD (.int a) = some (.int (-a)) := rfl
@[simp] theorem bi_len_tup (l : List D) : biD .len m [.tup l] = some (.int l.length) := rfl
@[simp] theorem bi_len_lst (l : List D) : biD .len m [.lst l] = some (.int l.length) := rfl
@[simp] theorem bi_list_tup (l : List D) : biD .list m [.tup l] = some (.lst l) := rfl
@[simp] theorem bi_list_lst (l : List D) : biD .list m [.lst l] = some (.lst l) := rfl
@[simp] theorem bi_tuple_lst (l : List D) : biD .tuple m [.lst l] = some (.tup l) := rfl
@[simp] theorem bi_tuple_tup (l : List D) : biD .tuple m [.tup l] = some (.tup l) := rfl
@[simp] theorem bi_repr (d : D) : biD .repr m [d] = reprD m d := rfl
theorem bi_all (bs : List Bool) : biD .all m [.lst (bs.map D.bl)] = some (.bl (bs.all id)) := (show biD .all m [.lst (bs.map D.bl)] = (asBools (bs.map D.bl)).map (fun bs => D.bl (bs.all id)) from rfl).trans (by rw [asBools_map]; rfl)
theorem bi_any (bs : List Bool) : biD .any m [.lst (bs.map D.bl)] = some (.bl (bs.any id)) := (show biD .any m [.lst (bs.map D.bl)] = (asBools (bs.map D.bl)).map (fun bs => D.bl (bs.any id)) from rfl).trans (by rw [asBools_map]; rfl)
theorem bi_sum (ns : List Int) : biD .sum m [.lst (ns.map D.int)] = some (.int ns.sum) := (show biD .sum m [.lst (ns.map D.int)] = (asInts (ns.map D.int)).map (fun ns => D.int ns.sum) from rfl).trans (by rw [asInts_map]; rfl)
def srt (ns : List Int) : List Int := ns.mergeSort (fun a b => decide (a ≤ b))
theorem bi_sorted_lst (ns : List Int) : biD .sorted m [.lst (ns.map D.int)] = some (.lst ((srt ns).map D.int)) := by
  show (match asInts (ns.map D.int) with | some ns => some (D.lst ((ns.mergeSort (fun a b => decide (a ≤ b))).map D.int)) | none => _) = _
  rw [asInts_map]; rfl
theorem bi_sorted_tup (ns : List Int) : biD .sorted m [.tup (ns.map D.int)] = some (.lst ((srt ns).map D.int)) := by
  show (match asInts (ns.map D.int) with | some ns => some (D.lst ((ns.mergeSort (fun a b => decide (a ≤ b))).map D.int)) | none => _) = _
  rw [asInts_map]; rfl
theorem srt_perm (ns : List Int) : (srt ns).Perm ns := List.mergeSort_perm ns _
theorem srt_sorted (ns : List Int) : (srt ns).Pairwise (· ≤ ·) := by
  have := List.pairwise_mergeSort (le := fun a b : Int => decide (a ≤ b)) (by intro a b c h1 h2; simp at *; omega) (by intro a b; simp; omega) ns
  exact this.imp fun h => by simpa using h
@[simp] theorem revD_lst (l : List D) : revD m (.lst l) = some (.lst l.reverse) := rfl
@[simp] theorem revD_tup (l : List D) : revD m (.tup l) = some (.tup l.reverse) := rfl
@[simp] theorem src_tup (l : List D) : srcOf m (.tup l) = some ⟨l, none⟩ := rfl
@[simp] theorem src_lst (l : List D) : srcOf m (.lst l) = some ⟨l, none⟩ := rfl
@[simp] theorem zip_tup (x y : List D) : zipS m (.tup x) (.tup y) = some ⟨(x.zip y).map fun p => .tup [p.1, p.2], none⟩ := rfl
@[simp] theorem zip_lst (x y : List D) : zipS m (.lst x) (.lst y) = some ⟨(x.zip y).map fun p => .tup [p.1, p.2], none⟩ := rfl
@[simp] theorem bind_nm (i : Nat) (d : D) (e : Env) : T.bind (.nm i) d e = some (e.set i (some d)) := by rw [T.bind]
@[simp] theorem bind_tp (l : Ts) (ds : List D) (e : Env) : T.bind (.tp l) (.tup ds) e = l.bind ds e := by rw [T.bind]
@[simp] theorem bind_tnil (e : Env) : Ts.bind .nil [] e = some e := by rw [Ts.bind]
def thenB (l : Ts) (ds : List D) : Option Env → Option Env
  | some e => l.bind ds e
  | none => none
@[simp] theorem thenB_some (l : Ts) (ds : List D) (e : Env) : thenB l ds (some e) = l.bind ds e := rfl
@[simp] theorem bind_tcons (t : T) (l : Ts) (d : D) (ds : List D) (e : Env) : Ts.bind (.cons t l) (d :: ds) e = thenB l ds (t.bind d e) := by
  rw [Ts.bind]
  cases t.bind d e <;> rfl
/-- two names -/
abbrev tp2 (i j : Nat) : T := .tp (.cons (.nm i) (.cons (.nm j) .nil))
theorem rng_int {n : Int} (h : -(2 ^ 62) ≤ n ∧ n ≤ sizeLine) : rngS (.int n) m = .ok ⟨(List.range n.toNat).map fun (k : Nat) => D.int (k : Int), none⟩ m := by unfold rngS; simp only [if_pos h]
/-- a comprehension over a source that stays, whose values leave the memory as it is -/
theorem comp_pure {G : Sg} {own : List Nat} {elt : C} {t : T} {ifs : Cs} {s : Src} {e : Env} (h0 : s.stays m = true) (c : D → Bool) (v : D → D)
    (h : ∀ d ∈ s.items, ∃ e', t.bind d (wipe e own) = some e' ∧ evalIfs G ifs e' m = .ok (c d) m ∧ (c d = true → evalC G elt e' m = .ok (v d) m)) : compD G own elt t ifs s e m = .ok ((s.items.filter c).map v) m := by
  unfold compD
  rw [compGo_pure h0 c v h]
  rfl
/-- every item kept -/
theorem comp_map {G : Sg} {own : List Nat} {elt : C} {t : T} {s : Src} {e : Env} (h0 : s.stays m = true) (v : D → D)
    (h : ∀ d ∈ s.items, ∃ e', t.bind d (wipe e own) = some e' ∧ evalC G elt e' m = .ok (v d) m) : compD G own elt t .nil s e m = .ok (s.items.map v) m := by
  rw [comp_pure h0 (fun _ => true) v fun d hd => ?_]
  · rw [List.filter_eq_self.mpr fun _ _ => rfl]
  · obtain ⟨e', h1, h2⟩ := h d hd
    exact ⟨e', h1, evf_nil, fun _ => h2⟩
/-- with effects -/
theorem comp_eff {G : Sg} {own : List Nat} {elt : C} {t : T} {s : Src} {e : Env} {M : Mem → Prop} {P : D → D → Prop} (hm : M m) (h0 : ∀ m, M m → s.stays m = true)
    (h : ∀ d ∈ s.items, ∀ m, M m → ∃ e', t.bind d (wipe e own) = some e' ∧ ∃ v m', evalC G elt e' m = .ok v m' ∧ M m' ∧ P d v) : ∃ vs m', compD G own elt t .nil s e m = .ok vs m' ∧ M m' ∧ Paired P s.items vs := by
  obtain ⟨vs, m', h1, h2, h3⟩ := compGo_eff (stays := s.stays) (f := fun e m => evalC G elt e m) (p := fun e m => evalIfs G .nil e m) (t := t) (e := wipe e own) (M := M) (P := P) h0 (ds := s.items) hm (fun d hd m hm => by
    obtain ⟨e', q1, v, m', q2, q3, q4⟩ := h d hd m hm
    exact ⟨e', q1, evf_nil, v, m', q2, q3, q4⟩)
  refine ⟨vs, m', ?_, h2, h3⟩
  unfold compD
  rw [h1]
  rfl
end Z
namespace Z
open PySem
variable {m : Mem}
theorem cut_any {m : Mem} (l : List D) (lo hi : Option Int) : cutD m (.tup l) lo hi = some (.tup ((l.drop (HT.sIx l.length 0 lo)).take (HT.sIx l.length l.length hi - HT.sIx l.length 0 lo))) := rfl
theorem cut_from {m : Mem} (l : List D) (i : Nat) : cutD m (.tup l) (some (i : Int)) none = some (.tup (l.drop i)) := by
  rw [cut_any, HT.sIx_nat]
  have e : HT.sIx l.length l.length none = l.length := rfl
  rw [e]
  by_cases h : i ≤ l.length
  · rw [Nat.min_eq_left h, List.take_of_length_le (by rw [List.length_drop]; exact Nat.le_refl _)]
  · rw [Nat.min_eq_right (by omega), Nat.sub_self, List.take_zero, List.drop_eq_nil_of_le (by omega)]
theorem cut_to {m : Mem} (l : List D) (i : Nat) : cutD m (.tup l) none (some (i : Int)) = some (.tup (l.take i)) := by
  rw [cut_any, HT.sIx_nat]
  have e : HT.sIx l.length 0 none = 0 := rfl
  rw [e, List.drop_zero, Nat.sub_zero]
  by_cases h : i ≤ l.length
  · rw [Nat.min_eq_left h]
  · rw [Nat.min_eq_right (by omega), List.take_of_length_le (Nat.le_refl _), List.take_of_length_le (by omega)]
theorem cut_last {m : Mem} (l : List D) : cutD m (.tup l) none (some (-1)) = some (.tup l.dropLast) := by
  rw [cut_any]
  have e : HT.sIx l.length 0 none = 0 := rfl
  have e2 : HT.sIx l.length l.length (some (-1)) = l.length - 1 := by
    show (if (-1 : Int) < 0 then ((-1 : Int) + (l.length : Int)).toNat else min (-1 : Int).toNat l.length) = l.length - 1
    rw [if_pos (by decide)]
    omega
  rw [e, e2, List.drop_zero, Nat.sub_zero, List.dropLast_eq_take]
@[simp] theorem bi_all_o {α : Type} (l : List α) (f : α → Bool) : biD .all m [.lst (l.map (D.bl ∘ f))] = some (.bl (l.all f)) := by
  have e : l.map (D.bl ∘ f) = (l.map f).map D.bl := by rw [List.map_map]
  rw [e, bi_all, List.all_map]
  rfl
@[simp] theorem bi_all_f {α : Type} (l : List α) (f : α → Bool) : biD .all m [.lst (l.map fun a => D.bl (f a))] = some (.bl (l.all f)) := bi_all_o l f
@[simp] theorem bi_any_o {α : Type} (l : List α) (f : α → Bool) : biD .any m [.lst (l.map (D.bl ∘ f))] = some (.bl (l.any f)) := by
  have e : l.map (D.bl ∘ f) = (l.map f).map D.bl := by rw [List.map_map]
  rw [e, bi_any, List.any_map]
  rfl
@[simp] theorem bi_any_f {α : Type} (l : List α) (f : α → Bool) : biD .any m [.lst (l.map fun a => D.bl (f a))] = some (.bl (l.any f)) := bi_any_o l f
@[simp] theorem bi_sum_o {α : Type} (l : List α) (f : α → Int) : biD .sum m [.lst (l.map (D.int ∘ f))] = some (.int (l.map f).sum) := by
  have e : l.map (D.int ∘ f) = (l.map f).map D.int := by rw [List.map_map]
  rw [e, bi_sum]
@[simp] theorem bi_sum_f {α : Type} (l : List α) (f : α → Int) : biD .sum m [.lst (l.map fun a => D.int (f a))] = some (.int (l.map f).sum) := bi_sum_o l f
theorem zip_ints (xs ys : List Int) : ((xs.map D.int).zip (ys.map D.int)).map (fun p => D.tup [p.1, p.2]) = (xs.zip ys).map fun p => D.tup [.int p.1, .int p.2] := by
  rw [List.zip_map, List.map_map]
  rfl
/-- over pairs of ints -/
theorem comp_pairs {G : Sg} {own : List Nat} {elt : C} {i j : Nat} {e : Env} (l : List (Int × Int)) (f : Int → Int → D)
    (h : ∀ a b, evalC G elt (((wipe e own).set i (some (.int a))).set j (some (.int b))) m = .ok (f a b) m) : compD G own elt (tp2 i j) .nil ⟨l.map fun p => D.tup [.int p.1, .int p.2], none⟩ e m = .ok (l.map fun p => f p.1 p.2) m := by
  rw [comp_map rfl (fun d => match d with | .tup [.int a, .int b] => f a b | _ => .non) fun d hd => ?_, List.map_map]
  · rfl
  · obtain ⟨p, _, rfl⟩ := List.mem_map.mp hd
    exact ⟨_, by simp, h _ _⟩
/-- over ints -/
theorem comp_ints {G : Sg} {own : List Nat} {elt : C} {i : Nat} {e : Env} (l : List Int) (f : Int → D)
    (h : ∀ a ∈ l, evalC G elt ((wipe e own).set i (some (.int a))) m = .ok (f a) m) : compD G own elt (.nm i) .nil ⟨l.map D.int, none⟩ e m = .ok (l.map f) m := by
  rw [comp_map rfl (fun d => match d with | .int a => f a | _ => .non) fun d hd => ?_, List.map_map]
  · rfl
  · obtain ⟨a, ha, rfl⟩ := List.mem_map.mp hd
    exact ⟨_, rfl, h a ha⟩
theorem line_val : (sizeLine : Int) = 16777216 := by rw [sizeLine_eq]; rfl
theorem rng_small {n : Int} (h0 : 0 ≤ n) (h : n ≤ 16000000) : rngS (.int n) m = .ok ⟨(List.range n.toNat).map fun (k : Nat) => D.int (k : Int), none⟩ m :=
  rng_int ⟨by omega, by have := line_val; omega⟩
theorem rng_nat {n : Nat} (h : n ≤ 16000000) : rngS (.int (n : Int)) m = .ok ⟨(List.range n).map fun (k : Nat) => D.int (k : Int), none⟩ m := by
  rw [rng_small (by omega) (by omega)]
  rfl
theorem sub_tup {l : List D} {i : Nat} {d : D} (h : l[i]? = some d) : subD m (.tup l) (.int (i : Int)) = some d := by
  show L2.atI l (i : Int) = some d
  exact L2.atI_nat h
theorem sub_lst {l : List D} {i : Nat} {d : D} (h : l[i]? = some d) : subD m (.lst l) (.int (i : Int)) = some d := by
  show L2.atI l (i : Int) = some d
  exact L2.atI_nat h
theorem sub_tup_int {l : List Int} {i : Nat} (h : i < l.length) : subD m (.tup (l.map D.int)) (.int (i : Int)) = some (.int (l[i]?.getD 0)) :=
  sub_tup (by rw [List.getElem?_map, List.getElem?_eq_getElem h]; rfl)
theorem sub_lst_int {l : List Int} {i : Nat} (h : i < l.length) : subD m (.lst (l.map D.int)) (.int (i : Int)) = some (.int (l[i]?.getD 0)) :=
  sub_lst (by rw [List.getElem?_map, List.getElem?_eq_getElem h]; rfl)
theorem aug_mul {i : Nat} {e : Env} {a b : Int} (h : smallMul a b = true) : augF .Mult i (.int a) e (.int b) m = .nx (e.set i (some (.int (a * b)))) m := by
  unfold augF augD
  simp only [h, if_true]
/-- over a range, with a test -/
theorem comp_nats {G : Sg} {own : List Nat} {elt : C} {ifs : Cs} {i : Nat} {e : Env} (l : List Nat) (c : Nat → Bool) (f : Nat → D)
    (h : ∀ a ∈ l, evalIfs G ifs ((wipe e own).set i (some (.int (a : Int)))) m = .ok (c a) m ∧ (c a = true → evalC G elt ((wipe e own).set i (some (.int (a : Int)))) m = .ok (f a) m)) : compD G own elt (.nm i) ifs ⟨l.map fun (k : Nat) => D.int (k : Int), none⟩ e m = .ok ((l.filter c).map f) m := by
  rw [comp_pure rfl (fun d => match d with | .int a => c a.toNat | _ => false) (fun d => match d with | .int a => f a.toNat | _ => .non) fun d hd => ?_]
  · show Out.ok (((l.map fun (k : Nat) => D.int (k : Int)).filter _).map _) m = _
    rw [List.filter_map, List.map_map]
    rfl
  · obtain ⟨a, ha, rfl⟩ := List.mem_map.mp hd
    exact ⟨_, rfl, (h a ha).1, (h a ha).2⟩
theorem eqD_nil_nats (l : List Nat) : eqD m (.lst (l.map fun (k : Nat) => D.int (k : Int))) (.lst []) = some (decide (l = [])) := by
  have e : (l.map fun (k : Nat) => D.int (k : Int)) = (l.map fun (k : Nat) => (k : Int)).map D.int := by rw [List.map_map]; rfl
  rw [e, show (D.lst []) = .lst (([] : List Int).map D.int) from rfl, eqD_lsts]
  simp
theorem binD_rep {l : List D} {k : Nat} (h : l.length * k ≤ 10000) (hk : k ≤ 10000) : binD .Mult m (.lst l) (.int (k : Int)) = some (.lst (List.replicate k l).flatten) := by
  have h1 : -(2 ^ 63) ≤ (k : Int) := by omega
  have h2 : (k : Int) < 2 ^ 63 := by omega
  have h3 : l.length * k ≤ sizeLine := by rw [sizeLine_eq]; omega
  unfold binD
  simp only [rdL, decide_eq_true h1, decide_eq_true h2, decide_eq_true h3, Bool.and_self, if_true, Int.toNat_natCast]
theorem binD_two {l : List D} (h : l.length ≤ 5000) : binD .Mult m (.lst l) (.int 2) = some (.lst (l ++ l)) := by
  have := binD_rep (m := m) (l := l) (k := 2) (by omega) (by decide)
  simpa [List.replicate] using this
/-- an item of a list, by a figure -/
theorem sub_fig {l : List D} {r : Int} (h0 : 0 ≤ r) (h1 : r < l.length) : ∃ d, subD m (.lst l) (.int r) = some d ∧ d ∈ l := by
  obtain ⟨j, rfl⟩ : ∃ j : Nat, r = (j : Int) := ⟨r.toNat, by omega⟩
  have hl : j < l.length := by omega
  exact ⟨l[j], sub_lst (List.getElem?_eq_getElem hl), List.getElem_mem hl⟩
theorem sub_fig_t {l : List D} {r : Int} (h0 : 0 ≤ r) (h1 : r < l.length) : ∃ d, subD m (.tup l) (.int r) = some d ∧ d ∈ l := by
  obtain ⟨j, rfl⟩ : ∃ j : Nat, r = (j : Int) := ⟨r.toNat, by omega⟩
  have hl : j < l.length := by omega
  exact ⟨l[j], sub_tup (List.getElem?_eq_getElem hl), List.getElem_mem hl⟩
/-- an int's text -/
def txt (i : Int) : Str := toString i
theorem bi_str_int {i : Int} (h : i.natAbs < 2 ^ 250) : biD .str m [.int i] = some (.str (txt i)) := by
  have l2 : i.natAbs.log2 < 1920 := by
    by_cases z : i.natAbs = 0
    · rw [z]; decide
    · exact Nat.lt_of_lt_of_le ((Nat.log2_lt z).mpr h) (by omega)
  show (if i.natAbs.log2 < 1920 then some (D.str (txt i)) else none) = _
  rw [if_pos l2]
theorem strOk_of (s : String) : PyData.strOk (Str.ofString s) = true := by
  unfold PyData.strOk
  rw [Str.ofString_eq_toList]
  simp only [List.all_toArray, List.all_map, List.all_eq_true, Function.comp_apply, decide_eq_true_eq]
  intro c _
  have q : c.val.toNat < 0xd800 ∨ (0xdfff < c.val.toNat ∧ c.val.toNat < 0x110000) := c.valid
  show c.val.toNat < 0x110000
  omega
theorem txt_len (i : Int) : (txt i).length = (toString i).length := ofString_length _
theorem txt_ok (i : Int) : PyData.strOk (txt i) = true := strOk_of _
theorem sm_text {i : Int} (h : i.natAbs < 2 ^ 250) : Sm 1921 0 (.str (txt i)) := by
  have l2 : i.natAbs.log2 < 1920 := by
    by_cases z : i.natAbs = 0
    · rw [z]; decide
    · exact Nat.lt_of_lt_of_le ((Nat.log2_lt z).mpr h) (by omega)
  refine (sm_str (txt_ok i)).mono ?_ (Nat.le_refl _)
  rw [txt_len]
  exact int_text_length_le (by decide) l2
theorem src_loc {n : Nat} {l : List D} (h : m[n]? = some (.lst l)) : srcOf m (.loc n) = some ⟨l, some n⟩ := by simp [srcOf, h]
@[simp] theorem placed_1 {α : Type} (a z : α) : Z.placed 1 [] [0] [a] [] z = [a] := rfl
@[simp] theorem placed_2 {α : Type} (a b z : α) : Z.placed 2 [] [0, 1] [a, b] [] z = [a, b] := rfl
@[simp] theorem placed_2r {α : Type} (a b z : α) : Z.placed 2 [] [1, 0] [a, b] [] z = [b, a] := rfl
@[simp] theorem placed_11 {α : Type} (a b z : α) : Z.placed 2 [a] [1] [b] [] z = [a, b] := rfl
theorem rd_loc {n : Nat} {l : List D} (h : m[n]? = some (.lst l)) : rdL m (.loc n) = some l := by simp [rdL, h]
theorem app_loc {n : Nat} {l : List D} {d : D} {e : Env} (h : m[n]? = some (.lst l)) (hl : l.length ≤ 100000) : appF (.loc n) d e m = .nx e (m.set n (.lst (l ++ [d]))) := by
  have hz : l.length < sizeLine := by rw [sizeLine_eq]; omega
  unfold appF appD
  simp only [h, hz, if_true]
theorem add_loc {n : Nat} {l k : List D} (h : m[n]? = some (.lst l)) (hl : l.length + k.length ≤ 100000) : binD .Add m (.loc n) (.lst k) = some (.lst (l ++ k)) := by
  have hz : l.length + k.length ≤ sizeLine := by rw [sizeLine_eq]; omega
  unfold binD
  simp only [rdL, h, hz, if_true]
theorem last_loc {n : Nat} {l : List D} {d : D} (h : m[n]? = some (.lst (l ++ [d]))) : subD m (.loc n) (.int (-1)) = some d := by
  unfold subD rdS
  simp only [h]
  exact L2.atI_last l d
end Z
/-! ZI: the feed of a law: figures drawn from its script (plain Lean). -/
namespace Z
open PySem
/-- the feed's dict -/
def fdk (c a l n : D) : List (Key × D) := [(.inr "cells", c), (.inr "at", a), (.inr "left", l), (.inr "count", n)]
abbrev FdO (cs : List Int) (a l c : Int) : MO := .dk (fdk (.lst (cs.map D.int)) (.int a) (.int l) (.int c))
theorem ne1 : ("cells" : Str) ≠ ("at" : Str) := by decide +kernel
theorem ne2 : ("cells" : Str) ≠ ("left" : Str) := by decide +kernel
theorem ne3 : ("cells" : Str) ≠ ("count" : Str) := by decide +kernel
theorem ne4 : ("at" : Str) ≠ ("left" : Str) := by decide +kernel
theorem ne5 : ("at" : Str) ≠ ("count" : Str) := by decide +kernel
theorem ne6 : ("left" : Str) ≠ ("count" : Str) := by decide +kernel
section
variable {M : Mem} {n : Nat} {C A L N v : D}
theorem get_cells : getK (fdk C A L N) (.inr "cells") = some C := by
  unfold getK fdk
  simp [ne1, ne2, ne3, ne4, ne5, ne6]
theorem get_at : getK (fdk C A L N) (.inr "at") = some A := by
  unfold getK fdk
  simp [ne1, ne2, ne3, ne4, ne5, ne6]
theorem get_left : getK (fdk C A L N) (.inr "left") = some L := by
  unfold getK fdk
  simp [ne1, ne2, ne3, ne4, ne5, ne6]
theorem get_count : getK (fdk C A L N) (.inr "count") = some N := by
  unfold getK fdk
  simp [ne1, ne2, ne3, ne4, ne5, ne6]
theorem set_at : setK (fdk C A L N) (.inr "at") v = fdk C v L N := by
  unfold setK fdk
  simp [ne1, Ne.symm ne4, Ne.symm ne5]
theorem set_left : setK (fdk C A L N) (.inr "left") v = fdk C A v N := by
  unfold setK fdk
  simp [ne2, ne4, Ne.symm ne6]
theorem set_count : setK (fdk C A L N) (.inr "count") v = fdk C A L v := by
  unfold setK fdk
  simp [ne3, ne5, ne6]
theorem rd_key (hn : n < M.length) (kvs : List (Key × D)) (x : Str) : subD (M.set n (.dk kvs)) (.loc n) (.str x) = getK kvs (.inr x) := by
  unfold subD
  simp only [List.getElem?_set_self hn]
theorem wr_key (hn : n < M.length) (kvs : List (Key × D)) (x : Str) (h : kvs.length < 100) : putD (M.set n (.dk kvs)) (.loc n) (.str x) v = some (M.set n (.dk (setK kvs (.inr x) v))) := by
  unfold putD
  have hz : kvs.length < sizeLine := by rw [sizeLine_eq]; omega
  simp only [List.getElem?_set_self hn, hz, if_true, List.set_set]
end
section
variable {M : Mem} {n : Nat} {C A L N v : D} (hn : n < M.length) (e : Env)
include hn
theorem rd_cells : subD (M.set n (.dk (fdk C A L N))) (.loc n) (.str "cells") = some C := by rw [rd_key hn, get_cells]
theorem rd_at : subD (M.set n (.dk (fdk C A L N))) (.loc n) (.str "at") = some A := by rw [rd_key hn, get_at]
theorem rd_left : subD (M.set n (.dk (fdk C A L N))) (.loc n) (.str "left") = some L := by rw [rd_key hn, get_left]
theorem rd_count : subD (M.set n (.dk (fdk C A L N))) (.loc n) (.str "count") = some N := by rw [rd_key hn, get_count]
theorem wr_at : putF (.loc n) (.str "at") v e (M.set n (.dk (fdk C A L N))) = .nx e (M.set n (.dk (fdk C v L N))) := by unfold putF; rw [wr_key hn _ _ (show (fdk C A L N).length < 100 by show 4 < 100; decide), set_at]
theorem wr_left : putF (.loc n) (.str "left") v e (M.set n (.dk (fdk C A L N))) = .nx e (M.set n (.dk (fdk C A v N))) := by unfold putF; rw [wr_key hn _ _ (show (fdk C A L N).length < 100 by show 4 < 100; decide), set_left]
theorem wr_count : putF (.loc n) (.str "count") v e (M.set n (.dk (fdk C A L N))) = .nx e (M.set n (.dk (fdk C A L v))) := by unfold putF; rw [wr_key hn _ _ (show (fdk C A L N).length < 100 by show 4 < 100; decide), set_count]
end
/-- the code that draws a figure -/
def drawB (d0 p k1 k2 k3 k4 k5 : Int) : Ss := (.cons (.put (.var 0) (.con (.str "count")) (.bin .Add (.sub (.var 0) (.con (.str "count"))) (.con (.int 1))))
    (.cons (.ite (.cmp .Gt (.sub (.var 0) (.con (.str "left"))) (.con (.int 0))) (.cons (.set 2 (.bin .Mod (.sub (.var 0) (.con (.str "left"))) (.var 1)))
    (.cons (.put (.var 0) (.con (.str "left")) (.bin .FloorDiv (.sub (.var 0) (.con (.str "left"))) (.var 1)))
    (.cons (.ret (.var 2))
    .nil))) .nil)
    (.cons (.set 3 (.sub (.var 0) (.con (.str "at"))))
    (.cons (.put (.var 0) (.con (.str "at")) (.bin .Add (.var 3) (.con (.int 1))))
    (.cons (.set 4 (.ite (.cmp .NotEq (.sub (.var 0) (.con (.str "cells"))) (.lst .nil)) (.sub (.sub (.var 0) (.con (.str "cells"))) (.bin .Mod (.var 3) (.bi .len (.cons (.sub (.var 0) (.con (.str "cells"))) .nil)))) (.con (.int d0))))
    (.cons (.ite (.and (.cmp .GtE (.var 4) (.bin .Pow (.con (.int 10)) (.con (.int 18)))) (.cmp .Lt (.var 3) (.bi .len (.cons (.sub (.var 0) (.con (.str "cells"))) .nil)))) (.cons (.put (.var 0) (.con (.str "left")) (.bin .FloorDiv (.var 4) (.var 1)))
    (.cons (.ret (.bin .Mod (.var 4) (.var 1)))
    .nil)) .nil)
    (.cons (.set 5 (.bin .Mod (.bin .Add (.bin .Add (.bin .Mod (.var 4) (.con (.int p))) (.bin .Mult (.con (.int k1)) (.sub (.var 0) (.con (.str "count"))))) (.con (.int k2))) (.con (.int 2147483579))))
    (.cons (.set 5 (.bin .Mod (.bin .Add (.bin .Add (.bin .Mult (.var 5) (.var 5)) (.bin .Mult (.con (.int k3)) (.sub (.var 0) (.con (.str "count"))))) (.con (.int k4))) (.con (.int 2147483549))))
    (.cons (.ret (.bin .Mod (.bin .FloorDiv (.bin .Mod (.bin .Add (.bin .Mult (.var 5) (.var 5)) (.bin .Mult (.con (.int k5)) (.var 5))) (.con (.int 2147483543))) (.con (.int 16))) (.var 1)))
    .nil)))))))))
theorem small_left {i j : Int} (h : -(2 ^ 64) < i) (h2 : i < 2 ^ 64) : smallMul i j = true := by
  unfold smallMul
  simp only [decide_eq_true h, decide_eq_true h2, Bool.and_self, Bool.true_or]
theorem pow18 {m : Mem} : binD .Pow m (.int 10) (.int 18) = some (.int (10 ^ 18)) := rfl
theorem eqD_cells {m : Mem} (cs : List Int) : eqD m (.lst (cs.map D.int)) (.lst []) = some (decide (cs = [])) := eqD_lsts cs []
def mixD (p k1 k2 k3 k4 k5 cell cnt : Int) : Int :=
  ((((cell % p + k1 * cnt + k2) % 2147483579 * ((cell % p + k1 * cnt + k2) % 2147483579) + k3 * cnt + k4) % 2147483549 * (((cell % p + k1 * cnt + k2) % 2147483579 * ((cell % p + k1 * cnt + k2) % 2147483579) + k3 * cnt + k4) % 2147483549) +
    k5 * (((cell % p + k1 * cnt + k2) % 2147483579 * ((cell % p + k1 * cnt + k2) % 2147483579) + k3 * cnt + k4) % 2147483549)) % 2147483543) / 16
theorem draw_set {G : Sg} {d0 p k1 k2 k3 k4 k5 : Int} (hp : 0 < p) (h1 : -(2 ^ 64) < k1 ∧ k1 < 2 ^ 64) (h3 : -(2 ^ 64) < k3 ∧ k3 < 2 ^ 64) (h5 : -(2 ^ 64) < k5 ∧ k5 < 2 ^ 64) {M : Mem} {n : Nat} (hn : n < M.length) (cs : List Int) (a l c : Int) (ha : 0 ≤ a) {many : Int} (h0 : 0 < many) (hm : many < 1073741824) :
    ∃ r a' l', bodyD G 6 (drawB d0 p k1 k2 k3 k4 k5) [.loc n, .int many] (M.set n (FdO cs a l c)) = .ok (.int r) (M.set n (FdO cs a' l' (c + 1))) ∧ 0 ≤ r ∧ r < many ∧ 0 ≤ a' := by
  have m0 : ∀ x : Int, 0 ≤ x % many ∧ x % many < many := fun x => ⟨Int.emod_nonneg _ (by omega), Int.emod_lt_of_pos _ h0⟩
  have ms : ∀ a b c : Int, 0 < c → -(2 ^ 64) < a % c → a % c < 2 ^ 64 → True := fun _ _ _ _ _ _ => trivial
  have k1m : ∀ (m : Mem) (x : Int), binD .Mult m (.int k1) (.int x) = some (.int (k1 * x)) := fun m x => binD_mul (small_left h1.1 h1.2)
  have k3m : ∀ (m : Mem) (x : Int), binD .Mult m (.int k3) (.int x) = some (.int (k3 * x)) := fun m x => binD_mul (small_left h3.1 h3.2)
  have k5m : ∀ (m : Mem) (x : Int), binD .Mult m (.int k5) (.int x) = some (.int (k5 * x)) := fun m x => binD_mul (small_left h5.1 h5.2)
  have sq : ∀ (m : Mem) (x y p : Int), 0 < p → p < 2147483648 → binD .Mult m (.int (x % p)) (.int y) = some (.int (x % p * y)) := fun m x y p a b => by
    have q1 := Int.emod_nonneg x (show p ≠ 0 by omega)
    have q2 := Int.emod_lt_of_pos x a
    exact binD_mul (small_left (by omega) (by omega))
  have mp : ∀ (m : Mem) (x : Int), binD .Mod m (.int x) (.int p) = some (.int (x % p)) := fun m x => binD_mod hp
  have mm : ∀ (m : Mem) (x : Int), binD .Mod m (.int x) (.int many) = some (.int (x % many)) := fun m x => binD_mod h0
  have dm : ∀ (m : Mem) (x : Int), binD .FloorDiv m (.int x) (.int many) = some (.int (x / many)) := fun m x => binD_div h0 hm
  have q1 : ∀ (m : Mem) (x : Int), binD .Mod m (.int x) (.int 2147483579) = some (.int (x % 2147483579)) := fun m x => binD_mod (by decide)
  have q2 : ∀ (m : Mem) (x : Int), binD .Mod m (.int x) (.int 2147483549) = some (.int (x % 2147483549)) := fun m x => binD_mod (by decide)
  have q3 : ∀ (m : Mem) (x : Int), binD .Mod m (.int x) (.int 2147483543) = some (.int (x % 2147483543)) := fun m x => binD_mod (by decide)
  have q4 : ∀ (m : Mem) (x : Int), binD .FloorDiv m (.int x) (.int 16) = some (.int (x / 16)) := fun m x => binD_div (by decide) (by decide)
  have s1 : ∀ (m : Mem) (x y : Int), binD .Mult m (.int (x % 2147483579)) (.int y) = some (.int (x % 2147483579 * y)) := fun m x y => sq m x y _ (by decide) (by decide)
  have s2 : ∀ (m : Mem) (x y : Int), binD .Mult m (.int (x % 2147483549)) (.int y) = some (.int (x % 2147483549 * y)) := fun m x y => sq m x y _ (by decide) (by decide)
  by_cases hl : 0 < l
  · refine ⟨l % many, a, l / many, ?_, (m0 l).1, (m0 l).2, ha⟩
    simp [bodyD, drawB, rd_count hn, rd_left hn, wr_count hn, wr_left hn, hl, mm, dm]
  · by_cases hc : cs = []
    · have ec : ∀ m : Mem, eqD m (.lst (cs.map D.int)) (.lst []) = some true := fun m => by rw [eqD_cells, decide_eq_true hc]
      have el : (cs.length : Int) = 0 := by rw [hc]; rfl
      have na : ¬ a < 0 := by omega
      refine ⟨mixD p k1 k2 k3 k4 k5 d0 (c + 1) % many, a + 1, l, ?_, (m0 _).1, (m0 _).2, by omega⟩
      by_cases hb : (1000000000000000000 : Int) ≤ d0
      · simp [bodyD, drawB, rd_count hn, rd_left hn, wr_count hn, wr_left hn, rd_at hn, wr_at hn, rd_cells hn, hl, mm, dm, ec, pow18, hb, mp, k1m, k3m, k5m, q1, q2, q3, q4, s1, s2, el, na, mixD]
      · simp [bodyD, drawB, rd_count hn, rd_left hn, wr_count hn, wr_left hn, rd_at hn, wr_at hn, rd_cells hn, hl, mm, dm, ec, pow18, hb, mp, k1m, k3m, k5m, q1, q2, q3, q4, s1, s2, mixD]
    · have ec : ∀ m : Mem, eqD m (.lst (cs.map D.int)) (.lst []) = some false := fun m => by rw [eqD_cells, decide_eq_false hc]
      have hlen : 0 < cs.length := List.length_pos_iff.mpr hc
      have ix : ∀ m : Mem, binD .Mod m (.int a) (.int (cs.length : Int)) = some (.int (a % (cs.length : Int))) := fun m => binD_mod (by omega)
      have ix2 : ∀ m : Mem, subD m (.lst (cs.map D.int)) (.int (a % (cs.length : Int))) = some (.int (cs[(a % (cs.length : Int)).toNat]?.getD 0)) := fun m => by
        have b1 := Int.emod_nonneg a (show (cs.length : Int) ≠ 0 by omega)
        have b2 := Int.emod_lt_of_pos a (show (0 : Int) < cs.length by omega)
        have e : a % (cs.length : Int) = (((a % (cs.length : Int)).toNat : Nat) : Int) := by omega
        rw [e, sub_lst_int (by omega)]
        rfl
      generalize cs[(a % (cs.length : Int)).toNat]?.getD 0 = cell at ix2
      by_cases hb : (1000000000000000000 : Int) ≤ cell
      · by_cases ha2 : a < cs.length
        · refine ⟨cell % many, a + 1, cell / many, ?_, (m0 _).1, (m0 _).2, by omega⟩
          simp [bodyD, drawB, rd_count hn, rd_left hn, wr_count hn, wr_left hn, rd_at hn, wr_at hn, rd_cells hn, hl, mm, dm, ec, ix, ix2, pow18, hb, ha2]
        · refine ⟨mixD p k1 k2 k3 k4 k5 cell (c + 1) % many, a + 1, l, ?_, (m0 _).1, (m0 _).2, by omega⟩
          simp [bodyD, drawB, rd_count hn, rd_left hn, wr_count hn, wr_left hn, rd_at hn, wr_at hn, rd_cells hn, hl, mm, dm, ec, ix, ix2, pow18, hb, ha2, mp, k1m, k3m, k5m, q1, q2, q3, q4, s1, s2, mixD]
      · refine ⟨mixD p k1 k2 k3 k4 k5 cell (c + 1) % many, a + 1, l, ?_, (m0 _).1, (m0 _).2, by omega⟩
        simp [bodyD, drawB, rd_count hn, rd_left hn, wr_count hn, wr_left hn, rd_at hn, wr_at hn, rd_cells hn, hl, mm, dm, ec, ix, ix2, pow18, hb, mp, k1m, k3m, k5m, q1, q2, q3, q4, s1, s2, mixD]
/-- a feed stands at a place -/
def Feed (m : Mem) (n : Nat) : Prop := ∃ (cs : List Int) (a l c : Int), 0 ≤ a ∧ m[n]? = some (FdO cs a l c)
/-- the same but for one place -/
structure Aside (n : Nat) (m m' : Mem) : Prop where
  len : m'.length = m.length
  oth : ∀ j, j ≠ n → m'[j]? = m[j]?
theorem Aside.refl (n : Nat) (m : Mem) : Aside n m m := ⟨rfl, fun _ _ => rfl⟩
theorem Aside.trans {n : Nat} {m m1 m2 : Mem} (a : Aside n m m1) (b : Aside n m1 m2) : Aside n m m2 := ⟨b.len.trans a.len, fun j h => (b.oth j h).trans (a.oth j h)⟩
theorem draw_ok {G : Sg} {d0 p k1 k2 k3 k4 k5 : Int} (hp : 0 < p) (h1 : -(2 ^ 64) < k1 ∧ k1 < 2 ^ 64) (h3 : -(2 ^ 64) < k3 ∧ k3 < 2 ^ 64) (h5 : -(2 ^ 64) < k5 ∧ k5 < 2 ^ 64) {m : Mem} {n : Nat} (F : Feed m n) {many : Int} (h0 : 0 < many) (hm : many < 1073741824) :
    ∃ r m', bodyD G 6 (drawB d0 p k1 k2 k3 k4 k5) [.loc n, .int many] m = .ok (.int r) m' ∧ 0 ≤ r ∧ r < many ∧ Feed m' n ∧ Aside n m m' := by
  obtain ⟨cs, a, l, c, ha, e⟩ := F
  have hn : n < m.length := (List.getElem?_eq_some_iff.mp e).1
  have em : m = m.set n (FdO cs a l c) := by
    obtain ⟨_, e2⟩ := List.getElem?_eq_some_iff.mp e
    rw [← e2, List.set_getElem_self]
  obtain ⟨r, a', l', q, r0, r1, ha'⟩ := draw_set (G := G) hp h1 h3 h5 hn cs a l c ha h0 hm (d0 := d0) (k2 := k2) (k4 := k4)
  rw [← em] at q
  exact ⟨r, _, q, r0, r1, ⟨cs, a', l', c + 1, ha', List.getElem?_set_self hn⟩, List.length_set .., fun j hj => List.getElem?_set_ne (Ne.symm hj)⟩
/-- the code that lays a feed -/
def feedB (many : Int) : Ss := (.cons (.ret (.dict ["cells", "at", "left", "count"] (.cons (.bi .list (.cons (.cut (.var 0) .none (.some (.con (.int many)))) .nil)) (.cons (.con (.int 0)) (.cons (.con (.int 0)) (.cons (.con (.int 0)) .nil))))))
    .nil)
theorem cut_scr {m : Mem} (ns : List Int) (i : Nat) : cutD m (.scr ns) none (some (i : Int)) = some (.lst ((ns.take i).map D.int)) := by
  show some (D.lst (((ns.map D.int).drop (HT.sIx (ns.map D.int).length 0 none)).take (HT.sIx (ns.map D.int).length (ns.map D.int).length (some (i : Int)) - HT.sIx (ns.map D.int).length 0 none))) = _
  rw [HT.sIx_nat]
  have e : HT.sIx (ns.map D.int).length 0 none = 0 := rfl
  rw [e, List.drop_zero, Nat.sub_zero, List.length_map, List.map_take]
  by_cases h : i ≤ ns.length
  · rw [Nat.min_eq_left h]
  · rw [Nat.min_eq_right (by omega), List.take_of_length_le (by rw [List.length_map]; exact Nat.le_refl _), List.take_of_length_le (by rw [List.length_map]; omega)]
theorem feed_ok {G : Sg} {m : Mem} (ns : List Int) (i : Nat) : ∃ m', bodyD G 1 (feedB (i : Int)) [.scr ns] m = .ok (.loc m.length) m' ∧ m' = m ++ [FdO (ns.take i) 0 0 0] := by
  refine ⟨_, ?_, rfl⟩
  simp [bodyD, feedB, cut_scr, fdk]
theorem feed_new {m : Mem} {cs : List Int} : Feed (m ++ [FdO cs 0 0 0]) m.length := ⟨cs, 0, 0, 0, Int.le_refl _, by simp⟩
/-! ### the statements of a body by number; a look at small data -/
def nth : Nat → Ss → S
  | 0, .cons s _ => s
  | n + 1, .cons _ l => nth n l
  | _, .nil => .pass
def smB (w p : Nat) (d : D) : Bool := match toPy d with
  | some x => x.canLay0 && x.showable && x.leavesShort 1921 && decide (x.depth ≤ p) && decide (x.weight ≤ w)
  | none => false
theorem sm_of {w p : Nat} {d : D} (h : smB w p d = true) : Sm w p d := by
  unfold smB at h
  split at h
  · rename_i x e
    simp only [Bool.and_eq_true, decide_eq_true_eq] at h
    exact ⟨x, e, h.1.1.1.1, h.1.1.1.2, h.1.1.2, h.1.2, h.2⟩
  · cases h
theorem sm_list {w p : Nat} {l : List D} (h : l.all (smB w p) = true) : ∀ x ∈ l, Sm w p x := fun x hx => sm_of (List.all_eq_true.mp h x hx)
end Z
set_option maxHeartbeats 1000000
/-! ZU: own lists as values (plain Lean): code in which lists of one's own stand in the slots themselves. -/
namespace Z
open PySem
/-! ### operations see lists at their places as lists -/
@[simp] theorem nil_get (n : Nat) : ([] : Mem)[n]? = none := rfl
theorem top_cases (m : Mem) (d : D) : top m d = d ∨ ∃ n l, d = .loc n ∧ m[n]? = some (.lst l) ∧ top m d = .lst l := by
  cases d with
  | loc n =>
    cases h : m[n]? with
    | none => left; unfold top; dsimp only; rw [h]
    | some o =>
      cases o with
      | lst l => right; exact ⟨n, l, rfl, h, by unfold top; dsimp only; rw [h]⟩
      | dk k => left; unfold top; dsimp only; rw [h]
      | ins c k => left; unfold top; dsimp only; rw [h]
  | _ => left; rfl
theorem rdL_top (m : Mem) (d : D) : rdL m d = rdL [] (top m d) := by
  cases d with
  | loc n =>
    unfold rdL top
    cases h : m[n]? with
    | none => simp [h]
    | some o => cases o <;> simp [h]
  | _ => rfl
theorem rdS_top (m : Mem) (d : D) : rdS m d = rdS [] (top m d) := by
  cases d with
  | loc n =>
    unfold rdS top
    cases h : m[n]? with
    | none => simp [h]
    | some o => cases o <;> simp [h]
  | _ => rfl
theorem top_top (m : Mem) (d : D) : top [] (top m d) = top m d := by
  cases d with
  | loc n =>
    unfold top
    cases h : m[n]? with
    | none => simp [h]
    | some o => cases o <;> simp [h]
  | _ => rfl
theorem pyOf_top (m : Mem) (d : D) : pyOf m d = pyOf [] (top m d) := by unfold pyOf; rw [top_top]
/-- what a place holds, seen through top: a list or itself -/
theorem top_match {α : Sort _} (m : Mem) (d : D) (P : D → Prop) (h1 : (∀ n, d ≠ .loc n) → P d) (h2 : ∀ n, d = .loc n → P (.loc n)) (h3 : ∀ n l, d = .loc n → m[n]? = some (.lst l) → P (.lst l)) : P (top m d) := by
  rcases top_cases m d with e | ⟨n, l, rfl, h, e⟩
  · rw [e]
    cases d with
    | loc n => exact h2 n rfl
    | _ => exact h1 fun n h => nomatch h
  · rw [e]; exact h3 n l rfl h
theorem eqP_top (m : Mem) (a b : D) : eqP m a b = eqP [] (top m a) (top m b) := by unfold eqP; rw [← pyOf_top, ← pyOf_top]
theorem eqD_top (m : Mem) (a b : D) : eqD m a b = eqD [] (top m a) (top m b) := by
  have h := eqP_top m a b
  rcases top_cases m a with ea | ⟨n, l, rfl, _, ea⟩ <;> rcases top_cases m b with eb | ⟨k, j, rfl, _, eb⟩ <;> rw [ea, eb] at h ⊢
  · cases a <;> cases b <;> first | exact h | rfl
  · cases a <;> exact h
  · cases b <;> exact h
  · exact h
theorem reprD_top (m : Mem) (a : D) : reprD m a = reprD [] (top m a) := by unfold reprD; rw [← pyOf_top]
theorem inD_top (m : Mem) (a b : D) : inD m a b = inD [] (top m a) (top m b) := by
  have ha := pyOf_top m a
  have hb := pyOf_top m b
  rcases top_cases m a with ea | ⟨n, l, rfl, _, ea⟩ <;> rcases top_cases m b with eb | ⟨k, j, rfl, _, eb⟩ <;> rw [ea] at ha ⊢ <;> rw [eb] at hb ⊢
  · cases b <;> first | rfl | (unfold inD; dsimp only; rw [ha, hb])
  · unfold inD; dsimp only; rw [ha, hb]
  · cases b <;> first | rfl | (unfold inD; dsimp only; rw [ha, hb])
  · unfold inD; dsimp only; rw [ha, hb]
theorem isNone_top (m : Mem) (a : D) : isNone a = isNone (top m a) := by
  rcases top_cases m a with ea | ⟨n, l, rfl, _, ea⟩ <;> rw [ea] <;> rfl
theorem cmpD_top (op : CmpOp) (m : Mem) (a b : D) : cmpD op m a b = cmpD op [] (top m a) (top m b) := by
  cases op with
  | Eq => exact eqD_top m a b
  | NotEq => show (eqD m a b).map _ = (eqD [] _ _).map _; rw [← eqD_top]
  | In => exact inD_top m a b
  | NotIn => show (inD m a b).map _ = (inD [] _ _).map _; rw [← inD_top]
  | Is =>
    unfold cmpD
    dsimp only
    rw [← isNone_top]
    rcases top_cases m b with eb | ⟨k, j, rfl, _, eb⟩ <;> rw [eb]
  | IsNot =>
    unfold cmpD
    dsimp only
    rw [← isNone_top]
    rcases top_cases m b with eb | ⟨k, j, rfl, _, eb⟩ <;> rw [eb]
  | _ =>
    rcases top_cases m a with ea | ⟨n, l, rfl, _, ea⟩ <;> rcases top_cases m b with eb | ⟨k, j, rfl, _, eb⟩ <;> rw [ea, eb] <;> first
      | rfl
      | (cases a <;> rfl)
theorem binD_top (op : Operator) (m : Mem) (a b : D) : binD op m a b = binD op [] (top m a) (top m b) := by
  have ha := rdL_top m a
  have hb := rdL_top m b
  cases op with
  | Add =>
    rcases top_cases m a with ea | ⟨n, l, rfl, _, ea⟩ <;> rcases top_cases m b with eb | ⟨k, j, rfl, _, eb⟩ <;> rw [ea] at ha ⊢ <;> rw [eb] at hb ⊢
    · cases a <;> cases b <;> first | rfl | (unfold binD; dsimp only; rw [ha, hb])
    · cases a <;> (unfold binD; dsimp only; rw [ha, hb])
    · cases b <;> (unfold binD; dsimp only; rw [ha, hb])
    · unfold binD; dsimp only; rw [ha, hb]
  | Mult =>
    rcases top_cases m a with ea | ⟨n, l, rfl, _, ea⟩ <;> rcases top_cases m b with eb | ⟨k, j, rfl, _, eb⟩ <;> rw [ea] at ha ⊢ <;> rw [eb] at hb ⊢
    · cases a <;> cases b <;> first | rfl | (unfold binD; dsimp only; rw [ha])
    · cases a <;> rfl
    · cases b <;> first | rfl | (unfold binD; dsimp only; rw [ha])
    · rfl
  | _ =>
    rcases top_cases m a with ea | ⟨n, l, rfl, _, ea⟩ <;> rcases top_cases m b with eb | ⟨k, j, rfl, _, eb⟩ <;> rw [ea, eb] <;> first
      | rfl
      | (cases a <;> rfl)
theorem negD_top (m : Mem) (a : D) : negD a = negD (top m a) := by
  rcases top_cases m a with ea | ⟨n, l, rfl, _, ea⟩ <;> rw [ea] <;> rfl
theorem cutD_top (m : Mem) (a : D) (lo hi : Option Int) : cutD m a lo hi = cutD [] (top m a) lo hi := by unfold cutD; rw [← rdS_top]
theorem revD_top (m : Mem) (a : D) : revD m a = revD [] (top m a) := by unfold revD; rw [← rdS_top]
theorem srtRD_top (m : Mem) (a : D) : srtRD m a = srtRD [] (top m a) := by unfold srtRD; rw [← rdS_top]
theorem zipS_same {m m2 : Mem} (a b : D) : zipS m a b = zipS m2 a b := rfl

/-- no places but the feed's -/
abbrev U (d : D) : Prop := d.under 1 = true
abbrev Us (l : List D) : Prop := D.unders 1 l = true
theorem us_iff {l : List D} : Us l ↔ ∀ d ∈ l, U d := D.unders_iff
theorem u_tup {l : List D} : U (.tup l) ↔ Us l := Iff.rfl
theorem u_lst {l : List D} : U (.lst l) ↔ Us l := Iff.rfl
@[simp] theorem u_int (i : Int) : U (.int i) := rfl
@[simp] theorem u_bl (i : Bool) : U (.bl i) := rfl
@[simp] theorem u_str (i : Str) : U (.str i) := rfl
@[simp] theorem u_non : U .non := rfl
theorem us_append {a b : List D} (ha : Us a) (hb : Us b) : Us (a ++ b) := us_iff.mpr fun d hd => (List.mem_append.mp hd).elim (us_iff.mp ha d) (us_iff.mp hb d)
theorem us_sub {a b : List D} (hb : Us b) (h : ∀ d ∈ a, d ∈ b) : Us a := us_iff.mpr fun d hd => us_iff.mp hb d (h d hd)
/-- the feed: no list, no places -/
structure OkO (o : MO) : Prop where
  nl : match o with | .lst _ => False | _ => True
  u : o.under 1 = true
theorem top_one {o : MO} (h : OkO o) (d : D) : top [o] d = d := by
  rcases top_cases [o] d with e | ⟨n, l, rfl, q, e⟩
  · exact e
  · cases n with
    | zero => simp at q; subst q; exact h.nl.elim
    | succ n => simp at q
/-- one value in the small memory and in the large one: the same, or a list at its place -/
def Rt (m : Mem) (d d' : D) : Prop := (d = d' ∧ U d') ∨ ∃ a l, 1 ≤ a ∧ d = .loc a ∧ m[a]? = some (.lst l) ∧ d' = .lst l ∧ Us l
def Rs (d d' : D) : Prop := d = d' ∧ U d'
def Rss (d d' : List D) : Prop := d = d' ∧ Us d'
theorem Rs.rt {m : Mem} {d d' : D} (h : Rs d d') : Rt m d d' := .inl h
theorem Rt.u {m : Mem} {d d' : D} (h : Rt m d d') : U d' := by
  rcases h with h | ⟨_, _, _, _, _, rfl, h⟩
  · exact h.2
  · exact h
theorem Rt.set {m : Mem} {d d' : D} {o : MO} (h : Rt m d d') : Rt (m.set 0 o) d d' := by
  rcases h with h | ⟨a, l, h1, h2, h3, h4⟩
  · exact .inl h
  · exact .inr ⟨a, l, h1, h2, by rw [List.getElem?_set_ne (by omega)]; exact h3, h4⟩
theorem Rt.top {m : Mem} {o : MO} (h : m[0]? = some o) (ok : OkO o) {d d' : D} (t : Rt m d d') : Z.top m d = Z.top [o] d' := by
  rw [top_one ok]
  rcases t with ⟨rfl, u⟩ | ⟨a, l, h1, rfl, h2, rfl, _⟩
  · rcases top_cases m d with e | ⟨n, l, rfl, h2, e⟩
    · exact e
    · have : n < 1 := by simpa [U, D.under] using u
      obtain rfl : n = 0 := by omega
      rw [h] at h2
      cases h2
      exact ok.nl.elim
  · unfold Z.top; dsimp only; rw [h2]
/-! ### operations bring no places -/
theorem rdL_u {o : MO} (ok : OkO o) {d : D} {l : List D} (h : rdL [o] d = some l) (u : U d) : Us l := by
  rw [rdL_top, top_one ok] at h
  cases d <;> simp [rdL] at h
  subst h
  exact u
theorem rdS_u {o : MO} (ok : OkO o) {d : D} {b : Bool} {l : List D} (h : rdS [o] d = some (b, l)) (u : U d) : Us l := by
  rw [rdS_top, top_one ok] at h
  cases d <;> simp [rdS] at h
  · obtain ⟨_, rfl⟩ := h; exact u
  · obtain ⟨_, rfl⟩ := h; exact u
  · obtain ⟨_, rfl⟩ := h
    exact us_iff.mpr fun d hd => by obtain ⟨i, _, rfl⟩ := List.mem_map.mp hd; rfl
theorem us_ints (l : List Int) : Us (l.map D.int) := us_iff.mpr fun d hd => by obtain ⟨i, _, rfl⟩ := List.mem_map.mp hd; rfl
theorem us_rep {l : List D} (h : Us l) (k : Nat) : Us (List.replicate k l).flatten := us_iff.mpr fun d hd => by
  obtain ⟨x, hx, hd⟩ := List.mem_flatten.mp hd
  rw [(List.mem_replicate.mp hx).2] at hd
  exact us_iff.mp h d hd
theorem binD_u {op : Operator} {o : MO} (ok : OkO o) {a b r : D} (h : binD op [o] a b = some r) (ua : U a) (ub : U b) : U r := by
  cases op with
  | Add =>
    unfold binD at h
    dsimp only at h
    split at h
    · cases h; rfl
    · split at h <;> cases h; rfl
    · split at h
      · cases h; exact us_append ua ub
      · cases h
    · split at h
      · rename_i h1 h2
        split at h
        · cases h; exact us_append (rdL_u ok h1 ua) (rdL_u ok h2 ub)
        · cases h
      · cases h
  | Mult =>
    unfold binD at h
    dsimp only at h
    split at h
    · split at h <;> cases h; rfl
    · split at h
      · cases h; exact us_rep ua _
      · cases h
    · split at h
      · rename_i h1
        split at h
        · cases h; exact us_rep (rdL_u ok h1 ua) _
        · cases h
      · cases h
    · cases h
  | Sub => unfold binD at h; dsimp only at h; split at h <;> cases h; rfl
  | Mod => unfold binD at h; dsimp only at h; split at h <;> (try split at h) <;> cases h; rfl
  | FloorDiv => unfold binD at h; dsimp only at h; split at h <;> (try split at h) <;> cases h; rfl
  | Pow => unfold binD at h; dsimp only at h; split at h <;> (try split at h) <;> cases h; rfl
  | _ => cases h
theorem atI_mem {l : List D} {k : Int} {d : D} (h : L2.atI l k = some d) : d ∈ l := by
  unfold L2.atI at h
  obtain ⟨j, _, h⟩ := Option.bind_eq_some_iff.mp h
  exact List.mem_of_getElem? h
theorem getK_mem {kvs : List (Key × D)} {k : Key} {d : D} (h : getK kvs k = some d) : d ∈ kvs.map (·.2) := by
  unfold getK at h
  obtain ⟨q, h1, rfl⟩ := Option.map_eq_some_iff.mp h
  exact List.mem_map_of_mem (List.mem_of_find?_eq_some h1)
theorem subD_u {o : MO} (ok : OkO o) {a b r : D} (h : subD [o] a b = some r) (ua : U a) : U r := by
  unfold subD at h
  split at h
  · split at h
    · rename_i h1
      exact us_iff.mp (rdS_u ok h1 ua) _ (atI_mem h)
    · cases h
  · split at h
    · split at h
      · rename_i n _ _ h1
        have u := ok.u
        cases n with
        | zero => simp at h1; subst h1; exact us_iff.mp u _ (getK_mem h)
        | succ n => simp at h1
      · cases h
    · obtain ⟨q, hq, rfl⟩ := List.mem_map.mp (getK_mem h)
      exact us_iff.mp ua _ (List.of_mem_zip hq).2
    · cases h
  · cases h
theorem cutD_u {o : MO} (ok : OkO o) {a r : D} {lo hi : Option Int} (h : cutD [o] a lo hi = some r) (ua : U a) : U r := by
  unfold cutD at h
  split at h
  · rename_i h1
    cases h
    exact us_sub (rdS_u ok h1 ua) fun d hd => List.mem_of_mem_drop (List.mem_of_mem_take hd)
  · rename_i h1
    cases h
    exact us_sub (rdS_u ok h1 ua) fun d hd => List.mem_of_mem_drop (List.mem_of_mem_take hd)
  · cases h
theorem revD_u {o : MO} (ok : OkO o) {a r : D} (h : revD [o] a = some r) (ua : U a) : U r := by
  unfold revD at h
  split at h
  · rename_i h1
    cases h
    exact us_sub (rdS_u ok h1 ua) fun d hd => List.mem_reverse.mp hd
  · rename_i h1
    cases h
    exact us_sub (rdS_u ok h1 ua) fun d hd => List.mem_reverse.mp hd
  · cases h
theorem negD_u {a r : D} (h : negD a = some r) : U r := by
  cases a <;> simp [negD] at h
  subst h; rfl
theorem srtRD_u {m : Mem} {a r : D} (h : srtRD m a = some r) : U r := by
  unfold srtRD at h
  split at h
  · obtain ⟨ns, _, rfl⟩ := Option.map_eq_some_iff.mp h
    exact us_ints _
  · cases h
theorem srtuD_u {l : List D} {r : D} (h : srtuD l = some r) : U r := by
  unfold srtuD at h
  split at h
  · split at h
    · cases h; exact us_ints _
    · cases h
  · cases h
theorem starD_u {n : Nat} {d : D} {l : List D} (h : starD n d = some l) (u : U d) : Us l := by
  have key : ∀ ds : List D, Us ds → Us (ds.take (n - 1) ++ [.lst (ds.drop (n - 1))]) := fun ds hu => us_iff.mpr fun x hx => by
    rcases List.mem_append.mp hx with hx | hx
    · exact us_iff.mp hu x (List.mem_of_mem_take hx)
    · rw [List.mem_singleton.mp hx]
      exact us_iff.mpr fun y hy => us_iff.mp hu y (List.mem_of_mem_drop hy)
  unfold starD at h
  split at h
  · split at h
    · cases h; exact key _ u
    · cases h
  · split at h
    · cases h; exact key _ u
    · cases h
  · cases h
theorem sortD_mem {l : List D} {d : D} (h : d ∈ sortD l) : d ∈ l := (List.mergeSort_perm l _).mem_iff.mp h
theorem biD_u {b : Bi} {o : MO} (ok : OkO o) {l : List D} {r : D} (h : biD b [o] l = some r) (ul : Us l) : U r := by
  unfold biD at h
  split at h
  · obtain ⟨_, _, rfl⟩ := Option.map_eq_some_iff.mp h; rfl
  · split at h
    · obtain ⟨_, _, rfl⟩ := Option.map_eq_some_iff.mp h; rfl
    · cases h
  · split at h
    · obtain ⟨_, _, rfl⟩ := Option.map_eq_some_iff.mp h; rfl
    · cases h
  · split at h
    · obtain ⟨_, _, rfl⟩ := Option.map_eq_some_iff.mp h; rfl
    · cases h
  · split at h
    · cases h; rfl
    · split at h
      · split at h <;> cases h; rfl
      · cases h
  · split at h
    · rename_i h1
      cases h
      exact rdS_u ok h1 (us_iff.mp ul _ (List.mem_singleton.mpr rfl))
    · cases h
  · split at h
    · rename_i h1
      cases h
      exact rdS_u ok h1 (us_iff.mp ul _ (List.mem_singleton.mpr rfl))
    · cases h
  · split at h
    · rename_i h1
      split at h
      · cases h; exact us_ints _
      · split at h
        · cases h
          exact us_sub (rdS_u ok h1 (us_iff.mp ul _ (List.mem_singleton.mpr rfl))) fun d hd => sortD_mem hd
        · cases h
    · cases h
  · unfold reprD at h
    split at h
    · split at h <;> cases h; rfl
    · cases h
  · split at h <;> cases h; rfl
  · cases h; rfl
  · cases h; rfl
  · split at h
    · obtain ⟨ns, h1, h⟩ := Option.bind_eq_some_iff.mp h
      split at h <;> cases h; rfl
    · cases h
  · split at h
    · obtain ⟨ns, h1, h⟩ := Option.bind_eq_some_iff.mp h
      split at h <;> cases h; rfl
    · cases h
  · cases h; rfl
  · cases h; rfl
  · cases h

/-! ### operations in both memories -/
section
variable {m : Mem} {o : MO} (h0 : m[0]? = some o) (ok : OkO o)
include h0 ok
theorem rdL_r {d d' : D} (t : Rt m d d') : rdL m d = rdL [o] d' := by rw [rdL_top m, rdL_top [o], t.top h0 ok]
theorem rdS_r {d d' : D} (t : Rt m d d') : rdS m d = rdS [o] d' := by rw [rdS_top m, rdS_top [o], t.top h0 ok]
theorem pyOf_r {d d' : D} (t : Rt m d d') : pyOf m d = pyOf [o] d' := by rw [pyOf_top m, pyOf_top [o], t.top h0 ok]
theorem binD_r {op : Operator} {a b a' b' : D} (ta : Rt m a a') (tb : Rt m b b') : binD op m a b = binD op [o] a' b' := by rw [binD_top op m, binD_top op [o], ta.top h0 ok, tb.top h0 ok]
theorem cmpD_r {op : CmpOp} {a b a' b' : D} (ta : Rt m a a') (tb : Rt m b b') : cmpD op m a b = cmpD op [o] a' b' := by rw [cmpD_top op m, cmpD_top op [o], ta.top h0 ok, tb.top h0 ok]
theorem cutD_r {a a' : D} {lo hi : Option Int} (ta : Rt m a a') : cutD m a lo hi = cutD [o] a' lo hi := by rw [cutD_top m, cutD_top [o], ta.top h0 ok]
theorem revD_r {a a' : D} (ta : Rt m a a') : revD m a = revD [o] a' := by rw [revD_top m, revD_top [o], ta.top h0 ok]
theorem srtRD_r {a a' : D} (ta : Rt m a a') : srtRD m a = srtRD [o] a' := by rw [srtRD_top m, srtRD_top [o], ta.top h0 ok]
theorem negD_r {a a' : D} (ta : Rt m a a') : negD a = negD a' := by rw [negD_top m, negD_top [o] a', ta.top h0 ok]
theorem subD_r {a i a' : D} (ta : Rt m a a') {r : D} (h : subD [o] a' i = some r) : subD m a i = some r := by
  have q := rdS_r h0 ok ta
  unfold subD at h ⊢
  split at h
  · rw [q]; exact h
  · split at h
    · split at h
      · rename_i n _ _ h1
        cases n with
        | zero =>
          rcases ta with ⟨rfl, u⟩ | ⟨_, _, _, _, _, z, _⟩
          · dsimp only
            simp at h1
            rw [h0, h1]
            exact h
          · cases z
        | succ n => simp at h1
      · cases h
    · rcases ta with ⟨rfl, u⟩ | ⟨_, _, _, _, _, z, _⟩
      · exact h
      · cases z
    · cases h
  · cases h
theorem tyName_r {d d' : D} (t : Rt m d d') {s : String} (h : tyName [o] d' = some s) : tyName m d = some s := by
  rcases t with ⟨rfl, u⟩ | ⟨a, l, h1, rfl, h2, rfl, _⟩
  · cases d with
    | loc n =>
      have : n < 1 := by simpa [U, D.under] using u
      obtain rfl : n = 0 := by omega
      unfold tyName at h ⊢
      dsimp only at h ⊢
      rw [h0]
      exact h
    | _ => exact h
  · unfold tyName; dsimp only; rw [h2]; exact h
theorem isinst_r {d d' : D} (t : Rt m d d') {u : String} {b : Bool} (h : isinstD [o] d' u = some b) : isinstD m d u = some b := by
  unfold isinstD at h ⊢
  split at h
  · rename_i h1
    rw [tyName_r h0 ok t h1]
    exact h
  · cases h
inductive Rts (m : Mem) : List D → List D → Prop
  | nil : Rts m [] []
  | cons {d d' : D} {l l' : List D} : Rt m d d' → Rts m l l' → Rts m (d :: l) (d' :: l')
omit h0 ok in
theorem Rts.u {l l' : List D} (h : Rts m l l') : Us l' := by
  induction h with
  | nil => rfl
  | cons a _ ih => rw [Us, D.unders, a.u, ih]; rfl
omit h0 ok in
theorem Rts.set {l l' : List D} {o : MO} (h : Rts m l l') : Rts (m.set 0 o) l l' := by
  induction h with
  | nil => exact .nil
  | cons a _ ih => exact .cons a.set ih
omit h0 in
theorem no_loc {o : MO} (ok : OkO o) : True := trivial
theorem biD_r {b : Bi} {l l' : List D} (t : Rts m l l') {r : D} (h : biD b [o] l' = some r) : biD b m l = some r := by
  unfold biD at h
  split at h
  · cases t with | cons t1 t => cases t with | cons t2 t => cases t with | nil =>
    obtain ⟨w, h1, rfl⟩ := Option.map_eq_some_iff.mp h
    rcases t2 with ⟨rfl, _⟩ | ⟨_, _, _, _, _, z, _⟩
    · unfold biD; dsimp only; rw [isinst_r h0 ok t1 h1]; rfl
    · cases z
  · cases t with | cons t1 t => cases t with | nil => unfold biD; dsimp only; rw [rdL_r h0 ok t1]; exact h
  · cases t with | cons t1 t => cases t with | nil => unfold biD; dsimp only; rw [rdL_r h0 ok t1]; exact h
  · cases t with | cons t1 t => cases t with | nil => unfold biD; dsimp only; rw [rdL_r h0 ok t1]; exact h
  · cases t with | cons t1 t => cases t with | nil =>
    unfold biD; dsimp only; rw [rdS_r h0 ok t1]
    split at h
    · exact h
    · split at h
      · rcases t1 with ⟨rfl, _⟩ | ⟨_, _, _, _, _, z, _⟩
        · exact h
        · cases z
      · cases h
  · cases t with | cons t1 t => cases t with | nil => unfold biD; dsimp only; rw [rdS_r h0 ok t1]; exact h
  · cases t with | cons t1 t => cases t with | nil => unfold biD; dsimp only; rw [rdS_r h0 ok t1]; exact h
  · cases t with | cons t1 t => cases t with | nil => unfold biD; dsimp only; rw [rdS_r h0 ok t1]; exact h
  · cases t with | cons t1 t => cases t with | nil => unfold biD; dsimp only; unfold reprD; rw [pyOf_r h0 ok t1]; exact h
  · cases t with | cons t1 t => cases t with | nil =>
    rcases t1 with ⟨rfl, _⟩ | ⟨_, _, _, _, _, z, _⟩
    · exact h
    · cases z
  · cases t with | cons t1 t => cases t with | nil =>
    rcases t1 with ⟨rfl, _⟩ | ⟨_, _, _, _, _, z, _⟩
    · exact h
    · cases z
  · cases t with | cons t1 t => cases t with | nil =>
    rcases t1 with ⟨rfl, _⟩ | ⟨_, _, _, _, _, z, _⟩
    · exact h
    · cases z
  · cases t with | cons t1 t => cases t with | nil => unfold biD; dsimp only; rw [rdS_r h0 ok t1]; exact h
  · cases t with | cons t1 t => cases t with | nil => unfold biD; dsimp only; rw [rdS_r h0 ok t1]; exact h
  · cases t with | cons t1 t => cases t with | cons t2 t => cases t with | nil =>
    rcases t1 with ⟨rfl, _⟩ | ⟨_, _, _, _, _, z, _⟩
    · rcases t2 with ⟨rfl, _⟩ | ⟨_, _, _, _, _, z, _⟩
      · exact h
      · cases z
    · cases z
  · cases t with | cons t1 t => cases t with | cons t2 t => cases t with | nil =>
    rcases t1 with ⟨rfl, _⟩ | ⟨_, _, _, _, _, z, _⟩
    · rcases t2 with ⟨rfl, _⟩ | ⟨_, _, _, _, _, z, _⟩
      · exact h
      · cases z
    · cases z
  · cases h
/-- methods that change nothing -/
theorem mtD_r {me : Me} (hme : me = .index ∨ me = .count) {a a' : D} {l l' : List D} (ta : Rt m a a') (t : Rts m l l') {r : D} {M : Mem} (h : mtD me [o] a' l' = some (r, M)) : M = [o] ∧ U r ∧ mtD me m a l = some (r, m) := by
  rcases hme with rfl | rfl
  · unfold mtD at h ⊢
    dsimp only at h ⊢
    split at h
    · cases t with | cons t1 t => cases t with | nil =>
      dsimp only
      rw [pyOf_r h0 ok ta, pyOf_r h0 ok t1]
      split at h
      · rename_i h1 h2
        split at h
        · rename_i h3
          split at h
          · rename_i h4
            cases h
            rw [if_pos h3]
            exact ⟨rfl, rfl, rfl⟩
          · cases h
        · cases h
      · cases h
    · cases h
  · unfold mtD at h ⊢
    dsimp only at h ⊢
    split at h
    · cases t with | cons t1 t => cases t with | nil =>
      rcases t1 with ⟨rfl, _⟩ | ⟨_, _, _, _, _, z, _⟩
      · dsimp only
        rw [rdL_r h0 ok ta]
        split at h
        · rename_i h1
          split at h
          · rename_i h2
            cases h
            exact ⟨rfl, rfl, rfl⟩
          · cases h
        · cases h
      · cases z
    · cases h
end
end Z
set_option maxHeartbeats 2000000
/-! ZV: code whose lists of one's own stand as values: expressions (plain Lean). -/
namespace Z
open PySem
def Me.mild : Me → Bool
  | .index => true
  | .count => true
  | _ => false
def djB (mu own : List Nat) : Bool := own.all fun i => !mu.contains i
mutual
/-- code whose value is nobody's own list -/
def stC (mu : List Nat) : C → Bool
  | .var i => !mu.contains i
  | .con d => d.under 1
  | .tup l => stCs mu l
  | .lst l => stCs mu l
  | .bin _ a b => trC mu a && trC mu b
  | .neg a => trC mu a
  | .cmp _ a b => trC mu a && trC mu b
  | .chn _ _ a b c => trC mu a && trC mu b && trC mu c
  | .and a b => stC mu a && stC mu b
  | .or a b => stC mu a && stC mu b
  | .not a => stC mu a
  | .ite t a b => stC mu t && stC mu a && stC mu b
  | .sub a i => trC mu a && stC mu i
  | .cut a lo hi => trC mu a && stCo mu lo && stCo mu hi
  | .rev a => trC mu a
  | .call _ l => stCs mu l
  | .callk _ _ l _ kw df => stCs mu l && stCs mu kw && df.all (fun p => p.2.under 1)
  | .calv i l => !mu.contains i && stCs mu l
  | .bi _ l => trCs mu l
  | .mt me o l => me.mild && trC mu o && trCs mu l
  | .srtR a => trC mu a
  | .comp own elt t it ifs => djB mu own && djB mu t.ixs && itC mu it && stC mu elt && stCs mu ifs
  | .comp2 own elt t it ifs t1 it1 ifs1 => djB mu own && djB mu t.ixs && itC mu it && stC mu elt && stCs mu ifs && djB mu t1.ixs && itC mu it1 && stCs mu ifs1
  | .dcomp own k v t it ifs => djB mu own && djB mu t.ixs && itC mu it && stC mu k && stC mu v && stCs mu ifs
  | .srtc own elt t it ifs => djB mu own && djB mu t.ixs && itC mu it && stC mu elt && stCs mu ifs
  | .nev => true
  | .lrg a b => stC mu a && stC mu b
  | _ => false
/-- .. or such a list, looked at here alone -/
def trC (mu : List Nat) : C → Bool
  | .var _ => true
  | .ite t a b => stC mu t && trC mu a && trC mu b
  | .con d => d.under 1
  | .tup l => stCs mu l
  | .lst l => stCs mu l
  | .bin _ a b => trC mu a && trC mu b
  | .neg a => trC mu a
  | .cmp _ a b => trC mu a && trC mu b
  | .chn _ _ a b c => trC mu a && trC mu b && trC mu c
  | .and a b => stC mu a && stC mu b
  | .or a b => stC mu a && stC mu b
  | .not a => stC mu a
  | .sub a i => trC mu a && stC mu i
  | .cut a lo hi => trC mu a && stCo mu lo && stCo mu hi
  | .rev a => trC mu a
  | .call _ l => stCs mu l
  | .callk _ _ l _ kw df => stCs mu l && stCs mu kw && df.all (fun p => p.2.under 1)
  | .calv i l => !mu.contains i && stCs mu l
  | .bi _ l => trCs mu l
  | .mt me o l => me.mild && trC mu o && trCs mu l
  | .srtR a => trC mu a
  | .comp own elt t it ifs => djB mu own && djB mu t.ixs && itC mu it && stC mu elt && stCs mu ifs
  | .comp2 own elt t it ifs t1 it1 ifs1 => djB mu own && djB mu t.ixs && itC mu it && stC mu elt && stCs mu ifs && djB mu t1.ixs && itC mu it1 && stCs mu ifs1
  | .dcomp own k v t it ifs => djB mu own && djB mu t.ixs && itC mu it && stC mu k && stC mu v && stCs mu ifs
  | .srtc own elt t it ifs => djB mu own && djB mu t.ixs && itC mu it && stC mu elt && stCs mu ifs
  | .nev => true
  | .lrg a b => stC mu a && stC mu b
  | _ => false
def stCs (mu : List Nat) : Cs → Bool
  | .nil => true
  | .cons c l => stC mu c && stCs mu l
def trCs (mu : List Nat) : Cs → Bool
  | .nil => true
  | .cons c l => trC mu c && trCs mu l
def stCo (mu : List Nat) : Co → Bool
  | .none => true
  | .some c => stC mu c
/-- what may be walked -/
def itC (mu : List Nat) : C → Bool
  | .rng a => stC mu a
  | .rng2 a b => stC mu a && stC mu b
  | .zip a b => stC mu a && stC mu b
  | .enum a => stC mu a
  | .var _ => true
  | .ite t a b => stC mu t && trC mu a && trC mu b
  | .con d => d.under 1
  | .tup l => stCs mu l
  | .lst l => stCs mu l
  | .bin _ a b => trC mu a && trC mu b
  | .sub a i => trC mu a && stC mu i
  | .cut a lo hi => trC mu a && stCo mu lo && stCo mu hi
  | .rev a => trC mu a
  | .call _ l => stCs mu l
  | .callk _ _ l _ kw df => stCs mu l && stCs mu kw && df.all (fun p => p.2.under 1)
  | .calv i l => !mu.contains i && stCs mu l
  | .bi _ l => trCs mu l
  | .srtR a => trC mu a
  | .comp own elt t it ifs => djB mu own && djB mu t.ixs && itC mu it && stC mu elt && stCs mu ifs
  | .comp2 own elt t it ifs t1 it1 ifs1 => djB mu own && djB mu t.ixs && itC mu it && stC mu elt && stCs mu ifs && djB mu t1.ixs && itC mu it1 && stCs mu ifs1
  | .srtc own elt t it ifs => djB mu own && djB mu t.ixs && itC mu it && stC mu elt && stCs mu ifs
  | .lrg a b => stC mu a && stC mu b
  | _ => false
end
/-- slots in both: own lists as values there, at their places here -/
structure Sim (mu : List Nat) (b : Nat) (e p : Env) (m : Mem) (o : MO) : Prop where
  feed : m[0]? = some o
  ok : OkO o
  b1 : 1 ≤ b
  bl : b ≤ m.length
  len : e.length = p.length
  own : ∀ i, mu.contains i = true → (e.getD i none = none ∧ p.getD i none = none) ∨ ∃ a l, b ≤ a ∧ e.getD i none = some (.loc a) ∧ m[a]? = some (.lst l) ∧ p.getD i none = some (.lst l) ∧ Us l
  dj : ∀ i j, i ≠ j → mu.contains i = true → mu.contains j = true → e.getD i none = none ∨ e.getD i none ≠ e.getD j none
  oth : ∀ i, mu.contains i = false → e.getD i none = p.getD i none ∧ ∀ d, p.getD i none = some d → U d
variable {mu : List Nat} {b : Nat} {e p : Env} {m m' : Mem} {o o' : MO} {G Gp : Sg}
theorem Sim.go (s : Sim mu b e p m o) (ok : OkO o') : Sim mu b e p (m.set 0 o') o' := by
  have hl : 0 < m.length := (List.getElem?_eq_some_iff.mp s.feed).1
  refine ⟨List.getElem?_set_self hl, ok, s.b1, by rw [List.length_set]; exact s.bl, s.len, fun i hi => ?_, s.dj, s.oth⟩
  rcases s.own i hi with h | ⟨a, l, h1, h2, h3, h4⟩
  · exact .inl h
  · have := s.b1
    exact .inr ⟨a, l, h1, h2, by rw [List.getElem?_set_ne (by omega)]; exact h3, h4⟩
/-- what comes here, from what comes there -/
def OutR {α : Type} (m : Mem) (R : α → α → Prop) : Out α → Out α → Prop
  | .bad, _ => True
  | .ok d' μ, r => ∃ o' d, μ = [o'] ∧ OkO o' ∧ r = .ok d (m.set 0 o') ∧ R d d'
  | .exc x μ, r => ∃ o', μ = [o'] ∧ OkO o' ∧ r = .exc x (m.set 0 o') ∧ Us x.fs
theorem OutR.bind {α β : Type} {R : α → α → Prop} {R2 : β → β → Prop} {po ro : Out α} {f f' : α → Mem → Out β} (h : OutR m R po ro) (k : ∀ d d' o', OkO o' → R d d' → OutR (m.set 0 o') R2 (f' d' [o']) (f d (m.set 0 o'))) : OutR m R2 (po.bind f') (ro.bind f) := by
  cases po with
  | bad => trivial
  | exc x μ =>
    obtain ⟨o', h1, h2, h3, h4⟩ := h
    subst h1 h3
    exact ⟨o', rfl, h2, rfl, h4⟩
  | ok d' μ =>
    obtain ⟨o', d, h1, h2, h3, h4⟩ := h
    subst h1 h3
    have q := k d d' o' h2 h4
    rw [Out.bind_ok, Out.bind_ok]
    cases hq : f' d' [o'] with
    | bad => trivial
    | ok a μ =>
      rw [hq] at q
      obtain ⟨o2, d2, q1, q2, q3, q4⟩ := q
      exact ⟨o2, d2, q1, q2, by rw [q3, List.set_set], q4⟩
    | exc x μ =>
      rw [hq] at q
      obtain ⟨o2, q1, q2, q3, q4⟩ := q
      exact ⟨o2, q1, q2, by rw [q3, List.set_set], q4⟩
theorem OutR.imp {α : Type} {R R2 : α → α → Prop} {po ro : Out α} (h : OutR m R po ro) (i : ∀ d d', R d d' → R2 d d') : OutR m R2 po ro := by
  cases po with
  | bad => trivial
  | exc x μ => exact h
  | ok d' μ =>
    obtain ⟨o', d, h1, h2, h3, h4⟩ := h
    exact ⟨o', d, h1, h2, h3, i _ _ h4⟩
theorem set_feed (h : m[0]? = some o) : m.set 0 o = m := by
  obtain ⟨h1, h2⟩ := List.getElem?_eq_some_iff.mp h
  rw [← h2, List.set_getElem_self]
theorem OutR.ok {α : Type} {R : α → α → Prop} {d d' : α} (h : m[0]? = some o) (ok : OkO o) (r : R d d') : OutR m R (.ok d' [o]) (.ok d m) := ⟨o, d, rfl, ok, by rw [set_feed h], r⟩
theorem OutR.lift {α : Type} {R : α → α → Prop} {x' x : Option α} (h : m[0]? = some o) (ok : OkO o) (r : ∀ d', x' = some d' → ∃ d, x = some d ∧ R d d') : OutR m R (lift x' [o]) (lift x m) := by
  cases x' with
  | none => trivial
  | some d' =>
    obtain ⟨d, rfl, hr⟩ := r d' rfl
    exact OutR.ok h ok hr
/-- what the defs come to, in both -/
def CallR (G Gp : Sg) : Prop := ∀ (f : Nat) (args : List D) (o : MO) (m : Mem), Us args → OkO o → m[0]? = some o → OutR m Rs (Gp f args [o]) (G f args m)
theorem asBl_r {d d' : D} (h : Rs d d') (hf : m[0]? = some o) (ok : OkO o) : OutR m (fun a b : Bool => a = b) (asBl d' [o]) (asBl d m) := by
  obtain ⟨rfl, _⟩ := h
  cases d <;> first | exact OutR.ok hf ok rfl | trivial
mutual
theorem T.bind_sim : ∀ {t : T} {d : D} {e p p' : Env}, djB mu t.ixs = true → U d → Sim mu b e p m o → t.bind d p = some p' → ∃ e', t.bind d e = some e' ∧ Sim mu b e' p' m o
  | .nm i, d, e, p, p', hd, u, s, h => by
    rw [T.bind] at h
    cases h
    have ni : mu.contains i = false := by
      unfold djB at hd
      rw [T.ixs] at hd
      simpa using hd
    refine ⟨_, by rw [T.bind], ?_⟩
    have ne : ∀ j, mu.contains j = true → i ≠ j := fun j hj e => by subst e; rw [ni] at hj; cases hj
    have g : ∀ (E : Env) j, i ≠ j → (E.set i (some d)).getD j none = E.getD j none := fun E j hj => by rw [List.getD_eq_getElem?_getD, List.getD_eq_getElem?_getD, List.getElem?_set_ne hj]
    refine ⟨s.feed, s.ok, s.b1, s.bl, by rw [List.length_set, List.length_set, s.len], fun j hj => ?_, fun j k hjk hj hk => ?_, fun j hj => ?_⟩
    · rw [g _ j (ne j hj), g _ j (ne j hj)]; exact s.own j hj
    · rw [g _ j (ne j hj), g _ k (ne k hk)]; exact s.dj j k hjk hj hk
    · by_cases hij : i = j
      · subst hij
        by_cases hl : i < p.length
        · have e1 : (p.set i (some d)).getD i none = some d := by rw [List.getD_eq_getElem?_getD, List.getElem?_set_self hl]; rfl
          have e2 : (e.set i (some d)).getD i none = some d := by rw [List.getD_eq_getElem?_getD, List.getElem?_set_self (by rw [s.len]; exact hl)]; rfl
          rw [e1, e2]
          exact ⟨rfl, fun d' h => by cases h; exact u⟩
        · have e1 : (p.set i (some d)).getD i none = none := by rw [List.getD_eq_getElem?_getD, List.getElem?_eq_none (by rw [List.length_set]; omega)]; rfl
          have e2 : (e.set i (some d)).getD i none = none := by rw [List.getD_eq_getElem?_getD, List.getElem?_eq_none (by rw [List.length_set, s.len]; omega)]; rfl
          rw [e1, e2]
          exact ⟨rfl, fun d' h => by cases h⟩
      · rw [g _ j hij, g _ j hij]; exact s.oth j hj
  | .tp l, d, e, p, p', hd, u, s, h => by
    cases d with
    | tup ds =>
      rw [T.bind] at h ⊢
      exact Ts.bind_sim (by rwa [T.ixs] at hd) u s h
    | _ => simp [T.bind] at h
theorem Ts.bind_sim : ∀ {t : Ts} {d : List D} {e p p' : Env}, djB mu t.ixs = true → Us d → Sim mu b e p m o → t.bind d p = some p' → ∃ e', t.bind d e = some e' ∧ Sim mu b e' p' m o
  | .nil, d, e, p, p', hd, u, s, h => by
    cases d with
    | nil => rw [Ts.bind] at h; cases h; exact ⟨e, by rw [Ts.bind], s⟩
    | cons x xs => simp [Ts.bind] at h
  | .cons t l, d, e, p, p', hd, u, s, h => by
    cases d with
    | nil => simp [Ts.bind] at h
    | cons x xs =>
      rw [Ts.bind] at h
      rw [Ts.ixs] at hd
      unfold djB at hd
      rw [List.all_append, Bool.and_eq_true] at hd
      rw [Us, D.unders, Bool.and_eq_true] at u
      split at h
      · rename_i p1 h1
        obtain ⟨e1, h2, s1⟩ := T.bind_sim hd.1 u.1 s h1
        obtain ⟨e2, h3, s2⟩ := Ts.bind_sim hd.2 u.2 s1 h
        exact ⟨e2, by rw [Ts.bind, h2]; exact h3, s2⟩
      · cases h
end
theorem Sim.wipe (s : Sim mu b e p m o) : ∀ {l : List Nat}, djB mu l = true → Sim mu b (wipe e l) (wipe p l) m o
  | [], _ => s
  | v :: vs, h => by
    unfold djB at h
    rw [List.all_cons, Bool.and_eq_true] at h
    have s1 := Sim.wipe s (l := vs) h.2
    have nv : mu.contains v = false := by simpa using h.1
    show Sim mu b ((Z.wipe e vs).set v none) ((Z.wipe p vs).set v none) m o
    generalize Z.wipe e vs = e at s1
    generalize Z.wipe p vs = p at s1
    have ne : ∀ j, mu.contains j = true → v ≠ j := fun j hj e => by subst e; rw [nv] at hj; cases hj
    have g : ∀ (E : Env) j, v ≠ j → (E.set v none).getD j none = E.getD j none := fun E j hj => by rw [List.getD_eq_getElem?_getD, List.getD_eq_getElem?_getD, List.getElem?_set_ne hj]
    have z : ∀ (E : Env), (E.set v none).getD v none = none := fun E => by
      by_cases hl : v < E.length
      · rw [List.getD_eq_getElem?_getD, List.getElem?_set_self hl]; rfl
      · rw [List.getD_eq_getElem?_getD, List.getElem?_eq_none (by rw [List.length_set]; omega)]; rfl
    refine ⟨s1.feed, s1.ok, s1.b1, s1.bl, by rw [List.length_set, List.length_set, s1.len], fun j hj => ?_, fun j k hjk hj hk => ?_, fun j hj => ?_⟩
    · rw [g _ j (ne j hj), g _ j (ne j hj)]; exact s1.own j hj
    · rw [g _ j (ne j hj), g _ k (ne k hk)]; exact s1.dj j k hjk hj hk
    · by_cases hij : v = j
      · subst hij; rw [z, z]; exact ⟨rfl, fun d h => by cases h⟩
      · rw [g _ j hij, g _ j hij]; exact s1.oth j hj
end Z
set_option maxHeartbeats 4000000
/-! ZW: code whose lists of one's own stand as values: expressions' values (plain Lean). -/
namespace Z
open PySem
variable {mu : List Nat} {b : Nat} {e p : Env} {m m' : Mem} {o o' : MO} {G Gp : Sg}
/-- what is walked -/
def RSrc (m : Mem) (s s' : Src) : Prop := s.items = s'.items ∧ Us s'.items ∧ s'.at_ = none ∧ (s.at_ = none ∨ ∃ a, s.at_ = some a ∧ 1 ≤ a ∧ m[a]? = some (.lst s.items))
theorem RSrc.stays {s s' : Src} (h : RSrc m s s') : s.stays m = true := by
  obtain ⟨items, at_⟩ := s
  rcases h.2.2.2 with e | ⟨a, e, _, h2⟩
  · simp only at e; subst e; rfl
  · simp only at e h2; subst e; exact src_at h2
theorem RSrc.set {s s' : Src} (h : RSrc m s s') : RSrc (m.set 0 o) s s' := by
  refine ⟨h.1, h.2.1, h.2.2.1, ?_⟩
  rcases h.2.2.2 with e | ⟨a, e, h1, h2⟩
  · exact .inl e
  · exact .inr ⟨a, e, h1, by rw [List.getElem?_set_ne (by omega)]; exact h2⟩
theorem us_strs (s : Str) : Us (s.cps.toList.map fun c => D.str ⟨#[c]⟩) := us_iff.mpr fun d hd => by obtain ⟨c, _, rfl⟩ := List.mem_map.mp hd; rfl
theorem srcOf_r (h0 : m[0]? = some o) (ok : OkO o) {d d' : D} (t : Rt m d d') {s' : Src} (h : srcOf [o] d' = some s') : ∃ s, srcOf m d = some s ∧ RSrc m s s' := by
  rcases t with ⟨rfl, u⟩ | ⟨a, l, h1, rfl, h2, rfl, u⟩
  · have same : (∀ n, d ≠ .loc n) → srcOf m d = srcOf [o] d := fun hn => by
      cases d with
      | loc n => exact absurd rfl (hn n)
      | _ => rfl
    cases d with
    | loc n =>
      have : n < 1 := by simpa [U, D.under] using u
      obtain rfl : n = 0 := by omega
      unfold srcOf at h
      dsimp only at h
      split at h
      · rename_i e
        simp at e
        subst e
        exact ok.nl.elim
      · cases h
    | str s =>
      refine ⟨s', by rw [same (fun n h => nomatch h)]; exact h, rfl, ?_, ?_⟩
      · unfold srcOf at h
        dsimp only at h
        split at h <;> cases h
        exact us_strs s
      · unfold srcOf at h
        dsimp only at h
        split at h <;> cases h
        exact ⟨rfl, .inl rfl⟩
    | tup l => cases h; exact ⟨_, rfl, rfl, u, rfl, .inl rfl⟩
    | lst l => cases h; exact ⟨_, rfl, rfl, u, rfl, .inl rfl⟩
    | scr l => cases h; exact ⟨_, rfl, rfl, us_ints l, rfl, .inl rfl⟩
    | _ => cases h
  · cases h
    exact ⟨⟨l, some a⟩, by unfold srcOf; dsimp only; rw [h2], rfl, u, rfl, .inr ⟨a, rfl, h1, h2⟩⟩
theorem zip_u {x y : List D} (ux : Us x) (uy : Us y) : Us ((x.zip y).map fun p => D.tup [p.1, p.2]) := us_iff.mpr fun d hd => by
  obtain ⟨q, hq, rfl⟩ := List.mem_map.mp hd
  have := List.of_mem_zip hq
  show D.unders 1 [q.1, q.2] = true
  rw [D.unders, D.unders, us_iff.mp ux _ this.1, us_iff.mp uy _ this.2]
  rfl
theorem zipS_u {a c : D} {s : Src} (h : zipS [o] a c = some s) (ua : U a) (uc : U c) : Us s.items ∧ s.at_ = none := by
  unfold zipS at h
  split at h
  · cases h; exact ⟨zip_u ua uc, rfl⟩
  · cases h; exact ⟨zip_u ua uc, rfl⟩
  · cases h
theorem enumS_u {a : D} {s : Src} (h : enumS a = some s) (ua : U a) : Us s.items ∧ s.at_ = none := by
  unfold enumS at h
  split at h
  · cases h
    refine ⟨us_iff.mpr fun d hd => ?_, rfl⟩
    obtain ⟨⟨x, i⟩, hq, rfl⟩ := List.mem_map.mp hd
    have := List.mem_zipIdx hq
    have hx : x ∈ _ := (List.mem_zipIdx_iff_getElem?.mp hq) |> List.mem_of_getElem?
    show D.unders 1 [_, x] = true
    rw [D.unders, D.unders, us_iff.mp ua _ hx]
    rfl
  · cases h
    refine ⟨us_iff.mpr fun d hd => ?_, rfl⟩
    obtain ⟨⟨x, i⟩, hq, rfl⟩ := List.mem_map.mp hd
    have := List.mem_zipIdx hq
    have hx : x ∈ _ := (List.mem_zipIdx_iff_getElem?.mp hq) |> List.mem_of_getElem?
    show D.unders 1 [_, x] = true
    rw [D.unders, D.unders, us_iff.mp ua _ hx]
    rfl
  · cases h
theorem rngS_u {a : D} {s : Src} {M M' : Mem} (h : rngS a M = .ok s M') : M = M' ∧ Us s.items ∧ s.at_ = none ∧ ∀ M2, rngS a M2 = .ok s M2 := by
  unfold rngS at h ⊢
  split at h
  · split at h
    · rename_i hc
      cases h
      refine ⟨rfl, us_iff.mpr fun d hd => ?_, rfl, fun M2 => by rw [if_pos hc]⟩
      obtain ⟨k, _, rfl⟩ := List.mem_map.mp hd
      rfl
    · cases h
  · cases h
theorem rng2S_u {a c : D} {s : Src} {M M' : Mem} (h : rng2S a c M = .ok s M') : M = M' ∧ Us s.items ∧ s.at_ = none ∧ ∀ M2, rng2S a c M2 = .ok s M2 := by
  unfold rng2S at h ⊢
  split at h
  · split at h
    · rename_i hc
      cases h
      refine ⟨rfl, us_iff.mpr fun d hd => ?_, rfl, fun M2 => by rw [if_pos hc]⟩
      obtain ⟨k, _, rfl⟩ := List.mem_map.mp hd
      rfl
    · cases h
  · cases h
theorem rngS_nex {a : D} {M M' : Mem} {x : Ex} (h : rngS a M = .exc x M') : False := by
  unfold rngS at h
  split at h
  · split at h <;> cases h
  · cases h
theorem rng2S_nex {a c : D} {M M' : Mem} {x : Ex} (h : rng2S a c M = .exc x M') : False := by
  unfold rng2S at h
  split at h
  · split at h <;> cases h
  · cases h
/-- the items of a comprehension, in both -/
theorem compGo_r {st' : Mem → Bool} {f f' : Env → Mem → Out D} {q q' : Env → Mem → Out Bool} {t : T} (hd : djB mu t.ixs = true) {s s' : Src} (hs' : st' = s'.stays)
    (hq : ∀ {e p : Env} {m : Mem} {o : MO}, Sim mu b e p m o → OutR m (fun a b : Bool => a = b) (q' p [o]) (q e m)) (hf : ∀ {e p : Env} {m : Mem} {o : MO}, Sim mu b e p m o → OutR m Rs (f' p [o]) (f e m)) :
    ∀ {ds : List D} {e p : Env} {m : Mem} {o : MO}, Us ds → RSrc m s s' → Sim mu b e p m o → OutR m Rss (compGo st' f' q' t ds p [o]) (compGo s.stays f q t ds e m)
  | [], e, p, m, o, _, hS, S => by
    have h2 : s'.stays [o] = true := by obtain ⟨i, a⟩ := s'; have := hS.2.2.1; simp only at this; subst this; rfl
    unfold compGo
    rw [hs', h2, if_pos rfl, hS.stays, if_pos rfl]
    exact OutR.ok S.feed S.ok ⟨rfl, rfl⟩
  | d :: ds, e, p, m, o, hu, hS, S => by
    have h2 : s'.stays [o] = true := by obtain ⟨i, a⟩ := s'; have := hS.2.2.1; simp only at this; subst this; rfl
    rw [Us, D.unders, Bool.and_eq_true] at hu
    unfold compGo
    rw [hs', h2, if_pos rfl, hS.stays, if_pos rfl]
    cases hb : t.bind d p with
    | none => trivial
    | some p1 =>
      obtain ⟨e1, h3, S1⟩ := T.bind_sim hd hu.1 S hb
      rw [h3]
      dsimp only
      refine (hq S1).bind fun k k' o1 ok1 hk => ?_
      subst hk
      cases k with
      | true =>
        rw [if_pos rfl, if_pos rfl]
        refine (hf (S1.go ok1)).bind fun v v' o2 ok2 hv => ?_
        rw [List.set_set]
        rw [← hs']
        refine (compGo_r hd hs' hq hf hu.2 hS.set (S.go ok2)).bind fun vs vs' o3 ok3 hvs => ?_
        obtain ⟨rfl, u1⟩ := hv
        obtain ⟨rfl, u2⟩ := hvs
        refine OutR.ok ?_ ok3 ⟨rfl, by rw [Us, D.unders, u1, u2]; rfl⟩
        rw [List.set_set]
        have hl : 0 < m.length := (List.getElem?_eq_some_iff.mp S.feed).1
        exact List.getElem?_set_self hl
      | false =>
        rw [if_neg Bool.false_ne_true, if_neg Bool.false_ne_true, ← hs']
        exact compGo_r hd hs' hq hf hu.2 hS.set (S.go ok1)
/-- .. of lists put one behind another -/
theorem compGoL_r {st' : Mem → Bool} {f f' : Env → Mem → Out (List D)} {q q' : Env → Mem → Out Bool} {t : T} (hd : djB mu t.ixs = true) {s s' : Src} (hs' : st' = s'.stays)
    (hq : ∀ {e p : Env} {m : Mem} {o : MO}, Sim mu b e p m o → OutR m (fun a b : Bool => a = b) (q' p [o]) (q e m)) (hf : ∀ {e p : Env} {m : Mem} {o : MO}, Sim mu b e p m o → OutR m Rss (f' p [o]) (f e m)) :
    ∀ {ds : List D} {e p : Env} {m : Mem} {o : MO}, Us ds → RSrc m s s' → Sim mu b e p m o → OutR m Rss (compGoL st' f' q' t ds p [o]) (compGoL s.stays f q t ds e m)
  | [], e, p, m, o, _, hS, S => by
    have h2 : s'.stays [o] = true := by obtain ⟨i, a⟩ := s'; have := hS.2.2.1; simp only at this; subst this; rfl
    unfold compGoL
    rw [hs', h2, if_pos rfl, hS.stays, if_pos rfl]
    exact OutR.ok S.feed S.ok ⟨rfl, rfl⟩
  | d :: ds, e, p, m, o, hu, hS, S => by
    have h2 : s'.stays [o] = true := by obtain ⟨i, a⟩ := s'; have := hS.2.2.1; simp only at this; subst this; rfl
    rw [Us, D.unders, Bool.and_eq_true] at hu
    unfold compGoL
    rw [hs', h2, if_pos rfl, hS.stays, if_pos rfl]
    cases hb : t.bind d p with
    | none => trivial
    | some p1 =>
      obtain ⟨e1, h3, S1⟩ := T.bind_sim hd hu.1 S hb
      rw [h3]
      dsimp only
      refine (hq S1).bind fun k k' o1 ok1 hk => ?_
      subst hk
      cases k with
      | true =>
        rw [if_pos rfl, if_pos rfl]
        refine (hf (S1.go ok1)).bind fun v v' o2 ok2 hv => ?_
        rw [List.set_set]
        rw [← hs']
        refine (compGoL_r hd hs' hq hf hu.2 hS.set (S.go ok2)).bind fun vs vs' o3 ok3 hvs => ?_
        obtain ⟨rfl, u1⟩ := hv
        obtain ⟨rfl, u2⟩ := hvs
        refine OutR.ok ?_ ok3 ⟨rfl, us_append u1 u2⟩
        rw [List.set_set]
        have hl : 0 < m.length := (List.getElem?_eq_some_iff.mp S.feed).1
        exact List.getElem?_set_self hl
      | false =>
        rw [if_neg Bool.false_ne_true, if_neg Bool.false_ne_true, ← hs']
        exact compGoL_r hd hs' hq hf hu.2 hS.set (S.go ok1)
theorem setK_us {kvs : List (Key × D)} {k : Key} {v : D} (h : Us (kvs.map (·.2))) (u : U v) : Us ((setK kvs k v).map (·.2)) := by
  unfold setK
  split
  · refine us_iff.mpr fun d hd => ?_
    obtain ⟨q, hq, rfl⟩ := List.mem_map.mp hd
    obtain ⟨r, hr, rfl⟩ := List.mem_map.mp hq
    split
    · exact u
    · exact us_iff.mp h _ (List.mem_map_of_mem hr)
  · rw [List.map_append]
    exact us_append h (us_iff.mpr fun d hd => by rw [List.map_cons, List.map_nil, List.mem_singleton] at hd; subst hd; exact u)
/-- .. of a dict -/
theorem dcGo_r {st' : Mem → Bool} {fk fk' fv fv' : Env → Mem → Out D} {q q' : Env → Mem → Out Bool} {t : T} (hd : djB mu t.ixs = true) {s s' : Src} (hs' : st' = s'.stays)
    (hq : ∀ {e p : Env} {m : Mem} {o : MO}, Sim mu b e p m o → OutR m (fun a b : Bool => a = b) (q' p [o]) (q e m)) (hk : ∀ {e p : Env} {m : Mem} {o : MO}, Sim mu b e p m o → OutR m Rs (fk' p [o]) (fk e m)) (hv : ∀ {e p : Env} {m : Mem} {o : MO}, Sim mu b e p m o → OutR m Rs (fv' p [o]) (fv e m)) :
    ∀ {ds : List D} {e p : Env} {kvs : List (Key × D)} {m : Mem} {o : MO}, Us ds → Us (kvs.map (·.2)) → RSrc m s s' → Sim mu b e p m o → OutR m (fun a c : List (Key × D) => a = c ∧ Us (c.map (·.2))) (dcGo st' fk' fv' q' t ds p kvs [o]) (dcGo s.stays fk fv q t ds e kvs m)
  | [], e, p, kvs, m, o, _, hkv, hS, S => by
    have h2 : s'.stays [o] = true := by obtain ⟨i, a⟩ := s'; have := hS.2.2.1; simp only at this; subst this; rfl
    unfold dcGo
    rw [hs', h2, if_pos rfl, hS.stays, if_pos rfl]
    exact OutR.ok S.feed S.ok ⟨rfl, hkv⟩
  | d :: ds, e, p, kvs, m, o, hu, hkv, hS, S => by
    have h2 : s'.stays [o] = true := by obtain ⟨i, a⟩ := s'; have := hS.2.2.1; simp only at this; subst this; rfl
    rw [Us, D.unders, Bool.and_eq_true] at hu
    unfold dcGo
    rw [hs', h2, if_pos rfl, hS.stays, if_pos rfl]
    cases hb : t.bind d p with
    | none => trivial
    | some p1 =>
      obtain ⟨e1, h3, S1⟩ := T.bind_sim hd hu.1 S hb
      rw [h3]
      dsimp only
      refine (hq S1).bind fun k k' o1 ok1 hkk => ?_
      subst hkk
      cases k with
      | true =>
        rw [if_pos rfl, if_pos rfl]
        refine (hk (S1.go ok1)).bind fun x x' o2 ok2 hx => ?_
        refine (hv ((S1.go ok1).go ok2)).bind fun v v' o3 ok3 hvv => ?_
        obtain ⟨rfl, u1⟩ := hx
        obtain ⟨rfl, u2⟩ := hvv
        cases keyOf x with
        | none => trivial
        | some ky =>
          dsimp only
          split
          · rw [List.set_set, List.set_set, ← hs']
            exact dcGo_r hd hs' hq hk hv hu.2 (setK_us hkv u2) hS.set (S.go ok3)
          · trivial
      | false =>
        rw [if_neg Bool.false_ne_true, if_neg Bool.false_ne_true, ← hs']
        exact dcGo_r hd hs' hq hk hv hu.2 hkv hS.set (S.go ok1)
theorem OutR.calm {α : Type} {R : α → α → Prop} {a a' : Out α} (h : OutR m R a' a) : OutR m R a'.calm a.calm := by
  cases a' with
  | bad => trivial
  | exc x μ => trivial
  | ok d μ =>
    obtain ⟨o', d2, h1, h2, rfl, h4⟩ := h
    exact ⟨o', d2, h1, h2, rfl, h4⟩
theorem lookup_mem {β : Type} {i : Nat} {x : β} : ∀ {l : List (Nat × β)}, l.lookup i = some x → (i, x) ∈ l
  | [], h => by cases h
  | (j, y) :: l, h => by
    rw [List.lookup_cons] at h
    split at h
    · rename_i hb
      have : i = j := by simpa using hb
      cases h
      subst this
      exact List.mem_cons_self ..
    · exact List.mem_cons_of_mem _ (lookup_mem h)
theorem us_placed {np : Nat} {us : List D} {ix : List Nat} {ws : List D} {df : List (Nat × D)} (h1 : Us us) (h2 : Us ws) (h3 : df.all (fun p => p.2.under 1) = true) : Us (placed np us ix ws df .non) := us_iff.mpr fun d hd => by
  unfold placed at hd
  obtain ⟨i, _, rfl⟩ := List.mem_map.mp hd
  split
  · rename_i e; exact us_iff.mp h1 _ (List.mem_of_getElem? e)
  · split
    · rename_i e
      exact us_iff.mp h2 _ (List.of_mem_zip (lookup_mem e)).2
    · cases e : df.lookup i with
      | none => rfl
      | some x => exact List.all_eq_true.mp h3 _ (lookup_mem e)

theorem plain_r {c : C} (hp : plainIt c = true) {P R : Out D} (hP : evalC Gp c p [o] = P) (hR : evalC G c e m = R) (S : Sim mu b e p m o) (h : OutR m (Rt m) P R) : OutR m (RSrc m) (evalIt Gp c p [o]) (evalIt G c e m) := by
  rw [evalIt_plain hp, evalIt_plain hp, hP, hR]
  refine h.bind fun d d' o1 ok1 hd => ?_
  have S1 := S.go ok1
  refine OutR.lift S1.feed ok1 fun s' hs => ?_
  obtain ⟨s, h1, h2⟩ := srcOf_r S1.feed ok1 hd.set hs
  refine ⟨s, h1, h2.1, h2.2.1, h2.2.2.1, ?_⟩
  rcases h2.2.2.2 with z | ⟨a, z1, z2, z3⟩
  · exact .inl z
  · exact .inr ⟨a, z1, z2, by rw [List.getElem?_set_ne (by omega)] at z3; exact z3⟩
theorem Rt.unset {o1 : MO} {d d' : D} (h : Rt (m.set 0 o1) d d') : Rt m d d' := by
  rcases h with h | ⟨a, l, h1, h2, h3, h4⟩
  · exact .inl h
  · exact .inr ⟨a, l, h1, h2, by rw [List.getElem?_set_ne (by omega)] at h3; exact h3, h4⟩
theorem Rts.unset {o1 : MO} {l l' : List D} (h : Rts (m.set 0 o1) l l') : Rts m l l' := by
  generalize hm : m.set 0 o1 = m1 at h
  induction h with
  | nil => exact .nil
  | cons a _ ih => subst hm; exact .cons a.unset ih
section
variable (HC : CallR G Gp)
include HC
mutual
theorem stC_r : ∀ {c : C} {e p : Env} {m : Mem} {o : MO}, stC mu c = true → Sim mu b e p m o → OutR m Rs (evalC Gp c p [o]) (evalC G c e m)
  | .var i, e, p, m, o, h, S => by
    rw [stC, Bool.not_eq_true'] at h
    rw [ev_var, ev_var]
    obtain ⟨h1, h2⟩ := S.oth i h
    rw [h1]
    exact OutR.lift S.feed S.ok fun d hd => ⟨d, hd, rfl, h2 d hd⟩
  | .con d, e, p, m, o, h, S => by
    rw [stC] at h
    rw [ev_con, ev_con]
    exact OutR.ok S.feed S.ok ⟨rfl, h⟩
  | .tup l, e, p, m, o, h, S => by
    rw [stC] at h
    rw [ev_tup, ev_tup]
    exact (stCs_r h S).bind fun ds ds' o1 ok1 hd => OutR.ok (S.go ok1).feed ok1 ⟨by rw [hd.1], hd.2⟩
  | .lst l, e, p, m, o, h, S => by
    rw [stC] at h
    rw [ev_lst, ev_lst]
    exact (stCs_r h S).bind fun ds ds' o1 ok1 hd => OutR.ok (S.go ok1).feed ok1 ⟨by rw [hd.1], hd.2⟩
  | .bin op a c, e, p, m, o, h, S => by
    rw [stC, Bool.and_eq_true] at h
    rw [ev_bin, ev_bin]
    refine (trC_r h.1 S).bind fun x x' o1 ok1 hx => ?_
    refine (trC_r h.2 (S.go ok1)).bind fun y y' o2 ok2 hy => ?_
    refine OutR.lift ((S.go ok1).go ok2).feed ok2 fun d hd => ⟨d, ?_, rfl, binD_u ok2 hd hx.u hy.u⟩
    rw [← hd]
    exact binD_r ((S.go ok1).go ok2).feed ok2 hx.set.set hy.set
  | .neg a, e, p, m, o, h, S => by
    rw [stC] at h
    rw [ev_neg, ev_neg]
    refine (trC_r h S).bind fun x x' o1 ok1 hx => ?_
    refine OutR.lift (S.go ok1).feed ok1 fun d hd => ⟨d, ?_, rfl, negD_u hd⟩
    rw [← hd]
    exact negD_r (S.go ok1).feed ok1 hx.set
  | .cmp op a c, e, p, m, o, h, S => by
    rw [stC, Bool.and_eq_true] at h
    rw [ev_cmp, ev_cmp]
    refine (trC_r h.1 S).bind fun x x' o1 ok1 hx => ?_
    refine (trC_r h.2 (S.go ok1)).bind fun y y' o2 ok2 hy => ?_
    have S2 := (S.go ok1).go ok2
    rw [cmpD_r S2.feed ok2 hx.set.set hy.set]
    refine OutR.lift S2.feed ok2 fun d hd => ⟨d, hd, rfl, ?_⟩
    obtain ⟨k, _, rfl⟩ := Option.map_eq_some_iff.mp hd
    rfl
  | .chn o1 o2 a c k, e, p, m, o, h, S => by
    rw [stC, Bool.and_eq_true, Bool.and_eq_true] at h
    rw [ev_chn, ev_chn]
    refine (trC_r h.1.1 S).bind fun x x' o1 ok1 hx => ?_
    refine (trC_r h.1.2 (S.go ok1)).bind fun y y' o2 ok2 hy => ?_
    have S2 := (S.go ok1).go ok2
    rw [cmpD_r S2.feed ok2 hx.set.set hy.set]
    refine (OutR.lift (R := fun a b : Bool => a = b) S2.feed ok2 fun d hd => ⟨d, hd, rfl⟩).bind fun k k' o3 ok3 hk => ?_
    subst hk
    have S3 := S2.go ok3
    cases k with
    | true =>
      rw [if_pos rfl, if_pos rfl]
      refine (trC_r h.2 S3).bind fun z z' o4 ok4 hz => ?_
      have S4 := S3.go ok4
      rw [cmpD_r S4.feed ok4 hy.set.set.set hz.set]
      refine OutR.lift S4.feed ok4 fun d hd => ⟨d, hd, rfl, ?_⟩
      obtain ⟨k, _, rfl⟩ := Option.map_eq_some_iff.mp hd
      rfl
    | false =>
      rw [if_neg Bool.false_ne_true, if_neg Bool.false_ne_true]
      exact OutR.ok S3.feed ok3 ⟨rfl, rfl⟩
  | .and a c, e, p, m, o, h, S => by
    rw [stC, Bool.and_eq_true] at h
    rw [ev_and, ev_and]
    refine (stC_r h.1 S).bind fun x x' o1 ok1 hx => ?_
    refine (asBl_r hx (S.go ok1).feed ok1).bind fun k k' o2 ok2 hk => ?_
    subst hk
    have S2 := (S.go ok1).go ok2
    cases k with
    | true => exact stC_r h.2 S2
    | false => exact OutR.ok S2.feed ok2 ⟨rfl, rfl⟩
  | .or a c, e, p, m, o, h, S => by
    rw [stC, Bool.and_eq_true] at h
    rw [ev_or, ev_or]
    refine (stC_r h.1 S).bind fun x x' o1 ok1 hx => ?_
    refine (asBl_r hx (S.go ok1).feed ok1).bind fun k k' o2 ok2 hk => ?_
    subst hk
    have S2 := (S.go ok1).go ok2
    cases k with
    | false => exact stC_r h.2 S2
    | true => exact OutR.ok S2.feed ok2 ⟨rfl, rfl⟩
  | .not a, e, p, m, o, h, S => by
    rw [stC] at h
    rw [ev_not, ev_not]
    refine (stC_r h S).bind fun x x' o1 ok1 hx => ?_
    refine (asBl_r hx (S.go ok1).feed ok1).bind fun k k' o2 ok2 hk => ?_
    subst hk
    exact OutR.ok ((S.go ok1).go ok2).feed ok2 ⟨rfl, rfl⟩
  | .ite t a c, e, p, m, o, h, S => by
    rw [stC, Bool.and_eq_true, Bool.and_eq_true] at h
    rw [ev_ite, ev_ite]
    refine (stC_r h.1.1 S).bind fun x x' o1 ok1 hx => ?_
    refine (asBl_r hx (S.go ok1).feed ok1).bind fun k k' o2 ok2 hk => ?_
    subst hk
    have S2 := (S.go ok1).go ok2
    cases k with
    | true => exact stC_r h.1.2 S2
    | false => exact stC_r h.2 S2
  | .sub a i, e, p, m, o, h, S => by
    rw [stC, Bool.and_eq_true] at h
    rw [ev_sub, ev_sub]
    refine (trC_r h.1 S).bind fun x x' o1 ok1 hx => ?_
    refine (stC_r h.2 (S.go ok1)).bind fun y y' o2 ok2 hy => ?_
    have S2 := (S.go ok1).go ok2
    refine OutR.lift S2.feed ok2 fun d hd => ⟨d, ?_, rfl, subD_u ok2 hd hx.u⟩
    rw [hy.1]
    exact subD_r S2.feed ok2 hx.set.set hd
  | .cut a lo hi, e, p, m, o, h, S => by
    rw [stC, Bool.and_eq_true, Bool.and_eq_true] at h
    rw [ev_cut, ev_cut]
    refine (trC_r h.1.1 S).bind fun x x' o1 ok1 hx => ?_
    refine (stCo_r h.1.2 (S.go ok1)).bind fun l l' o2 ok2 hl => ?_
    subst hl
    refine (stCo_r h.2 ((S.go ok1).go ok2)).bind fun r r' o3 ok3 hr => ?_
    subst hr
    have S3 := ((S.go ok1).go ok2).go ok3
    rw [cutD_r S3.feed ok3 hx.set.set.set]
    exact OutR.lift S3.feed ok3 fun d hd => ⟨d, hd, rfl, cutD_u ok3 hd hx.u⟩
  | .rev a, e, p, m, o, h, S => by
    rw [stC] at h
    rw [ev_rev, ev_rev]
    refine (trC_r h S).bind fun x x' o1 ok1 hx => ?_
    have S1 := S.go ok1
    rw [revD_r S1.feed ok1 hx.set]
    exact OutR.lift S1.feed ok1 fun d hd => ⟨d, hd, rfl, revD_u ok1 hd hx.u⟩
  | .call f l, e, p, m, o, h, S => by
    rw [stC] at h
    rw [ev_call, ev_call]
    refine (stCs_r h S).bind fun ds ds' o1 ok1 hd => ?_
    obtain ⟨rfl, u⟩ := hd
    exact HC f ds o1 _ u ok1 (S.go ok1).feed
  | .callk f np l ix kw df, e, p, m, o, h, S => by
    rw [stC, Bool.and_eq_true, Bool.and_eq_true] at h
    rw [ev_callk, ev_callk]
    refine (stCs_r h.1.1 S).bind fun ds ds' o1 ok1 hd => ?_
    obtain ⟨rfl, u⟩ := hd
    refine (stCs_r h.1.2 (S.go ok1)).bind fun ks ks' o2 ok2 hk => ?_
    obtain ⟨rfl, u2⟩ := hk
    exact HC f _ o2 _ (us_placed u u2 h.2) ok2 ((S.go ok1).go ok2).feed
  | .calv i l, e, p, m, o, h, S => by
    rw [stC, Bool.and_eq_true, Bool.not_eq_true'] at h
    rw [evalC.eq_def, evalC.eq_def (G := G)]
    dsimp only
    obtain ⟨h1, h2⟩ := S.oth i h.1
    rw [h1]
    split
    · refine (stCs_r h.2 S).bind fun ds ds' o1 ok1 hd => ?_
      obtain ⟨rfl, u⟩ := hd
      split
      · exact HC _ ds o1 _ u ok1 (S.go ok1).feed
      · trivial
    · trivial
  | .bi f l, e, p, m, o, h, S => by
    rw [stC] at h
    rw [ev_bi, ev_bi]
    refine (trCs_r h S).bind fun ds ds' o1 ok1 hd => ?_
    have S1 := S.go ok1
    exact OutR.lift S1.feed ok1 fun d hb => ⟨d, biD_r S1.feed ok1 hd.set hb, rfl, biD_u ok1 hb hd.u⟩
  | .mt me x l, e, p, m, o, h, S => by
    rw [stC, Bool.and_eq_true, Bool.and_eq_true] at h
    rw [ev_mt, ev_mt]
    have hme : me = .index ∨ me = .count := by
      have := h.1.1
      cases me <;> first | exact .inl rfl | exact .inr rfl | cases this
    refine (trC_r h.1.2 S).bind fun y y' o1 ok1 hy => ?_
    have S1 := S.go ok1
    split
    · rename_i hi
      have hi2 : isMe me (m.set 0 o1) y = true := by
        rcases hme with rfl | rfl
        · show (rdL _ _).isSome = true; rw [rdL_r S1.feed ok1 hy.set]; exact hi
        · show (rdL _ _).isSome = true; rw [rdL_r S1.feed ok1 hy.set]; exact hi
      rw [if_pos hi2]
      refine (trCs_r h.2 S1).bind fun ds ds' o2 ok2 hd => ?_
      have S2 := S1.go ok2
      unfold meF
      cases hM : mtD me [o2] y' ds' with
      | none => trivial
      | some r =>
        obtain ⟨r, M⟩ := r
        obtain ⟨rfl, u, q⟩ := mtD_r S2.feed ok2 hme hy.set.set hd.set hM
        rw [q]
        exact OutR.ok S2.feed ok2 ⟨rfl, u⟩
    · trivial
  | .srtR a, e, p, m, o, h, S => by
    rw [stC] at h
    rw [ev_srtR, ev_srtR]
    refine (trC_r h S).bind fun x x' o1 ok1 hx => ?_
    have S1 := S.go ok1
    rw [srtRD_r S1.feed ok1 hx.set]
    exact OutR.lift S1.feed ok1 fun d hd => ⟨d, hd, rfl, srtRD_u hd⟩
  | .comp own elt t it ifs, e, p, m, o, h, S => by
    rw [stC, Bool.and_eq_true, Bool.and_eq_true, Bool.and_eq_true, Bool.and_eq_true] at h
    obtain ⟨⟨⟨⟨h1, h2⟩, h3⟩, h4⟩, h5⟩ := h
    rw [ev_comp, ev_comp]
    refine OutR.bind (R := Rss) ?_ fun l l' o1 ok1 hl => OutR.ok (S.go ok1).feed ok1 ⟨by rw [hl.1], hl.2⟩
    refine (itC_r h3 S).bind fun s s' o1 ok1 hs => ?_
    unfold compD
    have S1 := S.go ok1
    have hs1 : RSrc (m.set 0 o1) s s' := hs.set
    rw [hs.1]
    exact (compGo_r h2 rfl (fun S => evalIfs_r h5 S) (fun S => stC_r h4 S) hs.2.1 hs1 (S1.wipe h1)).calm
  | .comp2 own elt t it ifs t1 it1 ifs1, e, p, m, o, h, S => by
    rw [stC] at h
    simp only [Bool.and_eq_true] at h
    obtain ⟨⟨⟨⟨⟨⟨⟨h1, h2⟩, h3⟩, h4⟩, h5⟩, h6⟩, h7⟩, h8⟩ := h
    rw [ev_comp2, ev_comp2]
    refine OutR.bind (R := Rss) ?_ fun l l' o1 ok1 hl => ?_
    · refine (itC_r h3 S).bind fun s s' o1 ok1 hs => ?_
      unfold comp2D
      have S1 := S.go ok1
      have hs1 : RSrc (m.set 0 o1) s s' := hs.set
      rw [hs.1]
      refine (compGoL_r h2 rfl (fun S => evalIfs_r h5 S) (fun S2 => ?_) hs.2.1 hs1 (S1.wipe h1)).calm
      refine (itC_r h7 S2).bind fun z z' o2 ok2 hz => ?_
      have S3 := S2.go ok2
      have hz1 := hz.set (o := o2)
      rw [hz.1]
      exact compGo_r h6 rfl (fun S => evalIfs_r h8 S) (fun S => stC_r h4 S) hz.2.1 hz1 (S3.wipe h6)
    · obtain ⟨rfl, u⟩ := hl
      unfold sizedL
      split
      · exact OutR.ok (S.go ok1).feed ok1 ⟨rfl, u⟩
      · trivial
  | .nev, e, p, m, o, h, S => by
    rw [ev_nev]
    trivial
  | .srtc own elt t it ifs, e, p, m, o, h, S => by
    rw [stC, Bool.and_eq_true, Bool.and_eq_true, Bool.and_eq_true, Bool.and_eq_true] at h
    obtain ⟨⟨⟨⟨h1, h2⟩, h3⟩, h4⟩, h5⟩ := h
    rw [ev_srtc, ev_srtc]
    refine OutR.bind (R := Rss) ?_ fun l l' o1 ok1 hl => ?_
    · refine (itC_r h3 S).bind fun s s' o1 ok1 hs => ?_
      unfold compD
      have S1 := S.go ok1
      have hs1 : RSrc (m.set 0 o1) s s' := hs.set
      rw [hs.1]
      exact (compGo_r h2 rfl (fun S => evalIfs_r h5 S) (fun S => stC_r h4 S) hs.2.1 hs1 (S1.wipe h1)).calm
    · obtain ⟨rfl, u⟩ := hl
      exact OutR.lift (S.go ok1).feed ok1 fun d hd => ⟨d, hd, rfl, srtuD_u hd⟩
  | .dcomp own k v t it ifs, e, p, m, o, h, S => by
    rw [stC] at h
    simp only [Bool.and_eq_true] at h
    obtain ⟨⟨⟨⟨⟨h1, h2⟩, h3⟩, h4⟩, h5⟩, h6⟩ := h
    rw [ev_dcomp, ev_dcomp]
    refine OutR.bind (R := fun a c : List (Key × D) => a = c ∧ Us (c.map (·.2))) ?_ fun l l' o1 ok1 hl => OutR.ok (S.go ok1).feed ok1 ⟨by rw [hl.1], show D.unders 1 (l'.map (·.2)) = true from hl.2⟩
    refine (itC_r h3 S).bind fun s s' o1 ok1 hs => ?_
    unfold dcompD
    have S1 := S.go ok1
    have hs1 : RSrc (m.set 0 o1) s s' := hs.set
    rw [hs.1]
    exact (dcGo_r h2 rfl (fun S => evalIfs_r h6 S) (fun S => stC_r h4 S) (fun S => stC_r h5 S) hs.2.1 rfl hs1 (S1.wipe h1)).calm
  | .lrg a c, e, p, m, o, h, S => by
    rw [stC, Bool.and_eq_true] at h
    rw [ev_lrg, ev_lrg]
    refine (stC_r h.1 S).bind fun x x' o1 ok1 hx => ?_
    obtain ⟨rfl, _⟩ := hx
    refine (stC_r h.2 (S.go ok1)).bind fun y y' o2 ok2 hy => ?_
    obtain ⟨rfl, _⟩ := hy
    refine OutR.lift ((S.go ok1).go ok2).feed ok2 fun d hd => ⟨d, hd, rfl, ?_⟩
    unfold lrgD at hd
    split at hd
    · split at hd <;> cases hd
      exact us_iff.mpr fun d hd => by obtain ⟨k, _, rfl⟩ := List.mem_map.mp hd; rfl
    · cases hd
  | .new _, _, _, _, _, h, _ => by simp [stC] at h
  | .dict _ _, _, _, _, _, h, _ => by simp [stC] at h
  | .rng _, _, _, _, _, h, _ => by simp [stC] at h
  | .rng2 _ _, _, _, _, _, h, _ => by simp [stC] at h
  | .zip _ _, _, _, _, _, h, _ => by simp [stC] at h
  | .enum _, _, _, _, _, h, _ => by simp [stC] at h
theorem trC_r : ∀ {c : C} {e p : Env} {m : Mem} {o : MO}, trC mu c = true → Sim mu b e p m o → OutR m (Rt m) (evalC Gp c p [o]) (evalC G c e m)
  | .var i, e, p, m, o, h, S => by
    rw [ev_var, ev_var]
    by_cases hi : mu.contains i = true
    · rcases S.own i hi with ⟨h1, h2⟩ | ⟨a, l, h1, h2, h3, h4, h5⟩
      · rw [h1, h2]; trivial
      · rw [h2, h4]
        have := S.b1
        exact OutR.lift S.feed S.ok fun d hd => by cases hd; exact ⟨_, rfl, .inr ⟨a, l, by omega, rfl, h3, rfl, h5⟩⟩
    · obtain ⟨h1, h2⟩ := S.oth i (by simpa using hi)
      rw [h1]
      exact OutR.lift S.feed S.ok fun d hd => ⟨d, hd, .inl ⟨rfl, h2 d hd⟩⟩
  | .ite t a c, e, p, m, o, h, S => by
    rw [trC, Bool.and_eq_true, Bool.and_eq_true] at h
    rw [ev_ite, ev_ite]
    refine (stC_r h.1.1 S).bind fun x x' o1 ok1 hx => ?_
    refine (asBl_r hx (S.go ok1).feed ok1).bind fun k k' o2 ok2 hk => ?_
    subst hk
    have S2 := (S.go ok1).go ok2
    cases k with
    | true => exact (trC_r h.1.2 S2).imp fun _ _ h => h.unset.unset
    | false => exact (trC_r h.2 S2).imp fun _ _ h => h.unset.unset
  | .con d, e, p, m, o, h, S => (stC_r (c := .con d) h S).imp fun _ _ h => h.rt
  | .tup l, e, p, m, o, h, S => (stC_r (c := .tup l) h S).imp fun _ _ h => h.rt
  | .lst l, e, p, m, o, h, S => (stC_r (c := .lst l) h S).imp fun _ _ h => h.rt
  | .bin op a c, e, p, m, o, h, S => (stC_r (c := .bin op a c) h S).imp fun _ _ h => h.rt
  | .neg a, e, p, m, o, h, S => (stC_r (c := .neg a) h S).imp fun _ _ h => h.rt
  | .cmp op a c, e, p, m, o, h, S => (stC_r (c := .cmp op a c) h S).imp fun _ _ h => h.rt
  | .chn o1 o2 a c k, e, p, m, o, h, S => (stC_r (c := .chn o1 o2 a c k) h S).imp fun _ _ h => h.rt
  | .and a c, e, p, m, o, h, S => (stC_r (c := .and a c) h S).imp fun _ _ h => h.rt
  | .or a c, e, p, m, o, h, S => (stC_r (c := .or a c) h S).imp fun _ _ h => h.rt
  | .not a, e, p, m, o, h, S => (stC_r (c := .not a) h S).imp fun _ _ h => h.rt
  | .sub a i, e, p, m, o, h, S => (stC_r (c := .sub a i) h S).imp fun _ _ h => h.rt
  | .cut a i j, e, p, m, o, h, S => (stC_r (c := .cut a i j) h S).imp fun _ _ h => h.rt
  | .rev a, e, p, m, o, h, S => (stC_r (c := .rev a) h S).imp fun _ _ h => h.rt
  | .call f l, e, p, m, o, h, S => (stC_r (c := .call f l) h S).imp fun _ _ h => h.rt
  | .callk f np l ix kw df, e, p, m, o, h, S => (stC_r (c := .callk f np l ix kw df) h S).imp fun _ _ h => h.rt
  | .calv i l, e, p, m, o, h, S => (stC_r (c := .calv i l) h S).imp fun _ _ h => h.rt
  | .bi f l, e, p, m, o, h, S => (stC_r (c := .bi f l) h S).imp fun _ _ h => h.rt
  | .mt me x l, e, p, m, o, h, S => (stC_r (c := .mt me x l) h S).imp fun _ _ h => h.rt
  | .srtR a, e, p, m, o, h, S => (stC_r (c := .srtR a) h S).imp fun _ _ h => h.rt
  | .comp own elt t it ifs, e, p, m, o, h, S => (stC_r (c := .comp own elt t it ifs) h S).imp fun _ _ h => h.rt
  | .comp2 own elt t it ifs t1 it1 ifs1, e, p, m, o, h, S => (stC_r (c := .comp2 own elt t it ifs t1 it1 ifs1) h S).imp fun _ _ h => h.rt
  | .srtc own elt t it ifs, e, p, m, o, h, S => (stC_r (c := .srtc own elt t it ifs) h S).imp fun _ _ h => h.rt
  | .nev, e, p, m, o, h, S => (stC_r (c := .nev) h S).imp fun _ _ h => h.rt
  | .dcomp own k v t it ifs, e, p, m, o, h, S => (stC_r (c := .dcomp own k v t it ifs) h S).imp fun _ _ h => h.rt
  | .lrg a c, e, p, m, o, h, S => (stC_r (c := .lrg a c) h S).imp fun _ _ h => h.rt
  | .new _, _, _, _, _, h, _ => by simp [trC] at h
  | .dict _ _, _, _, _, _, h, _ => by simp [trC] at h
  | .rng _, _, _, _, _, h, _ => by simp [trC] at h
  | .rng2 _ _, _, _, _, _, h, _ => by simp [trC] at h
  | .zip _ _, _, _, _, _, h, _ => by simp [trC] at h
  | .enum _, _, _, _, _, h, _ => by simp [trC] at h
theorem stCs_r : ∀ {l : Cs} {e p : Env} {m : Mem} {o : MO}, stCs mu l = true → Sim mu b e p m o → OutR m Rss (evalCs Gp l p [o]) (evalCs G l e m)
  | .nil, e, p, m, o, h, S => by rw [evs_nil, evs_nil]; exact OutR.ok S.feed S.ok ⟨rfl, rfl⟩
  | .cons c l, e, p, m, o, h, S => by
    rw [stCs, Bool.and_eq_true] at h
    rw [evs_cons, evs_cons]
    refine (stC_r h.1 S).bind fun x x' o1 ok1 hx => ?_
    refine (stCs_r h.2 (S.go ok1)).bind fun y y' o2 ok2 hy => ?_
    obtain ⟨rfl, u1⟩ := hx
    obtain ⟨rfl, u2⟩ := hy
    exact OutR.ok ((S.go ok1).go ok2).feed ok2 ⟨rfl, by rw [Us, D.unders, u1, u2]; rfl⟩
theorem trCs_r : ∀ {l : Cs} {e p : Env} {m : Mem} {o : MO}, trCs mu l = true → Sim mu b e p m o → OutR m (Rts m) (evalCs Gp l p [o]) (evalCs G l e m)
  | .nil, e, p, m, o, h, S => by rw [evs_nil, evs_nil]; exact OutR.ok S.feed S.ok .nil
  | .cons c l, e, p, m, o, h, S => by
    rw [trCs, Bool.and_eq_true] at h
    rw [evs_cons, evs_cons]
    refine (trC_r h.1 S).bind fun x x' o1 ok1 hx => ?_
    refine (trCs_r h.2 (S.go ok1)).bind fun y y' o2 ok2 hy => ?_
    exact OutR.ok ((S.go ok1).go ok2).feed ok2 (.cons hx hy.unset)
theorem stCo_r : ∀ {c : Co} {e p : Env} {m : Mem} {o : MO}, stCo mu c = true → Sim mu b e p m o → OutR m (fun a b : Option Int => a = b) (evalCo Gp c p [o]) (evalCo G c e m)
  | .none, e, p, m, o, h, S => by rw [evo_none, evo_none]; exact OutR.ok S.feed S.ok rfl
  | .some c, e, p, m, o, h, S => by
    rw [stCo] at h
    rw [evo_some, evo_some]
    refine (stC_r h S).bind fun x x' o1 ok1 hx => ?_
    obtain ⟨rfl, u⟩ := hx
    unfold asIx
    split
    · exact OutR.ok (S.go ok1).feed ok1 rfl
    · trivial
theorem evalIfs_r : ∀ {l : Cs} {e p : Env} {m : Mem} {o : MO}, stCs mu l = true → Sim mu b e p m o → OutR m (fun a b : Bool => a = b) (evalIfs Gp l p [o]) (evalIfs G l e m)
  | .nil, e, p, m, o, h, S => by rw [evf_nil, evf_nil]; exact OutR.ok S.feed S.ok rfl
  | .cons c l, e, p, m, o, h, S => by
    rw [stCs, Bool.and_eq_true] at h
    rw [evf_cons, evf_cons]
    refine (stC_r h.1 S).bind fun x x' o1 ok1 hx => ?_
    refine (asBl_r hx (S.go ok1).feed ok1).bind fun k k' o2 ok2 hk => ?_
    subst hk
    have S2 := (S.go ok1).go ok2
    cases k with
    | true => exact evalIfs_r h.2 S2
    | false => exact OutR.ok S2.feed ok2 rfl
theorem itC_r : ∀ {c : C} {e p : Env} {m : Mem} {o : MO}, itC mu c = true → Sim mu b e p m o → OutR m (RSrc m) (evalIt Gp c p [o]) (evalIt G c e m)
  | .rng a, e, p, m, o, h, S => by
    rw [itC] at h
    rw [evi_rng, evi_rng]
    refine (stC_r h S).bind fun x x' o1 ok1 hx => ?_
    obtain ⟨rfl, u⟩ := hx
    cases hr : rngS x [o1] with
    | bad => trivial
    | exc _ _ => exact (rngS_nex hr).elim
    | ok s M =>
      obtain ⟨rfl, u2, u3, u4⟩ := rngS_u hr
      rw [u4]
      exact OutR.ok (S.go ok1).feed ok1 ⟨rfl, u2, u3, .inl u3⟩
  | .rng2 a c, e, p, m, o, h, S => by
    rw [itC, Bool.and_eq_true] at h
    rw [evi_rng2, evi_rng2]
    refine (stC_r h.1 S).bind fun x x' o1 ok1 hx => ?_
    obtain ⟨rfl, u⟩ := hx
    refine (stC_r h.2 (S.go ok1)).bind fun y y' o2 ok2 hy => ?_
    obtain ⟨rfl, _⟩ := hy
    cases hr : rng2S x y [o2] with
    | bad => trivial
    | exc _ _ => exact (rng2S_nex hr).elim
    | ok s M =>
      obtain ⟨rfl, u2, u3, u4⟩ := rng2S_u hr
      rw [u4]
      exact OutR.ok ((S.go ok1).go ok2).feed ok2 ⟨rfl, u2, u3, .inl u3⟩
  | .zip a c, e, p, m, o, h, S => by
    rw [itC, Bool.and_eq_true] at h
    rw [evi_zip, evi_zip]
    refine (stC_r h.1 S).bind fun x x' o1 ok1 hx => ?_
    obtain ⟨rfl, u⟩ := hx
    refine (stC_r h.2 (S.go ok1)).bind fun y y' o2 ok2 hy => ?_
    obtain ⟨rfl, u2⟩ := hy
    refine OutR.lift ((S.go ok1).go ok2).feed ok2 fun s hs => ⟨s, hs, rfl, (zipS_u hs u u2).1, (zipS_u hs u u2).2, .inl (zipS_u hs u u2).2⟩
  | .enum a, e, p, m, o, h, S => by
    rw [itC] at h
    rw [evi_enum, evi_enum]
    refine (stC_r h S).bind fun x x' o1 ok1 hx => ?_
    obtain ⟨rfl, u⟩ := hx
    exact OutR.lift (S.go ok1).feed ok1 fun s hs => ⟨s, hs, rfl, (enumS_u hs u).1, (enumS_u hs u).2, .inl (enumS_u hs u).2⟩
  | .var i, e, p, m, o, h, S => plain_r rfl rfl rfl S (trC_r (c := .var i) (by rw [trC]) S)
  | .ite t a c, e, p, m, o, h, S => plain_r rfl rfl rfl S (trC_r (c := .ite t a c) (by rw [trC]; rwa [itC] at h) S)
  | .con d, e, p, m, o, h, S => plain_r rfl rfl rfl S (trC_r (c := .con d) (by rw [trC]; rwa [itC] at h) S)
  | .tup l, e, p, m, o, h, S => plain_r rfl rfl rfl S (trC_r (c := .tup l) (by rw [trC]; rwa [itC] at h) S)
  | .lst l, e, p, m, o, h, S => plain_r rfl rfl rfl S (trC_r (c := .lst l) (by rw [trC]; rwa [itC] at h) S)
  | .bin op a c, e, p, m, o, h, S => plain_r rfl rfl rfl S (trC_r (c := .bin op a c) (by rw [trC]; rwa [itC] at h) S)
  | .sub a i, e, p, m, o, h, S => plain_r rfl rfl rfl S (trC_r (c := .sub a i) (by rw [trC]; rwa [itC] at h) S)
  | .cut a i j, e, p, m, o, h, S => plain_r rfl rfl rfl S (trC_r (c := .cut a i j) (by rw [trC]; rwa [itC] at h) S)
  | .rev a, e, p, m, o, h, S => plain_r rfl rfl rfl S (trC_r (c := .rev a) (by rw [trC]; rwa [itC] at h) S)
  | .call f l, e, p, m, o, h, S => plain_r rfl rfl rfl S (trC_r (c := .call f l) (by rw [trC]; rwa [itC] at h) S)
  | .callk f np l ix kw df, e, p, m, o, h, S => plain_r rfl rfl rfl S (trC_r (c := .callk f np l ix kw df) (by rw [trC]; rwa [itC] at h) S)
  | .calv i l, e, p, m, o, h, S => plain_r rfl rfl rfl S (trC_r (c := .calv i l) (by rw [trC]; rwa [itC] at h) S)
  | .bi f l, e, p, m, o, h, S => plain_r rfl rfl rfl S (trC_r (c := .bi f l) (by rw [trC]; rwa [itC] at h) S)
  | .srtR a, e, p, m, o, h, S => plain_r rfl rfl rfl S (trC_r (c := .srtR a) (by rw [trC]; rwa [itC] at h) S)
  | .comp own elt t it ifs, e, p, m, o, h, S => plain_r rfl rfl rfl S (trC_r (c := .comp own elt t it ifs) (by rw [trC]; rwa [itC] at h) S)
  | .srtc own elt t it ifs, e, p, m, o, h, S => plain_r rfl rfl rfl S (trC_r (c := .srtc own elt t it ifs) (by rw [trC]; rwa [itC] at h) S)
  | .nev, _, _, _, _, h, _ => by simp [itC] at h
  | .comp2 own elt t it ifs t1 it1 ifs1, e, p, m, o, h, S => plain_r rfl rfl rfl S (trC_r (c := .comp2 own elt t it ifs t1 it1 ifs1) (by rw [trC]; rwa [itC] at h) S)
  | .lrg a c, e, p, m, o, h, S => plain_r rfl rfl rfl S (trC_r (c := .lrg a c) (by rw [trC]; rwa [itC] at h) S)
  | .dcomp _ _ _ _ _ _, _, _, _, _, h, _ => by simp [itC] at h
  | .new _, _, _, _, _, h, _ => by simp [itC] at h
  | .dict _ _, _, _, _, _, h, _ => by simp [itC] at h
  | .neg _, _, _, _, _, h, _ => by simp [itC] at h
  | .cmp _ _ _, _, _, _, _, h, _ => by simp [itC] at h
  | .chn _ _ _ _ _, _, _, _, _, h, _ => by simp [itC] at h
  | .and _ _, _, _, _, _, h, _ => by simp [itC] at h
  | .or _ _, _, _, _, _, h, _ => by simp [itC] at h
  | .not _, _, _, _, _, h, _ => by simp [itC] at h
  | .mt _ _ _, _, _, _, _, h, _ => by simp [itC] at h
end
end
end Z
set_option maxHeartbeats 4000000
/-! ZX: code whose lists of one's own stand as values: statements (plain Lean). -/
namespace Z
open PySem
/-- code that comes to a list, whatever it comes to -/
def lstC : C → Bool
  | .lst _ => true
  | .comp _ _ _ _ _ => true
  | .comp2 _ _ _ _ _ _ _ _ => true
  | .bi .list _ => true
  | .bi .sorted _ => true
  | .srtR _ => true
  | .bin .Add (.lst _) _ => true
  | .bin .Add _ (.lst _) => true
  | .bin .Mult (.lst _) _ => true
  | _ => false
/-- a new list as a value -/
def purN (c : C) : C := if lstC c then c else .bin .Add c (.lst .nil)
def purCs : Cs → Cs
  | .nil => .nil
  | .cons (.new c) l => .cons (purN c) (purCs l)
  | .cons c l => .cons c (purCs l)
mutual
def purS : S → S
  | .drop (.mt me (.var i) l) => if me.mild then .drop (.mt me (.var i) l) else .meth none i me l
  | .set x (.mt me (.var i) l) => if me.mild then .set x (.mt me (.var i) l) else .meth (some x) i me l
  | .set i (.new c) => .set i (purN c)
  | .par is cs => .par is (purCs cs)
  | .app i c => .set i (.bin .Add (.var i) (.lst (.cons c .nil)))
  | .ite t a b => .ite t (purSs a) (purSs b)
  | .for_ t it b => .for_ t it (purSs b)
  | .while_ t b => .while_ t (purSs b)
  | s => s
def purSs : Ss → Ss
  | .nil => .nil
  | .cons s l => .cons (purS s) (purSs l)
end
def stI (mu : List Nat) : C → Bool
  | .var i => !mu.contains i
  | .ite t a b => stC mu t && stC mu a && stC mu b
  | c => itC mu c
def parOk (mu : List Nat) : List Nat → Cs → Bool
  | [], .nil => true
  | i :: is, .cons (.new c) l => mu.contains i && stC mu c && parOk mu is l
  | i :: is, .cons c l => !mu.contains i && stC mu c && parOk mu is l
  | _, _ => false
def ndB : List Nat → Bool
  | [] => true
  | i :: is => !is.contains i && ndB is
mutual
/-- md: the own lists that this may change -/
def okS (mu md : List Nat) : S → Bool
  | .drop (.mt me (.var i) l) => if me.mild then trC mu (.mt me (.var i) l) else mu.contains i && md.contains i && (if me == .extend then trCs mu l else stCs mu l)
  | .set x (.mt me (.var i) l) => if me.mild then !mu.contains x && trC mu (.mt me (.var i) l) else mu.contains i && md.contains i && !mu.contains x && (if me == .extend then trCs mu l else stCs mu l)
  | .set i (.new c) => mu.contains i && stC mu c
  | .drop c => trC mu c
  | .set i c => !mu.contains i && stC mu c
  | .unp t c => djB mu t.ixs && stC mu c
  | .par is cs => ndB is && parOk mu is cs
  | .aug _ i c => !mu.contains i && stC mu c
  | .put o k v => stC mu o && stC mu k && stC mu v
  | .app i c => mu.contains i && md.contains i && stC mu c
  | .ret (.var _) => true
  | .ret c => stC mu c
  | .retN => true
  | .ite t a b => stC mu t && okSs mu md a && okSs mu md b
  | .for_ t (.var i) b => djB mu t.ixs && (if mu.contains i then okSs mu (md.filter (· != i)) b else okSs mu md b)
  | .for_ t it b => djB mu t.ixs && stI mu it && okSs mu md b
  | .while_ t b => stC mu t && okSs mu md b
  | .brk => true
  | .cont => true
  | .pass => true
  | .meth _ _ _ _ => false
  | .mv i j => i != j && mu.contains i && mu.contains j && md.contains j
  | .nev => true
  | .unpS l c => djB mu l.ixs && stC mu c
def okSs (mu md : List Nat) : Ss → Bool
  | .nil => true
  | .cons s l => okS mu md s && okSs mu md l
end
/-- from e m on to e' m': own lists of md alone are changed -/
structure Stp (mu md : List Nat) (e : Env) (m : Mem) (e' : Env) (m' : Mem) : Prop where
  len : m.length ≤ m'.length
  ad : ∀ i, mu.contains i = true → e'.getD i none = e.getD i none ∨ e'.getD i none = none ∨ (∃ a, m.length ≤ a ∧ e'.getD i none = some (.loc a)) ∨ ∃ j, mu.contains j = true ∧ md.contains j = true ∧ e'.getD i none = e.getD j none
  keep : ∀ a, 1 ≤ a → a < m.length → (∀ i, mu.contains i = true → md.contains i = true → e.getD i none ≠ some (.loc a)) → m'[a]? = m[a]?
variable {mu md : List Nat} {b : Nat} {e e1 e2 p : Env} {m m' m1 m2 : Mem} {o o' : MO} {G Gp : Sg}
theorem Stp.refl : Stp mu md e m e m := ⟨Nat.le_refl _, fun _ _ => .inl rfl, fun _ _ _ _ => rfl⟩
theorem Stp.trans (x : Stp mu md e m e1 m1) (y : Stp mu md e1 m1 e2 m2) : Stp mu md e m e2 m2 := by
  refine ⟨Nat.le_trans x.len y.len, fun i hi => ?_, fun a h1 h2 h3 => ?_⟩
  · rcases y.ad i hi with h | h | ⟨a, h1, h2⟩ | ⟨j, hj, hm, h⟩
    · rw [h]; exact x.ad i hi
    · exact .inr (.inl h)
    · exact .inr (.inr (.inl ⟨a, Nat.le_trans x.len h1, h2⟩))
    · rw [h]
      rcases x.ad j hj with h | h | h | h
      · exact .inr (.inr (.inr ⟨j, hj, hm, h⟩))
      · exact .inr (.inl h)
      · exact .inr (.inr (.inl h))
      · exact .inr (.inr (.inr h))
  · refine (y.keep a h1 (Nat.lt_of_lt_of_le h2 x.len) fun i hi hm => ?_).trans (x.keep a h1 h2 h3)
    rcases x.ad i hi with h | h | ⟨a', h4, h5⟩ | ⟨j, hj, hm', h⟩
    · rw [h]; exact h3 i hi hm
    · rw [h]; exact fun z => nomatch z
    · rw [h5]; intro z; cases z; omega
    · rw [h]; exact h3 j hj hm'
theorem Stp.feed (o : MO) : Stp mu md e m e (m.set 0 o) := ⟨by rw [List.length_set]; exact Nat.le_refl _, fun _ _ => .inl rfl, fun a h1 _ _ => by rw [List.getElem?_set_ne (by omega)]⟩
theorem Stp.mono {md2 : List Nat} (x : Stp mu md e m e1 m1) (h : ∀ i, md.contains i = true → md2.contains i = true) : Stp mu md2 e m e1 m1 := ⟨x.len, fun i hi => (x.ad i hi).imp_right fun q => q.imp_right fun q => q.imp_right fun ⟨j, h1, h2, h3⟩ => ⟨j, h1, h j h2, h3⟩, fun a h1 h2 h3 => x.keep a h1 h2 fun i hi hm => h3 i hi (h i hm)⟩
/-- how code ends here, from how it ends there -/
def FlR (mu md : List Nat) (b : Nat) (e : Env) (m : Mem) : Fl → Fl → Prop
  | .bad, _ => True
  | .nx p μ, r => ∃ o' e' m', μ = [o'] ∧ r = .nx e' m' ∧ Sim mu b e' p m' o' ∧ Stp mu md e m e' m'
  | .bk p μ, r => ∃ o' e' m', μ = [o'] ∧ r = .bk e' m' ∧ Sim mu b e' p m' o' ∧ Stp mu md e m e' m'
  | .ct p μ, r => ∃ o' e' m', μ = [o'] ∧ r = .ct e' m' ∧ Sim mu b e' p m' o' ∧ Stp mu md e m e' m'
  | .rt d' μ, r => ∃ o' d m' e', μ = [o'] ∧ r = .rt d m' ∧ OkO o' ∧ m'[0]? = some o' ∧ ((d = d' ∧ U d') ∨ ∃ a l, b ≤ a ∧ d = .loc a ∧ m'[a]? = some (.lst l) ∧ d' = .lst l ∧ Us l) ∧ Stp mu md e m e' m'
  | .exc x p μ, r => ∃ o' m' e' e2, μ = [o'] ∧ r = .exc x e2 m' ∧ OkO o' ∧ m'[0]? = some o' ∧ Us x.fs ∧ Stp mu md e m e' m'
theorem FlR.pre {f' f : Fl} (x : Stp mu md e m e1 m1) (h : FlR mu md b e1 m1 f' f) : FlR mu md b e m f' f := by
  cases f' with
  | bad => trivial
  | nx p μ => obtain ⟨o', e', m', h1, h2, h3, h4⟩ := h; exact ⟨o', e', m', h1, h2, h3, x.trans h4⟩
  | bk p μ => obtain ⟨o', e', m', h1, h2, h3, h4⟩ := h; exact ⟨o', e', m', h1, h2, h3, x.trans h4⟩
  | ct p μ => obtain ⟨o', e', m', h1, h2, h3, h4⟩ := h; exact ⟨o', e', m', h1, h2, h3, x.trans h4⟩
  | rt p μ => obtain ⟨o', d, m', e', h1, h2, h3, h4, h5, h6⟩ := h; exact ⟨o', d, m', e', h1, h2, h3, h4, h5, x.trans h6⟩
  | exc y p μ => obtain ⟨o', m', e', e2, h1, h2, h3, h4, h5, h6⟩ := h; exact ⟨o', m', e', e2, h1, h2, h3, h4, h5, x.trans h6⟩
theorem FlR.mono {md2 : List Nat} {f' f : Fl} (hm : ∀ i, md.contains i = true → md2.contains i = true) (h : FlR mu md b e m f' f) : FlR mu md2 b e m f' f := by
  cases f' with
  | bad => trivial
  | nx p μ => obtain ⟨o', e', m', h1, h2, h3, h4⟩ := h; exact ⟨o', e', m', h1, h2, h3, h4.mono hm⟩
  | bk p μ => obtain ⟨o', e', m', h1, h2, h3, h4⟩ := h; exact ⟨o', e', m', h1, h2, h3, h4.mono hm⟩
  | ct p μ => obtain ⟨o', e', m', h1, h2, h3, h4⟩ := h; exact ⟨o', e', m', h1, h2, h3, h4.mono hm⟩
  | rt p μ => obtain ⟨o', d, m', e', h1, h2, h3, h4, h5, h6⟩ := h; exact ⟨o', d, m', e', h1, h2, h3, h4, h5, h6.mono hm⟩
  | exc y p μ => obtain ⟨o', m', e', e2, h1, h2, h3, h4, h5, h6⟩ := h; exact ⟨o', m', e', e2, h1, h2, h3, h4, h5, h6.mono hm⟩
theorem FlR.andThen {f' f : Fl} {k' k : Env → Mem → Fl} (h : FlR mu md b e m f' f) (hk : ∀ p1 e1 m1 o1, Sim mu b e1 p1 m1 o1 → FlR mu md b e1 m1 (k' p1 [o1]) (k e1 m1)) : FlR mu md b e m (f'.andThen k') (f.andThen k) := by
  cases f' with
  | bad => trivial
  | nx p μ => obtain ⟨o', e', m', rfl, rfl, h3, h4⟩ := h; exact FlR.pre h4 (hk _ _ _ _ h3)
  | bk p μ => obtain ⟨o', e', m', rfl, rfl, h3, h4⟩ := h; exact ⟨o', e', m', rfl, rfl, h3, h4⟩
  | ct p μ => obtain ⟨o', e', m', rfl, rfl, h3, h4⟩ := h; exact ⟨o', e', m', rfl, rfl, h3, h4⟩
  | rt p μ => obtain ⟨o', d, m', e', rfl, rfl, h⟩ := h; exact ⟨o', d, m', e', rfl, rfl, h⟩
  | exc y p μ => obtain ⟨o', m', e', e2, rfl, rfl, h⟩ := h; exact ⟨o', m', e', e2, rfl, rfl, h⟩
theorem OutR.fl {α : Type} {R : α → α → Prop} {po ro : Out α} {k' k : α → Mem → Fl} {p : Env} (S : Sim mu b e p m o) (h : OutR m R po ro) (hk : ∀ d d' o1, OkO o1 → Sim mu b e p (m.set 0 o1) o1 → R d d' → FlR mu md b e (m.set 0 o1) (k' d' [o1]) (k d (m.set 0 o1))) : FlR mu md b e m (po.fl p k') (ro.fl e k) := by
  cases po with
  | bad => trivial
  | exc x μ =>
    obtain ⟨o', rfl, h2, rfl, h4⟩ := h
    exact ⟨o', _, e, e, rfl, rfl, h2, (S.go h2).feed, h4, Stp.feed o'⟩
  | ok d' μ =>
    obtain ⟨o', d, rfl, h2, rfl, h4⟩ := h
    exact FlR.pre (Stp.feed o') (hk d d' o' h2 (S.go h2) h4)
theorem FlR.nx {p : Env} (S : Sim mu b e p m o) : FlR mu md b e m (.nx p [o]) (.nx e m) := ⟨o, e, m, rfl, rfl, S, Stp.refl⟩
theorem contains_iff {l : List Nat} {i : Nat} : l.contains i = true ↔ i ∈ l := List.contains_iff_mem
theorem gd_ne {E : Env} {i j : Nat} {x : Option D} (h : i ≠ j) : (E.set i x).getD j none = E.getD j none := by rw [List.getD_eq_getElem?_getD, List.getD_eq_getElem?_getD, List.getElem?_set_ne h]
theorem gd_self {E : Env} {i : Nat} {x : Option D} (h : i < E.length) : (E.set i x).getD i none = x := by rw [List.getD_eq_getElem?_getD, List.getElem?_set_self h]; rfl
theorem gd_out {E : Env} {i : Nat} {x : Option D} (h : E.length ≤ i) : (E.set i x).getD i none = none := by rw [List.getD_eq_getElem?_getD, List.getElem?_eq_none (by rw [List.length_set]; exact h)]; rfl
/-- a slot of no own list is given a value -/
theorem Sim.put (S : Sim mu b e p m o) {i : Nat} {d : D} (h : mu.contains i = false) (u : U d) : Sim mu b (e.set i (some d)) (p.set i (some d)) m o := by
  obtain ⟨e', h1, h2⟩ := T.bind_sim (t := .nm i) (by unfold djB; rw [T.ixs]; simpa using h) u S (by rw [T.bind])
  rw [T.bind] at h1
  cases h1
  exact h2
theorem Stp.put {i : Nat} {x : Option D} (h : mu.contains i = false) : Stp mu md e m (e.set i x) m := ⟨Nat.le_refl _, fun j hj => .inl (gd_ne fun z => by subst z; rw [h] at hj; cases hj), fun _ _ _ _ => rfl⟩
/-- a new own list -/
theorem Sim.new (S : Sim mu b e p m o) {i : Nat} {l : List D} (h : mu.contains i = true) (u : Us l) : Sim mu b (e.set i (some (.loc m.length))) (p.set i (some (.lst l))) (m ++ [.lst l]) o ∧ Stp mu md e m (e.set i (some (.loc m.length))) (m ++ [.lst l]) := by
  have hf : 0 < m.length := (List.getElem?_eq_some_iff.mp S.feed).1
  have old : ∀ {a : Nat} {x : MO}, m[a]? = some x → (m ++ [MO.lst l])[a]? = some x := fun {a x} h => by
    rw [List.getElem?_append_left (List.getElem?_eq_some_iff.mp h).1]; exact h
  have lt : ∀ {a : Nat} {x : MO}, m[a]? = some x → a < m.length := fun h => (List.getElem?_eq_some_iff.mp h).1
  refine ⟨⟨old S.feed, S.ok, S.b1, by rw [List.length_append]; exact Nat.le_trans S.bl (Nat.le_add_right _ _), by rw [List.length_set, List.length_set, S.len], fun j hj => ?_, fun j k hjk hj hk => ?_, fun j hj => ?_⟩, ⟨by rw [List.length_append]; omega, fun j hj => ?_, fun a h1 h2 h3 => by rw [List.getElem?_append_left h2]⟩⟩
  · by_cases hij : i = j
    · subst hij
      by_cases hl : i < e.length
      · rw [gd_self hl, gd_self (by rw [← S.len]; exact hl)]
        exact .inr ⟨m.length, l, S.bl, rfl, by rw [List.getElem?_append_right (Nat.le_refl _)]; simp, rfl, u⟩
      · rw [gd_out (by omega), gd_out (by rw [← S.len]; omega)]
        exact .inl ⟨rfl, rfl⟩
    · rw [gd_ne hij, gd_ne hij]
      rcases S.own j hj with h | ⟨a, l, h1, h2, h3, h4⟩
      · exact .inl h
      · exact .inr ⟨a, l, h1, h2, old h3, h4⟩
  · have fresh : ∀ {q : Nat}, mu.contains q = true → e.getD q none ≠ some (.loc m.length) := fun {q} hq z => by
      rcases S.own q hq with h | ⟨a, l, h1, h2, h3, h4⟩
      · rw [h.1] at z; cases z
      · rw [h2] at z; cases z; exact absurd (lt h3) (Nat.lt_irrefl _)
    by_cases hij : i = j
    · subst hij
      rw [gd_ne hjk]
      by_cases hl : i < e.length
      · rw [gd_self hl]
        exact .inr fun z => fresh hk z.symm
      · rw [gd_out (by omega)]; exact .inl rfl
    · rw [gd_ne hij]
      by_cases hik : i = k
      · subst hik
        by_cases hl : i < e.length
        · rw [gd_self hl]; exact .inr (fresh hj)
        · rw [gd_out (by omega)]
          rcases S.own j hj with h | ⟨a, l, h1, h2, _⟩
          · exact .inl h.1
          · rw [h2]; exact .inr fun z => nomatch z
      · rw [gd_ne hik]; exact S.dj j k hjk hj hk
  · rw [gd_ne (fun z => by subst z; rw [h] at hj; cases hj), gd_ne (fun z => by subst z; rw [h] at hj; cases hj)]
    exact S.oth j hj
  · by_cases hij : i = j
    · subst hij
      by_cases hl : i < e.length
      · exact .inr (.inr (.inl ⟨m.length, Nat.le_refl _, gd_self hl⟩))
      · exact .inr (.inl (gd_out (by omega)))
    · exact .inl (gd_ne hij)
/-- an own list handed on -/
theorem Sim.mv (S : Sim mu b e p m o) {i j : Nat} (hij : i ≠ j) (hi : mu.contains i = true) (hj : mu.contains j = true) (hm : md.contains j = true) {d : D} (hp : p.getD j none = some d) :
    ∃ a, e.getD j none = some (.loc a) ∧ Sim mu b ((e.set i (some (.loc a))).set j none) ((p.set i (some d)).set j none) m o ∧ Stp mu md e m ((e.set i (some (.loc a))).set j none) m := by
  rcases S.own j hj with z | ⟨a, l, h1, h2, h3, h4, h5⟩
  · rw [z.2] at hp; cases hp
  rw [h4] at hp
  cases hp
  have zj : ∀ (E : Env), (E.set j none).getD j none = none := fun E => by
    by_cases hl : j < E.length
    · exact gd_self hl
    · exact gd_out (by omega)
  have hc : ∀ k, mu.contains k = true → k ≠ j → ((e.set i (some (.loc a))).set j none).getD k none = none ∨ ∃ q, mu.contains q = true ∧ ((e.set i (some (.loc a))).set j none).getD k none = e.getD q none ∧ (q = if k = i then j else k) := fun k hk hkj => by
    rw [gd_ne (Ne.symm hkj)]
    by_cases hki : i = k
    · subst hki
      by_cases hl : i < e.length
      · exact .inr ⟨j, hj, by rw [gd_self hl, h2], by rw [if_pos rfl]⟩
      · exact .inl (gd_out (by omega))
    · exact .inr ⟨k, hk, gd_ne hki, by rw [if_neg (Ne.symm hki)]⟩
  refine ⟨a, h2, ⟨S.feed, S.ok, S.b1, S.bl, by simp only [List.length_set]; exact S.len, fun k hk => ?_, fun k q hkq hk hq => ?_, fun k hk => ?_⟩, ⟨Nat.le_refl _, fun k hk => ?_, fun _ _ _ _ => rfl⟩⟩
  · by_cases hkj : j = k
    · subst hkj; exact .inl ⟨zj _, zj _⟩
    · rw [gd_ne hkj, gd_ne hkj]
      by_cases hki : i = k
      · subst hki
        by_cases hl : i < e.length
        · rw [gd_self hl, gd_self (by rw [← S.len]; exact hl)]; exact .inr ⟨a, l, h1, rfl, h3, rfl, h5⟩
        · rw [gd_out (by omega), gd_out (by rw [← S.len]; omega)]; exact .inl ⟨rfl, rfl⟩
      · rw [gd_ne hki, gd_ne hki]; exact S.own k hk
  · by_cases hkj : k = j
    · subst hkj; exact .inl (zj _)
    · by_cases hqj : q = j
      · subst hqj
        rcases hc k hk hkj with z | ⟨r, hr, z, _⟩
        · exact .inl z
        · rw [z, zj]
          rcases S.own r hr with y | ⟨a', l', y1, y2, _⟩
          · exact .inl y.1
          · rw [y2]; exact .inr fun z => nomatch z
      · rcases hc k hk hkj with z | ⟨r, hr, z, er⟩
        · exact .inl z
        · rcases hc q hq hqj with y | ⟨s, hs, y, es⟩
          · rw [y, z]
            rcases S.own r hr with y | ⟨a', l', y1, y2, _⟩
            · exact .inl y.1
            · rw [y2]; exact .inr fun z => nomatch z
          · rw [z, y]
            refine S.dj r s ?_ hr hs
            rw [er, es]
            by_cases h1 : k = i
            · rw [if_pos h1, if_neg (fun z => hkq (h1.trans z.symm))]; exact fun z => hqj z.symm
            · rw [if_neg h1]
              by_cases h2 : q = i
              · rw [if_pos h2]; exact hkj
              · rw [if_neg h2]; exact hkq
  · have e1 : i ≠ k := fun z => by subst z; rw [hi] at hk; cases hk
    have e2 : j ≠ k := fun z => by subst z; rw [hj] at hk; cases hk
    rw [gd_ne e2, gd_ne e1, gd_ne e2, gd_ne e1]; exact S.oth k hk
  · by_cases hkj : k = j
    · subst hkj; exact .inr (.inl (zj _))
    · rcases hc k hk hkj with z | ⟨r, hr, z, er⟩
      · exact .inr (.inl z)
      · by_cases h1 : k = i
        · rw [if_pos h1] at er; subst er; exact .inr (.inr (.inr ⟨r, hj, hm, z⟩))
        · rw [if_neg h1] at er; subst er; exact .inl z
mutual
theorem T.bind_own : ∀ {t : T} {d : D} {e e' : Env}, djB mu t.ixs = true → t.bind d e = some e' → ∀ j, mu.contains j = true → e'.getD j none = e.getD j none
  | .nm i, d, e, e', hd, h, j, hj => by
    rw [T.bind] at h
    cases h
    have ni : mu.contains i = false := by unfold djB at hd; rw [T.ixs] at hd; simpa using hd
    exact gd_ne fun z => by subst z; rw [ni] at hj; cases hj
  | .tp l, d, e, e', hd, h, j, hj => by
    cases d with
    | tup ds => rw [T.bind] at h; exact Ts.bind_own (by rwa [T.ixs] at hd) h j hj
    | _ => simp [T.bind] at h
theorem Ts.bind_own : ∀ {t : Ts} {d : List D} {e e' : Env}, djB mu t.ixs = true → t.bind d e = some e' → ∀ j, mu.contains j = true → e'.getD j none = e.getD j none
  | .nil, d, e, e', hd, h, j, hj => by
    cases d with
    | nil => rw [Ts.bind] at h; cases h; rfl
    | cons x xs => simp [Ts.bind] at h
  | .cons t l, d, e, e', hd, h, j, hj => by
    cases d with
    | nil => simp [Ts.bind] at h
    | cons x xs =>
      rw [Ts.bind] at h
      rw [Ts.ixs] at hd
      unfold djB at hd
      rw [List.all_append, Bool.and_eq_true] at hd
      split at h
      · rename_i e1 h1
        exact (Ts.bind_own hd.2 h j hj).trans (T.bind_own hd.1 h1 j hj)
      · cases h
end
/-- an own list is changed -/
theorem Sim.chg (S : Sim mu b e p m o) {i a : Nat} {l l2 : List D} (h : mu.contains i = true) (hm : md.contains i = true) (he : e.getD i none = some (.loc a)) (ha : m[a]? = some (.lst l)) (hb : b ≤ a) (u : Us l2) : Sim mu b e (p.set i (some (.lst l2))) (m.set a (.lst l2)) o ∧ Stp mu md e m e (m.set a (.lst l2)) := by
  have b1 := S.b1
  have lt : a < m.length := (List.getElem?_eq_some_iff.mp ha).1
  have hi : i < e.length := by
    rcases Nat.lt_or_ge i e.length with z | z
    · exact z
    · rw [List.getD_eq_getElem?_getD, List.getElem?_eq_none z] at he; cases he
  have hp : i < p.length := by rw [← S.len]; exact hi
  refine ⟨⟨by rw [List.getElem?_set_ne (by omega)]; exact S.feed, S.ok, S.b1, by rw [List.length_set]; exact S.bl, by rw [List.length_set, S.len], fun j hj => ?_, S.dj, fun j hj => ?_⟩, ⟨by rw [List.length_set]; exact Nat.le_refl _, fun _ _ => .inl rfl, fun c h1 h2 h3 => ?_⟩⟩
  · by_cases hij : i = j
    · subst hij
      rw [gd_self hp]
      exact .inr ⟨a, l2, hb, he, List.getElem?_set_self lt, rfl, u⟩
    · rw [gd_ne hij]
      rcases S.own j hj with h | ⟨c, k, h1, h2, h3, h4⟩
      · exact .inl h
      · refine .inr ⟨c, k, h1, h2, ?_, h4⟩
        rw [List.getElem?_set_ne ?_]
        · exact h3
        · intro z
          subst z
          rcases S.dj i j hij h hj with q | q
          · rw [he] at q; cases q
          · exact q (by rw [he, h2])
  · rw [gd_ne (fun z => by subst z; rw [h] at hj; cases hj)]
    exact S.oth j hj
  · rw [List.getElem?_set_ne]
    intro z
    subst z
    exact h3 i h hm he
theorem bind_inv {α β : Type} {x : Out α} {f : α → Mem → Out β} {d : β} {M : Mem} (h : x.bind f = .ok d M) : ∃ a M1, x = .ok a M1 ∧ f a M1 = .ok d M := by
  cases x with
  | ok a M1 => exact ⟨a, M1, rfl, h⟩
  | exc _ _ => cases h
  | bad => cases h
theorem lift_inv {α : Type} {x : Option α} {d : α} {m M : Mem} (h : lift x m = .ok d M) : x = some d := by
  cases x with
  | none => cases h
  | some a => cases h; rfl
def addL (x y : Option (List D)) : Option D := match x, y with
  | some x, some y => if x.length + y.length ≤ sizeLine then some (.lst (x ++ y)) else none
  | _, _ => none
theorem addL_lst {x y : Option (List D)} {d : D} (h : addL x y = some d) : ∃ l, d = .lst l := by
  cases x with
  | none => cases h
  | some x =>
    cases y with
    | none => cases h
    | some y =>
      unfold addL at h
      dsimp only at h
      split at h <;> cases h
      exact ⟨_, rfl⟩
theorem addl_1 {m : Mem} {x : D} {l : List D} : binD .Add m (.lst l) x = addL (some l) (rdL m x) := by cases x <;> rfl
theorem addl_2 {m : Mem} {x : D} {l : List D} : binD .Add m x (.lst l) = addL (rdL m x) (some l) := by cases x <;> rfl
theorem bil_lst {m : Mem} : ∀ {l : List D} {d : D}, biD .list m l = some d → ∃ l, d = .lst l
  | [], d, h => by cases h
  | [x], d, h => by
    unfold biD at h
    dsimp only at h
    split at h
    · cases h; exact ⟨_, rfl⟩
    · cases h
  | _ :: _ :: _, d, h => by cases h
theorem bis_lst {m : Mem} : ∀ {l : List D} {d : D}, biD .sorted m l = some d → ∃ l, d = .lst l
  | [], d, h => by cases h
  | [x], d, h => by
    unfold biD at h
    dsimp only at h
    split at h
    · split at h
      · cases h; exact ⟨_, rfl⟩
      · split at h
        · cases h; exact ⟨_, rfl⟩
        · cases h
    · cases h
  | _ :: _ :: _, d, h => by cases h
theorem mul_lst {m : Mem} {l : List D} : ∀ {x d : D}, binD .Mult m (.lst l) x = some d → ∃ l, d = .lst l
  | .int k, d, h => by
    unfold binD at h
    dsimp only [rdL] at h
    split at h
    · cases h; exact ⟨_, rfl⟩
    · cases h
  | .non, _, h => by cases h
  | .bl _, _, h => by cases h
  | .str _, _, h => by cases h
  | .tup _, _, h => by cases h
  | .lst _, _, h => by cases h
  | .scr _, _, h => by cases h
  | .loc _, _, h => by cases h
  | .fn _ _, _, h => by cases h
  | .ty _, _, h => by cases h
theorem lstC_lst {c : C} (h : lstC c = true) {e : Env} {m m' : Mem} {d : D} (q : evalC G c e m = .ok d m') : ∃ l, d = .lst l := by
  have isL : ∀ {l : Cs} {m m' : Mem} {x : D}, evalC G (.lst l) e m = .ok x m' → ∃ l, x = .lst l := fun {l m m' x} h => by
    rw [ev_lst] at h
    obtain ⟨a1, M2, _, h⟩ := bind_inv h
    cases h; exact ⟨_, rfl⟩
  unfold lstC at h
  split at h
  · exact isL q
  · rw [ev_comp] at q
    obtain ⟨a, M1, _, q⟩ := bind_inv q
    cases q; exact ⟨_, rfl⟩
  · rw [ev_comp2] at q
    obtain ⟨a, M1, _, q⟩ := bind_inv q
    unfold sizedL at q
    split at q <;> cases q
    exact ⟨_, rfl⟩
  · rw [ev_bi] at q
    obtain ⟨a, M1, _, q⟩ := bind_inv q
    exact bil_lst (lift_inv q)
  · rw [ev_bi] at q
    obtain ⟨a, M1, _, q⟩ := bind_inv q
    exact bis_lst (lift_inv q)
  · rw [ev_srtR] at q
    obtain ⟨a, M1, _, q⟩ := bind_inv q
    have q := lift_inv q
    unfold srtRD at q
    split at q
    · obtain ⟨ns, _, rfl⟩ := Option.map_eq_some_iff.mp q; exact ⟨_, rfl⟩
    · cases q
  · rw [ev_bin] at q
    obtain ⟨a, M1, q1, q⟩ := bind_inv q
    obtain ⟨y, M2, q2, q⟩ := bind_inv q
    obtain ⟨l, rfl⟩ := isL q1
    have q := lift_inv q
    rw [addl_1] at q
    exact addL_lst q
  · rw [ev_bin] at q
    obtain ⟨a, M1, q1, q⟩ := bind_inv q
    obtain ⟨y, M2, q2, q⟩ := bind_inv q
    obtain ⟨l, rfl⟩ := isL q2
    have q := lift_inv q
    rw [addl_2] at q
    exact addL_lst q
  · rw [ev_bin] at q
    obtain ⟨a, M1, q1, q⟩ := bind_inv q
    obtain ⟨y, M2, q2, q⟩ := bind_inv q
    obtain ⟨l, rfl⟩ := isL q1
    exact mul_lst (lift_inv q)
  · cases h
/-- a new list's value, in both -/
theorem purN_r (HC : CallR G Gp) {c : C} {e p : Env} {m : Mem} {o : MO} (h : stC mu c = true) (S : Sim mu b e p m o) : OutR m (fun d d' => d = d' ∧ ∃ l, d = .lst l ∧ Us l) (evalC Gp (purN c) p [o]) (evalC G c e m) := by
  unfold purN
  have q := stC_r HC h S
  split
  · rename_i hl
    cases hp : evalC Gp c p [o] with
    | bad => trivial
    | exc x μ => rw [hp] at q; exact q
    | ok d μ =>
      rw [hp] at q
      obtain ⟨o1, d1, q1, q2, q3, q4, q5⟩ := q
      subst q4
      obtain ⟨l, rfl⟩ := lstC_lst hl hp
      exact ⟨o1, _, q1, q2, q3, rfl, l, rfl, q5⟩
  · rw [ev_bin]
    cases hp : evalC Gp c p [o] with
    | bad => trivial
    | exc x μ => rw [hp] at q; exact q
    | ok d μ =>
      rw [hp] at q
      obtain ⟨o1, d1, q1, q2, q3, q4, q5⟩ := q
      subst q4 q1
      rw [Out.bind_ok, ev_lst, evs_nil, Out.bind_ok, Out.bind_ok]
      cases hb : binD .Add [o1] d1 (.lst []) with
      | none => trivial
      | some r =>
        have : ∃ l, d1 = .lst l ∧ r = .lst l := by
          rw [addl_2, rdL_top, top_one q2] at hb
          cases d1 with
          | lst l =>
            unfold addL rdL at hb
            dsimp only at hb
            split at hb
            · cases hb; exact ⟨l, rfl, by rw [List.append_nil]⟩
            · cases hb
          | _ => cases hb
        obtain ⟨l, rfl, rfl⟩ := this
        exact ⟨o1, _, rfl, q2, q3, rfl, l, rfl, q5⟩
theorem whileN_det {c : Env → Mem → Out Bool} {f : Env → Mem → Fl} : ∀ {n k : Nat} {e : Env} {m : Mem} {a d : Fl}, whileN c f n e m = some a → whileN c f k e m = some d → a = d
  | 0, _, _, _, _, _, h, _ => by cases h
  | n + 1, 0, _, _, _, _, _, h => by cases h
  | n + 1, k + 1, e, m, a, d, h, h2 => by
    rw [whileN] at h h2
    cases hc : c e m with
    | bad => rw [hc] at h h2; cases h; cases h2; rfl
    | exc x m' => rw [hc] at h h2; cases h; cases h2; rfl
    | ok z m' =>
      rw [hc] at h h2
      cases z with
      | false => cases h; cases h2; rfl
      | true =>
        dsimp only at h h2
        cases hf : f e m' with
        | nx e2 m2 => rw [hf] at h h2; exact whileN_det h h2
        | ct e2 m2 => rw [hf] at h h2; exact whileN_det h h2
        | bk e2 m2 => rw [hf] at h h2; cases h; cases h2; rfl
        | rt d m2 => rw [hf] at h h2; cases h; cases h2; rfl
        | exc x e2 m2 => rw [hf] at h h2; cases h; cases h2; rfl
        | bad => rw [hf] at h h2; cases h; cases h2; rfl
theorem whileN_r {c' c : Env → Mem → Out Bool} {f' f : Env → Mem → Fl} (hc : ∀ {e p : Env} {m : Mem} {o : MO}, Sim mu b e p m o → OutR m (fun a b : Bool => a = b) (c' p [o]) (c e m))
    (hf : ∀ {e p : Env} {m : Mem} {o : MO}, Sim mu b e p m o → FlR mu md b e m (f' p [o]) (f e m)) : ∀ {n : Nat} {e p : Env} {m : Mem} {o : MO} {a : Fl}, Sim mu b e p m o → whileN c' f' n p [o] = some a → a ≠ .bad → ∃ d, whileN c f n e m = some d ∧ FlR mu md b e m a d
  | 0, _, _, _, _, _, _, h, _ => by cases h
  | n + 1, e, p, m, o, a, S, h, nb => by
    rw [whileN] at h
    have q := hc S
    cases hc' : c' p [o] with
    | bad => rw [hc'] at h; cases h; exact absurd rfl nb
    | exc x μ =>
      rw [hc'] at h q
      obtain ⟨o1, rfl, h2, h3, h4⟩ := q
      cases h
      exact ⟨_, by rw [whileN, h3], o1, _, e, e, rfl, rfl, h2, (S.go h2).feed, h4, Stp.feed o1⟩
    | ok z μ =>
      rw [hc'] at h q
      obtain ⟨o1, z', rfl, h2, h3, rfl⟩ := q
      have S1 := S.go h2
      cases z' with
      | false => cases h; exact ⟨_, by rw [whileN, h3], FlR.pre (Stp.feed o1) (FlR.nx S1)⟩
      | true =>
        dsimp only at h
        have q2 := hf S1
        cases hf' : f' p [o1] with
        | bad => rw [hf'] at h; cases h; exact absurd rfl nb
        | nx p2 μ =>
          rw [hf'] at h q2
          obtain ⟨o2, e2, m2, rfl, h5, S2, st⟩ := q2
          obtain ⟨d, h6, h7⟩ := whileN_r hc hf S2 h nb
          exact ⟨d, by rw [whileN, h3]; dsimp only; rw [h5]; exact h6, FlR.pre ((Stp.feed o1).trans st) h7⟩
        | ct p2 μ =>
          rw [hf'] at h q2
          obtain ⟨o2, e2, m2, rfl, h5, S2, st⟩ := q2
          obtain ⟨d, h6, h7⟩ := whileN_r hc hf S2 h nb
          exact ⟨d, by rw [whileN, h3]; dsimp only; rw [h5]; exact h6, FlR.pre ((Stp.feed o1).trans st) h7⟩
        | bk p2 μ =>
          rw [hf'] at h q2
          obtain ⟨o2, e2, m2, rfl, h5, S2, st⟩ := q2
          cases h
          exact ⟨_, by rw [whileN, h3]; dsimp only; rw [h5], o2, e2, m2, rfl, rfl, S2, (Stp.feed o1).trans st⟩
        | rt d μ =>
          rw [hf'] at h q2
          obtain ⟨o2, d2, m2, e2, rfl, h5, r⟩ := q2
          cases h
          exact ⟨_, by rw [whileN, h3]; dsimp only; rw [h5], FlR.pre (Stp.feed o1) ⟨o2, d2, m2, e2, rfl, rfl, r⟩⟩
        | exc x p2 μ =>
          rw [hf'] at h q2
          obtain ⟨o2, m2, e2, e3, rfl, h5, r⟩ := q2
          cases h
          exact ⟨_, by rw [whileN, h3]; dsimp only; rw [h5], FlR.pre (Stp.feed o1) ⟨o2, m2, e2, e3, rfl, rfl, r⟩⟩
theorem whileF_r {c' c : Env → Mem → Out Bool} {f' f : Env → Mem → Fl} (hc : ∀ {e p : Env} {m : Mem} {o : MO}, Sim mu b e p m o → OutR m (fun a b : Bool => a = b) (c' p [o]) (c e m))
    (hf : ∀ {e p : Env} {m : Mem} {o : MO}, Sim mu b e p m o → FlR mu md b e m (f' p [o]) (f e m)) {e p : Env} {m : Mem} {o : MO} (S : Sim mu b e p m o) : FlR mu md b e m (whileF c' f' p [o]) (whileF c f e m) := by
  unfold whileF
  split
  · rename_i h
    have hk := h.choose_spec
    generalize h.choose = n at hk
    cases ha : whileN c' f' n p [o] with
    | none => trivial
    | some a =>
      show FlR mu md b e m a _
      by_cases nb : a = .bad
      · subst nb; trivial
      · obtain ⟨d, h1, h2⟩ := whileN_r hc hf S ha nb
        have hx : ∃ n, (whileN c f n e m).isSome = true := ⟨n, by rw [h1]; rfl⟩
        rw [dif_pos hx]
        have hs := hx.choose_spec
        generalize hx.choose = k at hs
        cases hd : whileN c f k e m with
        | none => rw [hd] at hs; cases hs
        | some d2 =>
          rw [whileN_det hd h1]
          exact h2
  · trivial
theorem forGo_r {st' st : Mem → Bool} {f' f : Env → Mem → Fl} {t : T} (hd : djB mu t.ixs = true) (I : Env → Mem → Prop) (h0 : ∀ e m, I e m → st m = true) (h0' : ∀ o, OkO o → st' [o] = true)
    (hI : ∀ {e m e' m'}, I e m → Stp mu md e m e' m' → I e' m') (hb : ∀ {e m} (t : T) (d : D), djB mu t.ixs = true → I e m → ∀ {e'}, t.bind d e = some e' → I e' m)
    (hf : ∀ {e p : Env} {m : Mem} {o : MO}, Sim mu b e p m o → FlR mu md b e m (f' p [o]) (f e m)) : ∀ {ds : List D} {e p : Env} {m : Mem} {o : MO}, Us ds → I e m → Sim mu b e p m o → FlR mu md b e m (forGo st' f' t ds p [o]) (forGo st f t ds e m)
  | [], e, p, m, o, _, i, S => by
    unfold forGo
    rw [h0 e m i, h0' o S.ok, if_pos rfl, if_pos rfl]
    exact FlR.nx S
  | d :: ds, e, p, m, o, u, i, S => by
    rw [Us, D.unders, Bool.and_eq_true] at u
    unfold forGo
    rw [h0 e m i, h0' o S.ok, if_pos rfl, if_pos rfl]
    cases hp : t.bind d p with
    | none => trivial
    | some p1 =>
      obtain ⟨e1, h1, S1⟩ := T.bind_sim hd u.1 S hp
      have i1 := hb t d hd i h1
      have st1 : Stp mu md e m e1 m := ⟨Nat.le_refl _, fun j hj => by
        rcases S1.own j hj with z | ⟨a, l, z1, z2, z3, z4, _⟩
        · exact .inr (.inl z.1)
        · rcases S.own j hj with y | ⟨a', l', y1, y2, _⟩
          · left
            rw [y.1, z2]
            exfalso
            have : ∀ j, mu.contains j = true → e1.getD j none = e.getD j none := fun j hj => (T.bind_own hd h1 j hj)
            rw [this j hj, y.1] at z2
            cases z2
          · left; exact T.bind_own hd h1 j hj, fun _ _ _ _ => rfl⟩
      rw [h1]
      dsimp only
      have q := hf S1
      cases hf' : f' p1 [o] with
      | bad => trivial
      | nx p2 μ =>
        rw [hf'] at q
        obtain ⟨o2, e2, m2, rfl, h5, S2, st⟩ := q
        rw [h5]
        exact FlR.pre (st1.trans st) (forGo_r hd I h0 h0' hI hb hf u.2 (hI i1 st) S2)
      | ct p2 μ =>
        rw [hf'] at q
        obtain ⟨o2, e2, m2, rfl, h5, S2, st⟩ := q
        rw [h5]
        exact FlR.pre (st1.trans st) (forGo_r hd I h0 h0' hI hb hf u.2 (hI i1 st) S2)
      | bk p2 μ =>
        rw [hf'] at q
        obtain ⟨o2, e2, m2, rfl, h5, S2, st⟩ := q
        rw [h5]
        exact ⟨o2, e2, m2, rfl, rfl, S2, st1.trans st⟩
      | rt d μ =>
        rw [hf'] at q
        obtain ⟨o2, d2, m2, e2, rfl, h5, r⟩ := q
        rw [h5]
        exact FlR.pre st1 ⟨o2, d2, m2, e2, rfl, rfl, r⟩
      | exc x p2 μ =>
        rw [hf'] at q
        obtain ⟨o2, m2, e2, e3, rfl, h5, r⟩ := q
        rw [h5]
        exact FlR.pre st1 ⟨o2, m2, e2, e3, rfl, rfl, r⟩
end Z
set_option maxHeartbeats 4000000
/-! ZY: code whose lists of one's own stand as values: statements, defs (plain Lean). -/
namespace Z
open PySem
variable {mu md : List Nat} {b : Nat} {e e1 e2 p : Env} {m m' m1 m2 : Mem} {o o' : MO} {G Gp : Sg}
theorem cutl_any {m : Mem} (l : List D) (lo hi : Option Int) : cutD m (.lst l) lo hi = some (.lst ((l.drop (HT.sIx l.length 0 lo)).take (HT.sIx l.length l.length hi - HT.sIx l.length 0 lo))) := rfl
theorem cutl_from {m : Mem} (l : List D) (i : Nat) : cutD m (.lst l) (some (i : Int)) none = some (.lst (l.drop i)) := by
  rw [cutl_any, HT.sIx_nat]
  have e : HT.sIx l.length l.length none = l.length := rfl
  rw [e]
  by_cases h : i ≤ l.length
  · rw [Nat.min_eq_left h, List.take_of_length_le (by rw [List.length_drop]; exact Nat.le_refl _)]
  · rw [Nat.min_eq_right (by omega), Nat.sub_self, List.take_zero, List.drop_eq_nil_of_le (by omega)]
theorem cutl_to {m : Mem} (l : List D) (i : Nat) : cutD m (.lst l) none (some (i : Int)) = some (.lst (l.take i)) := by
  rw [cutl_any, HT.sIx_nat]
  have e : HT.sIx l.length 0 none = 0 := rfl
  rw [e, List.drop_zero, Nat.sub_zero]
  by_cases h : i ≤ l.length
  · rw [Nat.min_eq_left h]
  · rw [Nat.min_eq_right (by omega), List.take_of_length_le (Nat.le_refl _), List.take_of_length_le (by omega)]
theorem cutl_last {m : Mem} (l : List D) : cutD m (.lst l) none (some (-1)) = some (.lst l.dropLast) := by
  rw [cutl_any]
  have e : HT.sIx l.length 0 none = 0 := rfl
  have e2 : HT.sIx l.length l.length (some (-1)) = l.length - 1 := by
    show (if (-1 : Int) < 0 then ((-1 : Int) + (l.length : Int)).toNat else min (-1 : Int).toNat l.length) = l.length - 1
    rw [if_pos (by decide)]
    omega
  rw [e, e2, List.drop_zero, Nat.sub_zero, List.dropLast_eq_take]
/-- an own list's slot, in both -/
theorem Sim.at_ (S : Sim mu b e p m o) {i : Nat} (h : mu.contains i = true) {d : D} (hp : p.getD i none = some d) : ∃ a l, b ≤ a ∧ e.getD i none = some (.loc a) ∧ m[a]? = some (.lst l) ∧ d = .lst l ∧ Us l := by
  rcases S.own i h with z | ⟨a, l, h1, h2, h3, h4, h5⟩
  · rw [z.2] at hp; cases hp
  · rw [h4] at hp; cases hp; exact ⟨a, l, h1, h2, h3, rfl, h5⟩
theorem Sim.len_of (S : Sim mu b e p m o) {i : Nat} {d : D} (hp : p.getD i none = some d) : i < p.length := by
  rcases Nat.lt_or_ge i p.length with z | z
  · exact z
  · rw [List.getD_eq_getElem?_getD, List.getElem?_eq_none z] at hp; cases hp
theorem setK_u {kvs : List (Key × D)} {k : Key} {v : D} (h : D.unders 1 (kvs.map (·.2)) = true) (u : U v) : D.unders 1 ((setK kvs k v).map (·.2)) = true := by
  unfold setK
  split
  · refine D.unders_iff.mpr fun d hd => ?_
    obtain ⟨q, hq, rfl⟩ := List.mem_map.mp hd
    obtain ⟨r, hr, rfl⟩ := List.mem_map.mp hq
    split
    · exact u
    · exact D.unders_iff.mp h _ (List.mem_map_of_mem hr)
  · rw [List.map_append]
    exact us_append h (us_iff.mpr fun d hd => by rw [List.map_cons, List.map_nil, List.mem_singleton] at hd; subst hd; exact u)
theorem putD_r (h0 : m[0]? = some o) (ok : OkO o) {d k v : D} (u : U v) {M : Mem} (h : putD [o] d k v = some M) : ∃ o', M = [o'] ∧ OkO o' ∧ putD m d k v = some (m.set 0 o') := by
  unfold putD at h
  split at h
  · rename_i n
    cases n with
    | zero =>
      split at h
      · rename_i kvs x q
        simp at q
        subst q
        split at h
        · rename_i hl
          cases h
          refine ⟨_, rfl, ⟨trivial, setK_u ok.u u⟩, ?_⟩
          unfold putD
          dsimp only
          rw [h0]
          dsimp only
          rw [if_pos hl]
        · cases h
      · cases h
    | succ n => simp at h
  · cases h
theorem parCs_r (HC : CallR G Gp) : ∀ {is : List Nat} {cs : Cs} {e p : Env} {m : Mem} {o : MO} {μ : Mem} {ds : List D}, parOk mu is cs = true → ndB is = true → Sim mu b e p m o → evalCs Gp (purCs cs) p [o] = .ok ds μ →
    ∃ o' ds' m', μ = [o'] ∧ evalCs G cs e m = .ok ds' m' ∧ (∀ {e2 p2 : Env}, Sim mu b e2 p2 m o → Sim mu b (setSome is ds' e2) (setSome is ds p2) m' o' ∧ Stp mu md e2 m (setSome is ds' e2) m')
  | [], .nil, e, p, m, o, μ, ds, _, _, S, h => by
    rw [purCs, evs_nil] at h
    cases h
    exact ⟨o, [], m, rfl, by rw [evs_nil], fun S2 => ⟨S2, Stp.refl⟩⟩
  | i :: is, .cons c l, e, p, m, o, μ, ds, hk, hn, S, h => by
    rw [ndB, Bool.and_eq_true] at hn
    by_cases hc : ∃ c1, c = .new c1
    · obtain ⟨c1, rfl⟩ := hc
      rw [parOk, Bool.and_eq_true, Bool.and_eq_true] at hk
      rw [purCs, evs_cons] at h
      obtain ⟨d, M1, h1, h⟩ := bind_inv h
      obtain ⟨ds2, M2, h2, h⟩ := bind_inv h
      cases h
      have q := purN_r HC hk.1.2 S
      rw [h1] at q
      obtain ⟨o1, d1, rfl, ok1, q3, rfl, l1, rfl, u⟩ := q
      have S1 := S.go ok1
      obtain ⟨S2, st2⟩ := S1.new (md := md) hk.1.1 u
      have lenm : (m.set 0 o1).length = m.length := List.length_set ..
      -- the rest is read at the old slots, in the grown memory
      have S3 : Sim mu b e p (m.set 0 o1 ++ [.lst l1]) o1 := by
        have old : ∀ {a : Nat} {x : MO}, (m.set 0 o1)[a]? = some x → (m.set 0 o1 ++ [MO.lst l1])[a]? = some x := fun {a x} h => by
          rw [List.getElem?_append_left (List.getElem?_eq_some_iff.mp h).1]; exact h
        refine ⟨old S1.feed, ok1, S.b1, by rw [List.length_append]; have := S1.bl; omega, S.len, fun j hj => ?_, S.dj, S.oth⟩
        rcases S1.own j hj with z | ⟨a, l, z1, z2, z3, z4⟩
        · exact .inl z
        · exact .inr ⟨a, l, z1, z2, old z3, z4⟩
      obtain ⟨o2, ds', m2, rfl, r2, r3⟩ := parCs_r HC hk.2 hn.2 S3 h2
      refine ⟨o2, .loc m.length :: ds', m2, rfl, by rw [evs_cons, ev_new, q3, Out.bind_ok, newD_lst, Out.bind_ok, lenm, r2, Out.bind_ok], fun {e2 p2} T => ?_⟩
      have T1 := T.go ok1
      obtain ⟨T2, st⟩ := T1.new (md := md) hk.1.1 u
      rw [lenm] at T2 st
      obtain ⟨T3, st3⟩ := r3 T2
      exact ⟨T3, ((Stp.feed o1).trans st).trans st3⟩
    · have hk2 : (!mu.contains i && stC mu c && parOk mu is l) = true := by
        cases c <;> first | exact hk | exact absurd ⟨_, rfl⟩ hc
      have hp : purCs (.cons c l) = .cons c (purCs l) := by
        cases c <;> first | rfl | exact absurd ⟨_, rfl⟩ hc
      rw [Bool.and_eq_true, Bool.and_eq_true, Bool.not_eq_true'] at hk2
      rw [hp, evs_cons] at h
      obtain ⟨d, M1, h1, h⟩ := bind_inv h
      obtain ⟨ds2, M2, h2, h⟩ := bind_inv h
      cases h
      have q := stC_r HC hk2.1.2 S
      rw [h1] at q
      obtain ⟨o1, d1, rfl, ok1, q3, rfl, u⟩ := q
      have S1 := S.go ok1
      obtain ⟨o2, ds', m2, rfl, r2, r3⟩ := parCs_r HC hk2.2 hn.2 S1 h2
      refine ⟨o2, d1 :: ds', m2, rfl, by rw [evs_cons, q3, Out.bind_ok, r2, Out.bind_ok], fun {e2 p2} T => ?_⟩
      have T1 := (T.go ok1).put hk2.1.1 u
      obtain ⟨T3, st3⟩ := r3 T1
      exact ⟨T3, ((Stp.feed o1).trans (Stp.put hk2.1.1)).trans st3⟩
  | [], .cons c l, _, _, _, _, _, _, hk, _, _, _ => by simp [parOk] at hk
  | i :: is, .nil, _, _, _, _, _, _, hk, _, _, _ => by simp [parOk] at hk
theorem parCs_x (HC : CallR G Gp) : ∀ {is : List Nat} {cs : Cs} {e p : Env} {m : Mem} {o : MO} {μ : Mem} {x : Ex}, parOk mu is cs = true → Sim mu b e p m o → evalCs Gp (purCs cs) p [o] = .exc x μ →
    ∃ o' m', μ = [o'] ∧ evalCs G cs e m = .exc x m' ∧ OkO o' ∧ m'[0]? = some o' ∧ Us x.fs ∧ Stp mu md e m e m'
  | [], .nil, e, p, m, o, μ, x, _, S, h => by rw [purCs, evs_nil] at h; cases h
  | i :: is, .cons c l, e, p, m, o, μ, x, hk, S, h => by
    by_cases hc : ∃ c1, c = .new c1
    · obtain ⟨c1, rfl⟩ := hc
      rw [parOk, Bool.and_eq_true, Bool.and_eq_true] at hk
      rw [purCs, evs_cons] at h
      have q := purN_r HC hk.1.2 S
      cases h1 : evalC Gp (purN c1) p [o] with
      | bad => rw [h1] at h; cases h
      | exc y M =>
        rw [h1] at h q
        cases h
        obtain ⟨o1, rfl, ok1, q3, u⟩ := q
        exact ⟨o1, _, rfl, by rw [evs_cons, ev_new, q3]; rfl, ok1, (S.go ok1).feed, u, Stp.feed o1⟩
      | ok d M1 =>
        rw [h1] at h q
        rw [Out.bind_ok] at h
        obtain ⟨o1, d1, rfl, ok1, q3, rfl, l1, rfl, u⟩ := q
        have S1 := S.go ok1
        have lenm : (m.set 0 o1).length = m.length := List.length_set ..
        have S3 : Sim mu b e p (m.set 0 o1 ++ [.lst l1]) o1 := by
          have old : ∀ {a : Nat} {x : MO}, (m.set 0 o1)[a]? = some x → (m.set 0 o1 ++ [MO.lst l1])[a]? = some x := fun {a x} h => by
            rw [List.getElem?_append_left (List.getElem?_eq_some_iff.mp h).1]; exact h
          refine ⟨old S1.feed, ok1, S.b1, by rw [List.length_append]; have := S1.bl; omega, S.len, fun j hj => ?_, S.dj, S.oth⟩
          rcases S1.own j hj with z | ⟨a, l, z1, z2, z3, z4⟩
          · exact .inl z
          · exact .inr ⟨a, l, z1, z2, old z3, z4⟩
        have stn : Stp mu md e (m.set 0 o1) e (m.set 0 o1 ++ [.lst l1]) := ⟨by rw [List.length_append]; omega, fun _ _ => .inl rfl, fun a h1 h2 h3 => by rw [List.getElem?_append_left h2]⟩
        cases h2 : evalCs Gp (purCs l) p [o1] with
        | bad => rw [h2] at h; cases h
        | ok ds M2 => rw [h2] at h; cases h
        | exc y M2 =>
          rw [h2] at h
          cases h
          obtain ⟨o2, m2, rfl, r2, r3, r4, r5, r6⟩ := parCs_x HC hk.2 S3 h2
          exact ⟨o2, m2, rfl, by rw [evs_cons, ev_new, q3, Out.bind_ok, newD_lst, Out.bind_ok, r2]; rfl, r3, r4, r5, ((Stp.feed o1).trans stn).trans r6⟩
    · have hk2 : (!mu.contains i && stC mu c && parOk mu is l) = true := by
        cases c <;> first | exact hk | exact absurd ⟨_, rfl⟩ hc
      have hp : purCs (.cons c l) = .cons c (purCs l) := by
        cases c <;> first | rfl | exact absurd ⟨_, rfl⟩ hc
      rw [Bool.and_eq_true, Bool.and_eq_true, Bool.not_eq_true'] at hk2
      rw [hp, evs_cons] at h
      have q := stC_r HC hk2.1.2 S
      cases h1 : evalC Gp c p [o] with
      | bad => rw [h1] at h; cases h
      | exc y M =>
        rw [h1] at h q
        cases h
        obtain ⟨o1, rfl, ok1, q3, u⟩ := q
        exact ⟨o1, _, rfl, by rw [evs_cons, q3]; rfl, ok1, (S.go ok1).feed, u, Stp.feed o1⟩
      | ok d M1 =>
        rw [h1] at h q
        rw [Out.bind_ok] at h
        obtain ⟨o1, d1, rfl, ok1, q3, rfl, u⟩ := q
        have S1 := S.go ok1
        cases h2 : evalCs Gp (purCs l) p [o1] with
        | bad => rw [h2] at h; cases h
        | ok ds M2 => rw [h2] at h; cases h
        | exc y M2 =>
          rw [h2] at h
          cases h
          obtain ⟨o2, m2, rfl, r2, r3, r4, r5, r6⟩ := parCs_x HC hk2.2 S1 h2
          exact ⟨o2, m2, rfl, by rw [evs_cons, q3, Out.bind_ok, r2]; rfl, r3, r4, r5, (Stp.feed o1).trans r6⟩
  | [], .cons c l, _, _, _, _, _, _, hk, _, _ => by simp [parOk] at hk
  | i :: is, .nil, _, _, _, _, _, _, hk, _, _ => by simp [parOk] at hk
end Z
set_option maxHeartbeats 4000000
/-! ZZ: code whose lists of one's own stand as values: every statement, every def (plain Lean). -/
namespace Z
open PySem
variable {mu md : List Nat} {b : Nat} {e e1 e2 p : Env} {m m' m1 m2 : Mem} {o o' : MO} {G Gp : Sg}
def Rq (s s' : Src) : Prop := s = s' ∧ Us s'.items ∧ s'.at_ = none
theorem srcOf_s (ok : OkO o) {d : D} (u : U d) {s : Src} (h : srcOf [o] d = some s) : srcOf m d = some s ∧ Us s.items ∧ s.at_ = none := by
  cases d with
  | loc n =>
    have : n < 1 := by simpa [U, D.under] using u
    obtain rfl : n = 0 := by omega
    unfold srcOf at h
    dsimp only at h
    split at h
    · rename_i e
      simp at e
      subst e
      exact ok.nl.elim
    · cases h
  | str s =>
    refine ⟨h, ?_⟩
    unfold srcOf at h
    dsimp only at h
    split at h <;> cases h
    exact ⟨us_strs s, rfl⟩
  | tup l => cases h; exact ⟨rfl, u, rfl⟩
  | lst l => cases h; exact ⟨rfl, u, rfl⟩
  | scr l => cases h; exact ⟨rfl, us_ints l, rfl⟩
  | _ => cases h
theorem plain_s {c : C} (hp : plainIt c = true) (S : Sim mu b e p m o) (h : OutR m Rs (evalC Gp c p [o]) (evalC G c e m)) : OutR m Rq (evalIt Gp c p [o]) (evalIt G c e m) := by
  rw [evalIt_plain hp, evalIt_plain hp]
  refine h.bind fun d d' o1 ok1 hd => ?_
  obtain ⟨rfl, u⟩ := hd
  refine OutR.lift (S.go ok1).feed ok1 fun s' hs => ?_
  obtain ⟨h1, h2, h3⟩ := srcOf_s (m := m.set 0 o1) ok1 u hs
  exact ⟨s', h1, rfl, h2, h3⟩
theorem stI_r (HC : CallR G Gp) {c : C} (h : stI mu c = true) (S : Sim mu b e p m o) : OutR m Rq (evalIt Gp c p [o]) (evalIt G c e m) := by
  cases c with
  | rng a =>
    have h : stC mu a = true := by unfold stI itC at h; exact h
    rw [evi_rng, evi_rng]
    refine (stC_r HC h S).bind fun x x' o1 ok1 hx => ?_
    obtain ⟨rfl, u⟩ := hx
    cases hr : rngS x [o1] with
    | bad => trivial
    | exc _ _ => exact (rngS_nex hr).elim
    | ok s M =>
      obtain ⟨rfl, u2, u3, u4⟩ := rngS_u hr
      rw [u4]
      exact OutR.ok (S.go ok1).feed ok1 ⟨rfl, u2, u3⟩
  | rng2 a c =>
    have h : (stC mu a && stC mu c) = true := by unfold stI itC at h; exact h
    rw [Bool.and_eq_true] at h
    rw [evi_rng2, evi_rng2]
    refine (stC_r HC h.1 S).bind fun x x' o1 ok1 hx => ?_
    obtain ⟨rfl, u⟩ := hx
    refine (stC_r HC h.2 (S.go ok1)).bind fun y y' o2 ok2 hy => ?_
    obtain ⟨rfl, _⟩ := hy
    cases hr : rng2S x y [o2] with
    | bad => trivial
    | exc _ _ => exact (rng2S_nex hr).elim
    | ok s M =>
      obtain ⟨rfl, u2, u3, u4⟩ := rng2S_u hr
      rw [u4]
      exact OutR.ok ((S.go ok1).go ok2).feed ok2 ⟨rfl, u2, u3⟩
  | zip a c =>
    have h : (stC mu a && stC mu c) = true := by unfold stI itC at h; exact h
    rw [Bool.and_eq_true] at h
    rw [evi_zip, evi_zip]
    refine (stC_r HC h.1 S).bind fun x x' o1 ok1 hx => ?_
    obtain ⟨rfl, u⟩ := hx
    refine (stC_r HC h.2 (S.go ok1)).bind fun y y' o2 ok2 hy => ?_
    obtain ⟨rfl, u2⟩ := hy
    exact OutR.lift ((S.go ok1).go ok2).feed ok2 fun s hs => ⟨s, hs, rfl, (zipS_u hs u u2).1, (zipS_u hs u u2).2⟩
  | enum a =>
    have h : stC mu a = true := by unfold stI itC at h; exact h
    rw [evi_enum, evi_enum]
    refine (stC_r HC h S).bind fun x x' o1 ok1 hx => ?_
    obtain ⟨rfl, u⟩ := hx
    exact OutR.lift (S.go ok1).feed ok1 fun s hs => ⟨s, hs, rfl, (enumS_u hs u).1, (enumS_u hs u).2⟩
  | var i => exact plain_s rfl S (stC_r HC (by unfold stI at h; rw [stC]; exact h) S)
  | ite t a c => exact plain_s rfl S (stC_r HC (by unfold stI at h; rw [stC]; exact h) S)
  | con d => exact plain_s rfl S (stC_r HC (by unfold stI itC at h; rw [stC]; exact h) S)
  | tup l => exact plain_s rfl S (stC_r HC (by unfold stI itC at h; rw [stC]; exact h) S)
  | lst l => exact plain_s rfl S (stC_r HC (by unfold stI itC at h; rw [stC]; exact h) S)
  | bin op a c => exact plain_s rfl S (stC_r HC (by unfold stI itC at h; rw [stC]; exact h) S)
  | sub a i => exact plain_s rfl S (stC_r HC (by unfold stI itC at h; rw [stC]; exact h) S)
  | cut a x y => exact plain_s rfl S (stC_r HC (by unfold stI itC at h; rw [stC]; exact h) S)
  | rev a => exact plain_s rfl S (stC_r HC (by unfold stI itC at h; rw [stC]; exact h) S)
  | call f l => exact plain_s rfl S (stC_r HC (by unfold stI itC at h; rw [stC]; exact h) S)
  | callk f np l ix kw df => exact plain_s rfl S (stC_r HC (by unfold stI itC at h; rw [stC]; exact h) S)
  | calv i l => exact plain_s rfl S (stC_r HC (by unfold stI itC at h; rw [stC]; exact h) S)
  | bi f l => exact plain_s rfl S (stC_r HC (by unfold stI itC at h; rw [stC]; exact h) S)
  | srtR a => exact plain_s rfl S (stC_r HC (by unfold stI itC at h; rw [stC]; exact h) S)
  | comp own elt t it ifs => exact plain_s rfl S (stC_r HC (by unfold stI itC at h; rw [stC]; exact h) S)
  | srtc own elt t it ifs => exact plain_s rfl S (stC_r HC (by unfold stI itC at h; rw [stC]; exact h) S)
  | comp2 own elt t it ifs t1 it1 ifs1 => exact plain_s rfl S (stC_r HC (by unfold stI itC at h; rw [stC]; exact h) S)
  | lrg a b => exact plain_s rfl S (stC_r HC (by unfold stI itC at h; rw [stC]; exact h) S)
  | _ => simp [stI, itC] at h
/-- methods of lists as values and at their places -/
theorem mtV_r (h0 : m[0]? = some o) (ok : OkO o) {me : Me} (hme : me.mild = false) {a : Nat} {l zs : List D} {ys ys' : List D} {d : D} (ha : m[a]? = some (.lst l)) (ul : Us l) (ry : Rts m ys ys') (hy : me ≠ .extend → ys = ys') (h : mtV me l ys' = some (d, zs)) :
    mtD me m (.loc a) ys = some (d, m.set a (.lst zs)) ∧ U d ∧ Us zs := by
  unfold mtV at h
  cases me with
  | index => cases hme
  | count => cases hme
  | append =>
    obtain rfl := hy (fun z => nomatch z)
    unfold mtD at h ⊢
    dsimp only at h ⊢
    cases ry with
    | nil => cases h
    | cons r1 ry =>
      cases ry with
      | cons _ _ => cases h
      | nil =>
        dsimp only at h ⊢
        rw [ha]
        simp only [List.getElem?_cons_succ, List.getElem?_cons_zero] at h
        split at h
        · rename_i q
          split at q
          · rename_i hl
            simp only [List.set_cons_succ, List.set_cons_zero, Option.some.injEq, Prod.mk.injEq, List.cons.injEq, MO.lst.injEq, and_true] at q
            obtain ⟨rfl, rfl, rfl⟩ := q
            cases h
            dsimp only
            rw [if_pos hl]
            exact ⟨rfl, rfl, us_append ul (us_iff.mpr fun x hx => by rw [List.mem_singleton.mp hx]; exact r1.u)⟩
          · cases q
        · cases h
  | extend =>
    unfold mtD at h ⊢
    dsimp only at h ⊢
    cases ry with
    | nil => cases h
    | cons r1 ry =>
      cases ry with
      | cons _ _ => cases h
      | nil =>
        dsimp only at h ⊢
        rename_i v v'
        rw [ha]
        simp only [List.getElem?_cons_succ, List.getElem?_cons_zero] at h
        have e : rdL [MO.ins 0 [], MO.lst l] v' = rdL [o] v' := by
          rw [rdL_top [o], top_one ok, rdL_top]
          congr 1
          rcases top_cases [MO.ins 0 [], MO.lst l] v' with z | ⟨n, k, rfl, z, _⟩
          · exact z
          · have : n < 1 := by simpa [U, D.under] using r1.u
            obtain rfl : n = 0 := by omega
            simp at z
        rw [e] at h
        rw [rdL_r h0 ok r1]
        split at h
        · rename_i q
          split at q
          · rename_i x y hx hk
            split at q
            · rename_i hl
              simp only [Option.some.injEq, MO.lst.injEq] at hx
              subst hx
              simp only [List.set_cons_succ, List.set_cons_zero, Option.some.injEq, Prod.mk.injEq, List.cons.injEq, MO.lst.injEq, and_true] at q
              obtain ⟨rfl, rfl, rfl⟩ := q
              cases h
              rw [if_pos hl]
              exact ⟨rfl, rfl, us_append ul (rdL_u ok hk r1.u)⟩
            · cases q
          · cases q
        · cases h
  | remove =>
    obtain rfl := hy (fun z => nomatch z)
    unfold mtD at h ⊢
    dsimp only at h ⊢
    split at h
    · rename_i q
      split at q
      · rename_i n k he
        cases he
        rename_i he2
        rw [ha]
        simp only [List.getElem?_cons_succ, List.getElem?_cons_zero] at q
        cases hn : asInts l with
        | none => rw [hn] at q; cases q
        | some ns =>
          rw [hn] at q
          dsimp only at q ⊢
          rw [hn]
          dsimp only
          split at q
          · rename_i hk
            simp only [List.set_cons_succ, List.set_cons_zero, Option.some.injEq, Prod.mk.injEq, List.cons.injEq, MO.lst.injEq, and_true] at q
            obtain ⟨rfl, rfl, rfl⟩ := q
            cases h
            rw [if_pos hk]
            exact ⟨rfl, rfl, us_ints _⟩
          · cases q
      · cases q
    · cases h
  | pop =>
    obtain rfl := hy (fun z => nomatch z)
    unfold mtD at h ⊢
    dsimp only at h ⊢
    split at h
    · rename_i q
      split at q
      · rename_i he
        cases he
        rw [ha]
        simp only [List.getElem?_cons_succ, List.getElem?_cons_zero] at q
        dsimp only
        cases hd : l[l.length - 1]? with
        | none => rw [hd] at q; cases q
        | some x =>
          rw [hd] at q
          simp only [List.set_cons_succ, List.set_cons_zero, Option.some.injEq, Prod.mk.injEq, List.cons.injEq, MO.lst.injEq, and_true] at q
          obtain ⟨rfl, rfl, rfl⟩ := q
          cases h
          exact ⟨rfl, us_iff.mp ul _ (List.mem_of_getElem? hd), us_sub ul fun x hx => List.dropLast_subset l hx⟩
      · rename_i i he
        cases he
        rw [ha]
        simp only [List.getElem?_cons_succ, List.getElem?_cons_zero] at q
        dsimp only
        split at q
        · rename_i hi
          rw [if_pos hi]
          split at q
          · rename_i k hk
            cases hd : l[k]? with
            | none => rw [hd] at q; cases q
            | some x =>
              rw [hd] at q
              simp only [List.set_cons_succ, List.set_cons_zero, Option.some.injEq, Prod.mk.injEq, List.cons.injEq, MO.lst.injEq, and_true] at q
              obtain ⟨rfl, rfl, rfl⟩ := q
              cases h
              exact ⟨rfl, us_iff.mp ul _ (List.mem_of_getElem? hd), us_sub ul fun x hx => List.mem_of_mem_eraseIdx hx⟩
          · cases q
        · cases q
      · cases q
    · cases h
section
variable (HC : CallR G Gp)
include HC
/-- an own list grows, or gets less -/
theorem chg_r (S : Sim mu b e p m o) {i : Nat} (hi : mu.contains i = true) (hm : md.contains i = true) {pf : Fl} {rf : Fl}
    (h : pf = .bad ∨ ∃ a l l2, e.getD i none = some (.loc a) ∧ m[a]? = some (.lst l) ∧ b ≤ a ∧ Us l2 ∧ pf = .nx (p.set i (some (.lst l2))) [o] ∧ rf = .nx e (m.set a (.lst l2))) : FlR mu md b e m pf rf := by
  rcases h with rfl | ⟨a, l, l2, h1, h2, h3, h4, rfl, rfl⟩
  · trivial
  · obtain ⟨S2, st⟩ := S.chg hi hm h1 h2 h3 h4
    exact ⟨o, e, _, rfl, rfl, S2, st⟩
theorem app_r (S : Sim mu b e p m o) {i : Nat} (hi : mu.contains i = true) (hm : md.contains i = true) {c : C} (hc : stC mu c = true) : FlR mu md b e m (execS Gp (.set i (.bin .Add (.var i) (.lst (.cons c .nil)))) p [o]) (execS G (.app i c) e m) := by
  rw [x_set, ev_bin, ev_var]
  cases hp : p.getD i none with
  | none => trivial
  | some d =>
    obtain ⟨a, l, h1, h2, h3, rfl, u⟩ := S.at_ hi hp
    rw [lift_some, Out.bind_ok, ev_lst, evs_cons]
    rw [x_app i c h2 (show rdL m (.loc a) = some l by unfold rdL; dsimp only; rw [h3])]
    have q := stC_r HC hc S
    cases hv : evalC Gp c p [o] with
    | bad => trivial
    | exc x μ =>
      rw [hv] at q
      obtain ⟨o1, rfl, ok1, q3, u3⟩ := q
      rw [q3]
      exact ⟨o1, _, e, e, rfl, rfl, ok1, (S.go ok1).feed, u3, Stp.feed o1⟩
    | ok v μ =>
      rw [hv] at q
      obtain ⟨o1, v', rfl, ok1, q3, rfl, uv⟩ := q
      rw [q3, Out.bind_ok, evs_nil, Out.bind_ok, Out.bind_ok, Out.bind_ok, Out.fl_ok, addl_1]
      have S1 := S.go ok1
      refine FlR.pre (Stp.feed o1) (chg_r (G := G) (Gp := Gp) HC S1 hi hm ?_)
      unfold addL rdL
      dsimp only
      split
      · rename_i hl
        right
        have b1 := S.b1
        refine ⟨a, l, l ++ [v'], h2, by rw [List.getElem?_set_ne (by omega)]; exact h3, h1, us_append u (us_iff.mpr fun d hd => by rw [List.mem_singleton.mp hd]; exact uv), rfl, ?_⟩
        unfold appF appD
        dsimp only
        rw [List.getElem?_set_ne (by omega), h3]
        dsimp only
        rw [if_pos (by have := hl; simp at this; omega)]
      · left; rfl
theorem meth_r (S : Sim mu b e p m o) {i : Nat} {x : Option Nat} {me : Me} {l : Cs} (hi : mu.contains i = true) (hm : md.contains i = true) (hx : ∀ y, x = some y → mu.contains y = false) (hme : me.mild = false)
    (hc : (if me == .extend then trCs mu l else stCs mu l) = true) : FlR mu md b e m (execS Gp (.meth x i me l) p [o]) ((evalC G (.mt me (.var i) l) e m).fl e fun d m => .nx (setO x d e) m) := by
  rw [ev_mt, ev_var]
  cases hp : p.getD i none with
  | none => rw [execS, hp]; trivial
  | some d =>
    obtain ⟨a, xs, h1, h2, h3, rfl, u⟩ := S.at_ hi hp
    have b1 := S.b1
    rw [x_meth x i me l hp, h2, lift_some, Out.bind_ok]
    have isM : isMe me m (.loc a) = true := by
      have : atList m (.loc a) = true := by unfold atList; dsimp only; rw [h3]
      cases me <;> first | exact this | cases hme
    rw [if_pos isM]
    have q : OutR m (fun ys ys' => Rts m ys ys' ∧ (me ≠ .extend → ys = ys')) (evalCs Gp l p [o]) (evalCs G l e m) := by
      by_cases hE : me = .extend
      · subst hE
        have hc : trCs mu l = true := hc
        exact (trCs_r HC hc S).imp fun _ _ h => ⟨h, fun z => absurd rfl z⟩
      · have hc : stCs mu l = true := by
          have : (me == .extend) = false := by cases me <;> first | rfl | exact absurd rfl hE
          rwa [this] at hc
        refine (stCs_r HC hc S).imp fun ys ys' h => ⟨?_, fun _ => h.1⟩
        obtain ⟨rfl, uu⟩ := h
        clear hc hx isM hm hi
        induction ys with
        | nil => exact .nil
        | cons y ys ih =>
          rw [Us, D.unders, Bool.and_eq_true] at uu
          exact .cons (.inl ⟨rfl, uu.1⟩) (ih uu.2)
    cases hv : evalCs Gp l p [o] with
    | bad => trivial
    | exc y μ =>
      rw [hv] at q
      obtain ⟨o1, rfl, ok1, q3, u3⟩ := q
      rw [q3]
      exact ⟨o1, _, e, e, rfl, rfl, ok1, (S.go ok1).feed, u3, Stp.feed o1⟩
    | ok v μ =>
      rw [hv] at q
      obtain ⟨o1, v', rfl, ok1, q3, rv, re⟩ := q
      rw [q3, Out.bind_ok, Out.fl_ok]
      have S1 := S.go ok1
      have h3' : (m.set 0 o1)[a]? = some (.lst xs) := by rw [List.getElem?_set_ne (by omega)]; exact h3
      refine FlR.pre (Stp.feed o1) ?_
      unfold methF meF
      cases hM : mtV me xs v with
      | none => trivial
      | some r =>
        obtain ⟨d, zs⟩ := r
        obtain ⟨r1, r2, r3⟩ := mtV_r S1.feed ok1 hme h3' u rv.set re hM
        rw [r1]
        obtain ⟨S2, st⟩ := S1.chg (md := md) hi hm h2 h3' h1 r3
        cases x with
        | none => exact ⟨o1, e, _, rfl, rfl, S2, st⟩
        | some x =>
          have nx := hx x rfl
          have hne : x ≠ i := fun z => by subst z; rw [nx] at hi; cases hi
          refine ⟨o1, e.set x (some d), _, rfl, rfl, ?_, st.trans (Stp.put nx)⟩
          have S3 := S2.put nx r2
          show Sim mu b (e.set x (some d)) ((p.set x (some d)).set i (some (.lst zs))) _ o1
          rw [List.set_comm _ _ hne]
          exact S3
theorem drop_r (S : Sim mu b e p m o) {c : C} (hc : trC mu c = true) : FlR mu md b e m (execS Gp (.drop c) p [o]) (execS G (.drop c) e m) := by
  rw [x_drop, x_drop]
  exact (trC_r HC hc S).fl S fun d d' o1 ok1 S1 _ => FlR.nx S1
theorem set_r (S : Sim mu b e p m o) {i : Nat} {c : C} (hi : mu.contains i = false) (hc : stC mu c = true) : FlR mu md b e m (execS Gp (.set i c) p [o]) (execS G (.set i c) e m) := by
  rw [x_set, x_set]
  refine (stC_r HC hc S).fl S fun d d' o1 ok1 S1 hd => ?_
  obtain ⟨rfl, u⟩ := hd
  exact FlR.pre (Stp.put hi) (FlR.nx (S1.put hi u))
theorem new_r (S : Sim mu b e p m o) {i : Nat} {c : C} (hi : mu.contains i = true) (hc : stC mu c = true) : FlR mu md b e m (execS Gp (.set i (purN c)) p [o]) (execS G (.set i (.new c)) e m) := by
  rw [x_set, x_set, ev_new]
  have q := purN_r HC hc S
  cases hv : evalC Gp (purN c) p [o] with
  | bad => trivial
  | exc y μ =>
    rw [hv] at q
    obtain ⟨o1, rfl, ok1, q3, u3⟩ := q
    rw [q3]
    exact ⟨o1, _, e, e, rfl, rfl, ok1, (S.go ok1).feed, u3, Stp.feed o1⟩
  | ok v μ =>
    rw [hv] at q
    obtain ⟨o1, v', rfl, ok1, q3, rfl, l, rfl, u⟩ := q
    rw [q3, Out.bind_ok, newD_lst, Out.fl_ok, Out.fl_ok]
    obtain ⟨S2, st⟩ := (S.go ok1).new (md := md) hi u
    exact FlR.pre (Stp.feed o1) (FlR.pre st (FlR.nx S2))
theorem ret_r (S : Sim mu b e p m o) {c : C} (hc : stC mu c = true) : FlR mu md b e m (execS Gp (.ret c) p [o]) (execS G (.ret c) e m) := by
  rw [x_ret, x_ret]
  refine (stC_r HC hc S).fl S fun d d' o1 ok1 S1 hd => ?_
  exact ⟨o1, d, _, e, rfl, rfl, ok1, S1.feed, .inl hd, Stp.refl⟩
theorem retv_r (S : Sim mu b e p m o) {i : Nat} : FlR mu md b e m (execS Gp (.ret (.var i)) p [o]) (execS G (.ret (.var i)) e m) := by
  by_cases hi : mu.contains i = true
  · rw [x_ret, x_ret, ev_var, ev_var]
    cases hp : p.getD i none with
    | none => trivial
    | some d =>
      obtain ⟨a, l, h1, h2, h3, rfl, u⟩ := S.at_ hi hp
      rw [h2]
      exact ⟨o, _, m, e, rfl, rfl, S.ok, S.feed, .inr ⟨a, l, h1, rfl, h3, rfl, u⟩, Stp.refl⟩
  · exact ret_r HC S (by rw [stC]; simpa using hi)
theorem unp_r (S : Sim mu b e p m o) {t : T} {c : C} (ht : djB mu t.ixs = true) (hc : stC mu c = true) : FlR mu md b e m (execS Gp (.unp t c) p [o]) (execS G (.unp t c) e m) := by
  rw [x_unp, x_unp]
  refine (stC_r HC hc S).fl S fun d d' o1 ok1 S1 hd => ?_
  obtain ⟨rfl, u⟩ := hd
  unfold unpD
  cases hb : t.bind d p with
  | none => trivial
  | some p1 =>
    obtain ⟨e1, h1, S2⟩ := T.bind_sim ht u S1 hb
    rw [h1]
    exact FlR.pre ⟨Nat.le_refl _, fun j hj => .inl (T.bind_own ht h1 j hj), fun _ _ _ _ => rfl⟩ (FlR.nx S2)
theorem unpS_r (S : Sim mu b e p m o) {l : Ts} {c : C} (ht : djB mu l.ixs = true) (hc : stC mu c = true) : FlR mu md b e m (execS Gp (.unpS l c) p [o]) (execS G (.unpS l c) e m) := by
  rw [x_unpS, x_unpS]
  refine (stC_r HC hc S).fl S fun d d' o1 ok1 S1 hd => ?_
  obtain ⟨rfl, u⟩ := hd
  unfold unpSD
  cases hs : starD l.num d with
  | none => trivial
  | some ds =>
    dsimp only
    cases hb : l.bind ds p with
    | none => trivial
    | some p1 =>
      obtain ⟨e1, h1, S2⟩ := Ts.bind_sim ht (starD_u hs u) S1 hb
      rw [h1]
      have h1' : (T.tp l).bind (.tup ds) e = some e1 := by rw [T.bind]; exact h1
      exact FlR.pre ⟨Nat.le_refl _, fun j hj => .inl (T.bind_own (t := .tp l) (by rw [T.ixs]; exact ht) h1' j hj), fun _ _ _ _ => rfl⟩ (FlR.nx S2)
theorem aug_r (S : Sim mu b e p m o) {op : Operator} {i : Nat} {c : C} (hi : mu.contains i = false) (hc : stC mu c = true) : FlR mu md b e m (execS Gp (.aug op i c) p [o]) (execS G (.aug op i c) e m) := by
  rw [execS, execS]
  obtain ⟨h1, h2⟩ := S.oth i hi
  rw [h1]
  cases hp : p.getD i none with
  | none => trivial
  | some x =>
    dsimp only
    refine (stC_r HC hc S).fl S fun d d' o1 ok1 S1 hd => ?_
    obtain ⟨rfl, u⟩ := hd
    cases hz : augD op x d with
    | none => trivial
    | some z =>
      have uz : U z := by
        unfold augD at hz
        split at hz
        · cases hz; rfl
        · split at hz <;> cases hz; rfl
        · cases hz; rfl
        · split at hz <;> cases hz; rfl
        · cases hz
      exact FlR.pre (Stp.put hi) (FlR.nx (S1.put hi uz))
theorem put_r (S : Sim mu b e p m o) {a k v : C} (ha : stC mu a = true) (hk : stC mu k = true) (hv : stC mu v = true) : FlR mu md b e m (execS Gp (.put a k v) p [o]) (execS G (.put a k v) e m) := by
  rw [x_put, x_put]
  refine (stC_r HC hv S).fl S fun d d' o1 ok1 S1 hd => ?_
  obtain ⟨rfl, u⟩ := hd
  refine (stC_r HC ha S1).fl S1 fun x x' o2 ok2 S2 hx => ?_
  obtain ⟨rfl, ux⟩ := hx
  refine (stC_r HC hk S2).fl S2 fun y y' o3 ok3 S3 hy => ?_
  obtain ⟨rfl, uy⟩ := hy
  unfold putF
  cases hM : putD [o3] x y d with
  | none => trivial
  | some M =>
    obtain ⟨o4, rfl, ok4, h4⟩ := putD_r S3.feed ok3 u hM
    rw [h4]
    exact FlR.pre (Stp.feed o4) (FlR.nx (S3.go ok4))
theorem par_r (S : Sim mu b e p m o) {is : List Nat} {cs : Cs} (hn : ndB is = true) (hc : parOk mu is cs = true) : FlR mu md b e m (execS Gp (.par is (purCs cs)) p [o]) (execS G (.par is cs) e m) := by
  rw [x_par, x_par]
  cases hv : evalCs Gp (purCs cs) p [o] with
  | bad => trivial
  | exc y μ =>
    obtain ⟨o1, m1, rfl, h1, h2, h3, h4, h5⟩ := parCs_x (md := md) HC hc S hv
    rw [h1]
    exact ⟨o1, m1, e, e, rfl, rfl, h2, h3, h4, h5⟩
  | ok ds μ =>
    obtain ⟨o1, ds', m1, rfl, h1, h2⟩ := parCs_r (md := md) HC hc hn S hv
    rw [h1, Out.fl_ok, Out.fl_ok]
    obtain ⟨S2, st⟩ := h2 S
    exact FlR.pre st (FlR.nx S2)
theorem purS_drop {c : C} (h : trC mu c = true) : purS (.drop c) = .drop c := by
  cases c with
  | mt me x l =>
    cases x with
    | var i =>
      rw [purS]
      have : me.mild = true := by
        rw [trC, Bool.and_eq_true, Bool.and_eq_true] at h
        exact h.1.1
      rw [if_pos this]
    | _ => rfl
  | _ => rfl
theorem purS_set {c : C} {i : Nat} (h : stC mu c = true) : purS (.set i c) = .set i c := by
  cases c with
  | mt me x l =>
    cases x with
    | var j =>
      rw [purS]
      have : me.mild = true := by
        rw [stC, Bool.and_eq_true, Bool.and_eq_true] at h
        exact h.1.1
      rw [if_pos this]
    | _ => rfl
  | new c => simp [stC] at h
  | _ => rfl
mutual
theorem okS_r : ∀ {s : S} {md : List Nat} {e p : Env} {m : Mem} {o : MO}, okS mu md s = true → Sim mu b e p m o → FlR mu md b e m (execS Gp (purS s) p [o]) (execS G s e m)
  | .drop c, md, e, p, m, o, h, S => by
    by_cases ht : trC mu c = true
    · rw [purS_drop HC ht]
      exact drop_r HC S ht
    · cases c with
      | mt me x l =>
        cases x with
        | var i =>
          rw [okS] at h
          split at h
          · exact absurd h ht
          · rename_i hm
            rw [Bool.and_eq_true, Bool.and_eq_true] at h
            rw [purS, if_neg hm, x_drop]
            exact meth_r HC S (x := none) h.1.1 h.1.2 (fun y z => nomatch z) (by simpa using hm) h.2
        | _ => exact absurd h ht
      | _ => exact absurd h ht
  | .set i c, md, e, p, m, o, h, S => by
    by_cases ht : mu.contains i = false ∧ stC mu c = true
    · rw [purS_set HC ht.2]
      exact set_r HC S ht.1 ht.2
    · have nt : ¬ (!mu.contains i && stC mu c) = true := fun z => by
        rw [Bool.and_eq_true, Bool.not_eq_true'] at z; exact ht z
      cases c with
      | mt me x l =>
        cases x with
        | var j =>
          rw [okS] at h
          split at h
          · exact absurd h (by rw [← Bool.not_eq_true'] at ht; exact fun z => nt (by rw [Bool.and_eq_true] at z ⊢; exact ⟨z.1, z.2⟩))
          · rename_i hm
            rw [Bool.and_eq_true, Bool.and_eq_true, Bool.and_eq_true, Bool.not_eq_true'] at h
            rw [purS, if_neg hm, x_set]
            exact meth_r HC S (x := some i) h.1.1.1 h.1.1.2 (fun y z => by cases z; exact h.1.2) (by simpa using hm) h.2
        | _ => exact absurd h nt
      | new c =>
        rw [okS, Bool.and_eq_true] at h
        rw [purS]
        exact new_r HC S h.1 h.2
      | _ => exact absurd h nt
  | .nev, md, e, p, m, o, h, S => by
    have e1 : purS .nev = .nev := rfl
    rw [e1, x_nev]
    trivial
  | .unpS l c, md, e, p, m, o, h, S => by
    rw [okS, Bool.and_eq_true] at h
    exact unpS_r HC S h.1 h.2
  | .unp t c, md, e, p, m, o, h, S => by
    rw [okS, Bool.and_eq_true] at h
    exact unp_r HC S h.1 h.2
  | .par is cs, md, e, p, m, o, h, S => by
    rw [okS, Bool.and_eq_true] at h
    exact par_r HC S h.1 h.2
  | .aug op i c, md, e, p, m, o, h, S => by
    rw [okS, Bool.and_eq_true, Bool.not_eq_true'] at h
    exact aug_r HC S h.1 h.2
  | .put a k v, md, e, p, m, o, h, S => by
    rw [okS, Bool.and_eq_true, Bool.and_eq_true] at h
    exact put_r HC S h.1.1 h.1.2 h.2
  | .app i c, md, e, p, m, o, h, S => by
    rw [okS, Bool.and_eq_true, Bool.and_eq_true] at h
    exact app_r HC S h.1.1 h.1.2 h.2
  | .ret c, md, e, p, m, o, h, S => by
    by_cases hv : ∃ i, c = .var i
    · obtain ⟨i, rfl⟩ := hv
      exact retv_r HC S
    · have h : stC mu c = true := by
        cases c <;> first | exact h | exact absurd ⟨_, rfl⟩ hv
      exact ret_r HC S h
  | .retN, md, e, p, m, o, h, S => by
    show FlR mu md b e m (execS Gp .retN p [o]) _
    rw [x_retN, x_retN]
    exact ⟨o, .non, m, e, rfl, rfl, S.ok, S.feed, .inl ⟨rfl, rfl⟩, Stp.refl⟩
  | .ite t a c, md, e, p, m, o, h, S => by
    rw [okS, Bool.and_eq_true, Bool.and_eq_true] at h
    rw [purS, x_ite, x_ite]
    refine OutR.fl (R := fun a b : Bool => a = b) S ((stC_r HC h.1.1 S).bind fun x x' o1 ok1 hx => asBl_r hx (S.go ok1).feed ok1) fun k k' o1 ok1 S1 hk => ?_
    subst hk
    cases k with
    | true => exact okSs_r h.1.2 S1
    | false => exact okSs_r h.2 S1
  | .for_ t it c, md, e, p, m, o, h, S => by
    rw [purS, x_for, x_for]
    by_cases hv : ∃ i, it = .var i ∧ mu.contains i = true
    · obtain ⟨i, rfl, hi⟩ := hv
      rw [okS, hi, if_pos rfl, Bool.and_eq_true] at h
      rw [evi_var, evi_var, ev_var, ev_var]
      cases hp : p.getD i none with
      | none => trivial
      | some d =>
        obtain ⟨a, l, h1, h2, h3, rfl, u⟩ := S.at_ hi hp
        have b1 := S.b1
        rw [h2, lift_some, lift_some, Out.bind_ok, Out.bind_ok]
        have e1 : srcOf m (.loc a) = some ⟨l, some a⟩ := by unfold srcOf; dsimp only; rw [h3]
        have e2 : srcOf [o] (.lst l) = some ⟨l, none⟩ := rfl
        rw [e1, e2, lift_some, lift_some, Out.fl_ok, Out.fl_ok]
        refine FlR.mono (md := md.filter (· != i)) (fun j hj => ?_) ?_
        · rw [contains_iff] at hj ⊢
          exact (List.mem_filter.mp hj).1
        · unfold loopF
          have al : a < m.length := (List.getElem?_eq_some_iff.mp h3).1
          refine forGo_r (b := b) h.1 (fun E M => M[a]? = some (.lst l) ∧ a < M.length ∧ ∀ j, mu.contains j = true → (md.filter (· != i)).contains j = true → E.getD j none ≠ some (.loc a)) (fun E M I => src_at I.1) (fun _ _ => rfl)
            (fun {E M E' M'} I st => ?_) (fun {E M} t d ht I {E'} hE => ⟨I.1, I.2.1, fun j hj hm => by rw [T.bind_own ht hE j hj]; exact I.2.2 j hj hm⟩) (fun S2 => okSs_r h.2 S2) u ⟨h3, al, fun j hj hm z => ?_⟩ S
          · refine ⟨(st.keep a (by omega) I.2.1 I.2.2).trans I.1, Nat.lt_of_lt_of_le I.2.1 st.len, fun j hj hm => ?_⟩
            rcases st.ad j hj with q | q | ⟨a', q1, q2⟩ | ⟨j', q1, q2, q3⟩
            · rw [q]; exact I.2.2 j hj hm
            · rw [q]; exact fun z => nomatch z
            · rw [q2]; intro z; cases z; have := I.2.1; omega
            · rw [q3]; exact I.2.2 j' q1 q2
          · rw [contains_iff] at hm
            have hji : j ≠ i := by have := (List.mem_filter.mp hm).2; simpa using this
            rcases S.dj j i hji hj hi with q | q
            · rw [q] at z; cases z
            · exact q (by rw [z, h2])
    · have h : (djB mu t.ixs && stI mu it && okSs mu md c) = true := by
        cases it with
        | var i =>
          have ni : mu.contains i = false := by
            cases hq : mu.contains i with
            | false => rfl
            | true => exact absurd ⟨i, rfl, hq⟩ hv
          rw [okS, ni] at h
          have e : stI mu (.var i) = true := by show (!mu.contains i) = true; rw [ni]; rfl
          rw [e]
          simpa using h
        | _ => exact h
      rw [Bool.and_eq_true, Bool.and_eq_true] at h
      refine (stI_r HC h.1.2 S).fl S fun s s' o1 ok1 S1 hs => ?_
      obtain ⟨rfl, us, hat⟩ := hs
      obtain ⟨its, at_⟩ := s
      simp only at hat us
      subst hat
      unfold loopF
      exact forGo_r h.1.1 (fun _ _ => True) (fun _ _ _ => rfl) (fun _ _ => rfl) (fun _ _ => trivial) (fun _ _ _ _ _ _ => trivial) (fun S2 => okSs_r h.2 S2) us trivial S1
  | .while_ t c, md, e, p, m, o, h, S => by
    rw [okS, Bool.and_eq_true] at h
    rw [purS, x_while, x_while]
    exact whileF_r (fun {e p m o} S2 => (stC_r HC h.1 S2).bind fun x x' o1 ok1 hx => asBl_r hx (S2.go ok1).feed ok1) (fun S2 => okSs_r h.2 S2) S
  | .brk, md, e, p, m, o, h, S => by
    show FlR mu md b e m (execS Gp .brk p [o]) _
    rw [x_brk, x_brk]
    exact ⟨o, e, m, rfl, rfl, S, Stp.refl⟩
  | .cont, md, e, p, m, o, h, S => by
    show FlR mu md b e m (execS Gp .cont p [o]) _
    rw [x_cont, x_cont]
    exact ⟨o, e, m, rfl, rfl, S, Stp.refl⟩
  | .pass, md, e, p, m, o, h, S => by
    show FlR mu md b e m (execS Gp .pass p [o]) _
    rw [x_pass, x_pass]
    exact FlR.nx S
  | .meth _ _ _ _, md, e, p, m, o, h, S => by cases h
  | .mv i j, md, e, p, m, o, h, S => by
    rw [okS, Bool.and_eq_true, Bool.and_eq_true, Bool.and_eq_true] at h
    have hij : i ≠ j := by simpa using h.1.1.1
    show FlR mu md b e m (execS Gp (.mv i j) p [o]) _
    cases hp : p.getD j none with
    | none => rw [execS, hp]; trivial
    | some d =>
      obtain ⟨a, h2, S2, st⟩ := S.mv (md := md) hij h.1.1.2 h.1.2 h.2 hp
      rw [x_mv i j hp, x_mv i j h2]
      exact ⟨o, _, m, rfl, rfl, S2, st⟩
theorem okSs_r : ∀ {s : Ss} {md : List Nat} {e p : Env} {m : Mem} {o : MO}, okSs mu md s = true → Sim mu b e p m o → FlR mu md b e m (execSs Gp (purSs s) p [o]) (execSs G s e m)
  | .nil, md, e, p, m, o, h, S => by
    rw [purSs, xs_nil, xs_nil]
    exact FlR.nx S
  | .cons s l, md, e, p, m, o, h, S => by
    rw [okSs, Bool.and_eq_true] at h
    rw [purSs, xs_cons, xs_cons]
    exact (okS_r h.1 S).andThen fun p1 e1 m1 o1 S1 => okSs_r h.2 S1
end
end
/-! ### defs -/
def purFd (f : Fd) : Fd := if okSs f.mu f.mu f.b && f.mu.all (fun i => decide (f.ps.length ≤ i)) then { f with b := purSs f.b } else { f with b := .cons .brk .nil }
def noL : MO → Bool
  | .lst _ => false
  | _ => true
/-- a result without places, the feed alone -/
def chkO : Out D → Out D
  | .ok d [o] => if d.under 1 && o.under 1 && noL o then .ok d [o] else .bad
  | .exc x [o] => if D.unders 1 x.fs && o.under 1 && noL o then .exc x [o] else .bad
  | _ => .bad
/-- what the defs do, lists of their own as values -/
noncomputable def progP (ds : List Fd) : Nat → Sg
  | 0, _, _, _ => .bad
  | k + 1, n, args, m => match ds[n]? with
    | some f => if args.length = f.ps.length then chkO (bodyD (progP ds k) f.N.length f.b args m) else .bad
    | none => .bad
theorem progP_at {ds : List Fd} {k n : Nat} {f : Fd} (h : ds[n]? = some f) {args : List D} (hl : args.length = f.ps.length) (m : Mem) : progP ds (k + 1) n args m = chkO (bodyD (progP ds k) f.N.length f.b args m) := by
  show (match ds[n]? with | some f => _ | none => _) = _
  rw [h]
  exact if_pos hl
theorem okO_of {o : MO} (h1 : o.under 1 = true) (h2 : noL o = true) : OkO o := by
  refine ⟨?_, h1⟩
  cases o with
  | lst l => cases h2
  | dk _ => trivial
  | ins _ _ => trivial
mutual
theorem under_mono {n k : Nat} (h : n ≤ k) : ∀ {d : D}, d.under n = true → d.under k = true
  | .tup l, u => by rw [D.under] at u ⊢; exact unders_mono h u
  | .lst l, u => by rw [D.under] at u ⊢; exact unders_mono h u
  | .loc a, u => by rw [D.under, decide_eq_true_eq] at u ⊢; omega
  | .non, _ => rfl
  | .bl _, _ => rfl
  | .int _, _ => rfl
  | .str _, _ => rfl
  | .scr _, _ => rfl
  | .fn _ _, _ => rfl
  | .ty _, _ => rfl
  | .dct _ l, u => by rw [D.under] at u ⊢; exact unders_mono h u
theorem unders_mono {n k : Nat} (h : n ≤ k) : ∀ {d : List D}, D.unders n d = true → D.unders k d = true
  | [], _ => rfl
  | d :: l, u => by
    rw [D.unders, Bool.and_eq_true] at u ⊢
    exact ⟨under_mono h u.1, unders_mono h u.2⟩
end
theorem ounder_mono {n k : Nat} (h : n ≤ k) {o : MO} (u : o.under n = true) : o.under k = true := by
  cases o with
  | lst l => exact unders_mono h u
  | dk kvs => exact unders_mono h u
  | ins _ _ => exact u
theorem sim_start {n : Nat} {args : List D} (h0 : m[0]? = some o) (ok : OkO o) (u : Us args) (hmu : ∀ i, mu.contains i = true → args.length ≤ i) : Sim mu m.length (args.map some ++ List.replicate n none) (args.map some ++ List.replicate n none) m o := by
  have hl : 0 < m.length := (List.getElem?_eq_some_iff.mp h0).1
  have none_ : ∀ i, args.length ≤ i → (args.map some ++ List.replicate n none : Env).getD i none = none := fun i hi => by
    rw [List.getD_eq_getElem?_getD, List.getElem?_append_right (by rw [List.length_map]; exact hi), List.getElem?_replicate]
    split <;> rfl
  refine ⟨h0, ok, hl, Nat.le_refl _, rfl, fun i hi => .inl ⟨none_ i (hmu i hi), none_ i (hmu i hi)⟩, fun i j _ hi _ => .inl (none_ i (hmu i hi)), fun i hi => ⟨rfl, fun d hd => ?_⟩⟩
  by_cases hl : i < args.length
  · rw [List.getD_eq_getElem?_getD, List.getElem?_append_left (by rw [List.length_map]; exact hl), List.getElem?_map, List.getElem?_eq_getElem hl] at hd
    cases hd
    exact us_iff.mp u _ (List.getElem_mem hl)
  · rw [none_ i (Nat.le_of_not_lt hl)] at hd
    cases hd
/-- a def in both programs -/
theorem gc_keep {mu md : List Nat} {e e1 : Env} {m m' : Mem} {o o' : MO} (h0 : m[0]? = some o) (st : Stp mu md e m e1 m') (he : ∀ i, mu.contains i = true → ∀ a, e.getD i none ≠ some (.loc a)) (h1 : m'[0]? = some o') (ok : OkO o') : GcOk m m' ∧ m'.take m.length = m.set 0 o' := by
  have hl : 0 < m.length := (List.getElem?_eq_some_iff.mp h0).1
  have keep : ∀ k, 1 ≤ k → k < m.length → m'[k]? = m[k]? := fun k h1 h2 => st.keep k h1 h2 fun i hi _ => he i hi k
  refine ⟨⟨st.len, fun k hk => ?_⟩, List.ext_getElem? fun k => ?_⟩
  · by_cases hz : k = 0
    · subst hz; exact .inr ⟨o', h1, ounder_mono (by omega) ok.u⟩
    · exact .inl (keep k (by omega) hk)
  · by_cases hk : k < m.length
    · rw [List.getElem?_take_of_lt hk]
      by_cases hz : k = 0
      · subst hz; rw [h1, List.getElem?_set_self hl]
      · rw [keep k (by omega) hk, List.getElem?_set_ne (by omega)]
    · rw [List.getElem?_eq_none (by rw [List.length_take]; have := st.len; omega), List.getElem?_eq_none (by rw [List.length_set]; omega)]
theorem chk_ok {b : Out D} {r : Out D} (h : ∀ d' o' , b = .ok d' [o'] → U d' → OkO o' → OutR m Rs (.ok d' [o']) r) (hx : ∀ x o', b = .exc x [o'] → Us x.fs → OkO o' → OutR m Rs (.exc x [o']) r) : OutR m Rs (chkO b) r := by
  unfold chkO
  split
  · split
    · rename_i hc
      rw [Bool.and_eq_true, Bool.and_eq_true] at hc
      exact h _ _ rfl hc.1.1 (okO_of hc.1.2 hc.2)
    · trivial
  · split
    · rename_i hc
      rw [Bool.and_eq_true, Bool.and_eq_true] at hc
      exact hx _ _ rfl hc.1.1 (okO_of hc.1.2 hc.2)
    · trivial
  · trivial
theorem prog_r {ds : List Fd} : ∀ k, CallR (progG ds k) (progP (ds.map purFd) k)
  | 0, f, args, o, m, _, _, _ => trivial
  | k + 1, n, args, o, m, u, ok, h0 => by
    have ih := prog_r (ds := ds) k
    cases hf : ds[n]? with
    | none =>
      have : (ds.map purFd)[n]? = none := by rw [List.getElem?_map, hf]; rfl
      show OutR m Rs (match (ds.map purFd)[n]? with | some f => _ | none => .bad) _
      rw [this]
      trivial
    | some f =>
      have hf' : (ds.map purFd)[n]? = some (purFd f) := by rw [List.getElem?_map, hf]; rfl
      have hps : (purFd f).ps = f.ps := by unfold purFd; split <;> rfl
      have hN : (purFd f).N = f.N := by unfold purFd; split <;> rfl
      by_cases hl : args.length = f.ps.length
      · rw [progP_at hf' (by rw [hps]; exact hl), progG_at hf, hN]
        by_cases hk : (okSs f.mu f.mu f.b && f.mu.all (fun i => decide (f.ps.length ≤ i))) = true
        · have hb : (purFd f).b = purSs f.b := by unfold purFd; rw [if_pos hk]
          rw [hb]
          rw [Bool.and_eq_true, List.all_eq_true] at hk
          have S := sim_start (mu := f.mu) (n := f.N.length - args.length) h0 ok u (fun i hi => by
            have := hk.2 i (contains_iff.mp hi)
            rw [hl]
            simpa using this)
          have he : ∀ i, f.mu.contains i = true → ∀ a, (args.map some ++ List.replicate (f.N.length - args.length) none : Env).getD i none ≠ some (.loc a) := fun i hi a z => by
            rcases S.own i hi with q | ⟨a', l, q1, q2, q3, _⟩
            · rw [q.1] at z; cases z
            · have := (List.getElem?_eq_some_iff.mp q3).1
              omega
          have q := okSs_r ih hk.1 S
          unfold bodyD
          generalize hX : execSs (progP (ds.map purFd) k) (purSs f.b) (args.map some ++ List.replicate (f.N.length - args.length) none) [o] = X at q
          have fin : ∀ {d d' : D} {m1 : Mem} {o1 : MO} {e1 : Env}, OkO o1 → m1[0]? = some o1 → U d' → gcD m.length m1 d = d' → Stp f.mu f.mu (args.map some ++ List.replicate (f.N.length - args.length) none) m e1 m1 → OutR m Rs (.ok d' [o1]) (gcO m (.ok d m1)) := fun {d d' m1 o1 e1} ok1 g0 u1 hg st => by
            obtain ⟨g1, g2⟩ := gc_keep h0 st he g0 ok1
            rw [gcO_yes g1 (by rw [hg]; exact under_mono S.b1 u1), hg, g2]
            exact ⟨o1, d', rfl, ok1, rfl, rfl, u1⟩
          refine chk_ok (fun d' o' hb u1 ok1 => ?_) fun x o' hb u1 ok1 => ?_
          · cases X with
            | rt dd μ =>
              cases hb
              obtain ⟨o1, d, m1, e1, z1, z2, z3, z4, z5, z6⟩ := q
              cases z1
              rw [z2]
              refine fin z3 z4 u1 ?_ z6
              rcases z5 with ⟨rfl, _⟩ | ⟨a, l, h1, rfl, h2, rfl, _⟩
              · cases d with
                | loc n =>
                  have h1 : n < 1 := by simpa [U, D.under] using u1
                  exact if_pos (by have := S.b1; omega)
                | _ => rfl
              · unfold gcD
                dsimp only
                rw [if_neg (by omega), h2]
            | nx p1 μ =>
              cases hb
              obtain ⟨o1, e1, m1, z1, z2, z3, z4⟩ := q
              cases z1
              rw [z2]
              exact fin z3.ok z3.feed rfl rfl z4
            | _ => cases hb
          · cases X with
            | exc y p1 μ =>
              cases hb
              obtain ⟨o1, m1, e1, e2, z1, z2, z3, z4, z5, z6⟩ := q
              cases z1
              rw [z2]
              obtain ⟨g1, g2⟩ := gc_keep h0 z6 he z4 z3
              show OutR m Rs _ (gcO m (.exc x m1))
              rw [gcO_yesX g1 (unders_mono S.b1 z5), g2]
              exact ⟨o', rfl, z3, rfl, z5⟩
            | _ => cases hb
        · have hb : (purFd f).b = .cons .brk .nil := by unfold purFd; rw [if_neg hk]
          rw [hb]
          have : bodyD (progP (ds.map purFd) k) f.N.length (.cons .brk .nil) args [o] = .bad := by
            unfold bodyD
            rw [xs_cons, x_brk]
            rfl
          rw [this]
          trivial
      · show OutR m Rs (match (ds.map purFd)[n]? with | some f => _ | none => .bad) _
        rw [hf']
        dsimp only
        rw [hps, if_neg hl]
        trivial
/-! ### the law: what remains behind the laying of the feed -/
theorem law_ends {ds : List Fd} {k n fi si : Nat} {f : Fd} {rest : Ss} {most : Nat} (hf : ds[n]? = some f) (hb : f.b = .cons (.set si (.call fi (.cons (.var 0) .nil))) rest) (hN : 1 < f.N.length) (hs : 0 < si ∧ si < f.N.length) (hk : okSs f.mu f.mu rest = true) (hmu : f.mu.all (fun i => i != 0 && i != si) = true)
    (hfeed : ∀ ns : List Int, ns.length ≤ most → ∃ o, OkO o ∧ progG ds k fi [.scr ns] [] = .ok (.loc 0) [o] ∧ ∃ o', execSs (progP (ds.map purFd) k) (purSs rest) ((some (.scr ns) :: List.replicate (f.N.length - 1) none).set si (some (.loc 0))) [o] = .rt (.bl true) [o']) : LawEnds (progG ds (k + 1) n) most := by
  intro ns hns
  obtain ⟨o, ok, h1, o', h2⟩ := hfeed ns hns
  have none_ : ∀ i, 1 ≤ i → (some (.scr ns) :: List.replicate (f.N.length - 1) none : Env).getD i none = none := fun i hi => by
    rw [List.getD_eq_getElem?_getD]
    cases i with
    | zero => omega
    | succ i =>
      rw [List.getElem?_cons_succ, List.getElem?_replicate]
      split <;> rfl
  have notmu : ∀ i, f.mu.contains i = true → i ≠ 0 ∧ i ≠ si := fun i hi => by
    have := List.all_eq_true.mp hmu i (contains_iff.mp hi)
    simpa using this
  have S : Sim f.mu 1 ((some (.scr ns) :: List.replicate (f.N.length - 1) none).set si (some (.loc 0))) ((some (.scr ns) :: List.replicate (f.N.length - 1) none).set si (some (.loc 0))) [o] o := by
    have own0 : ∀ i, f.mu.contains i = true → ((some (.scr ns) :: List.replicate (f.N.length - 1) none : Env).set si (some (.loc 0))).getD i none = none := fun i hi => by
      rw [gd_ne (Ne.symm (notmu i hi).2)]
      exact none_ i (by have := (notmu i hi).1; omega)
    refine ⟨rfl, ok, Nat.le_refl _, Nat.le_refl _, rfl, fun i hi => .inl ⟨own0 i hi, own0 i hi⟩, fun i j _ hi _ => .inl (own0 i hi), fun i hi => ⟨rfl, fun d hd => ?_⟩⟩
    by_cases his : si = i
    · subst his
      rw [gd_self (by simp; omega)] at hd
      cases hd
      rfl
    · rw [gd_ne his] at hd
      cases i with
      | zero => cases hd; rfl
      | succ i => rw [none_ _ (by omega)] at hd; cases hd
  have q := okSs_r (prog_r (ds := ds) k) hk S
  rw [h2] at q
  obtain ⟨o1, d, m1, e1, z1, z2, z3, z4, z5, z6⟩ := q
  have hd : d = .bl true := by
    rcases z5 with ⟨rfl, _⟩ | ⟨a, l, _, _, _, z, _⟩
    · rfl
    · cases z
  subst hd
  have hbody : bodyD (progG ds k) f.N.length f.b [.scr ns] [] = .ok (.bl true) m1 := by
    unfold bodyD
    have e : ([D.scr ns].map some ++ List.replicate (f.N.length - [D.scr ns].length) none : Env) = some (.scr ns) :: List.replicate (f.N.length - 1) none := rfl
    have ea : evalCs (progG ds k) (.cons (.var 0) .nil) (some (.scr ns) :: List.replicate (f.N.length - 1) none) [] = .ok [.scr ns] [] := by
      rw [evs_cons, ev_var]
      show ((lift (some (D.scr ns)) []).bind _) = _
      rw [lift_some, Out.bind_ok, evs_nil, Out.bind_ok]
    rw [hb, xs_cons, x_set, ev_call, e, ea, Out.bind_ok, h1, Out.fl_ok, Fl.andThen_nx, z2]
    rfl
  rw [progG_at hf, hbody]
  rcases gcO_ok [] m1 (.bl true) with e | ⟨e, _⟩
  · exact ⟨m1, e⟩
  · exact ⟨_, e⟩
end Z
/-! ZJ: shapes of data (plain Lean): what kind of value a piece of code comes to. -/
namespace Z
open PySem
mutual
/-- a shape: of what kind a value is, how large -/
inductive Ty where
  | no | non | bl | int (lo hi : Int) | str (l : List Str) | tup (l : Tys) | tups (t : Ty) (lo hi : Nat) | lst (l : Tys) | lsts (t : Ty) (lo hi : Nat) | feed | un (a b : Ty) | dat (w p : Nat)
inductive Tys where
  | nil | cons (t : Ty) (l : Tys)
end
instance : Inhabited Ty := ⟨.no⟩
instance : Inhabited Tys := ⟨.nil⟩
mutual
/-- a value of a shape (n: where the feed stands) -/
def Has (n : Nat) : Ty → D → Prop
  | .no, _ => False
  | .non, d => d = .non
  | .bl, d => ∃ b, d = .bl b
  | .int lo hi, d => ∃ i, d = .int i ∧ lo ≤ i ∧ i ≤ hi
  | .str l, d => ∃ s, d = .str s ∧ s ∈ l
  | .tup l, d => ∃ ds, d = .tup ds ∧ Hass n l ds
  | .tups t lo hi, d => ∃ ds, d = .tup ds ∧ lo ≤ ds.length ∧ ds.length ≤ hi ∧ ∀ x ∈ ds, Has n t x
  | .lst l, d => ∃ ds, d = .lst ds ∧ Hass n l ds
  | .lsts t lo hi, d => ∃ ds, d = .lst ds ∧ lo ≤ ds.length ∧ ds.length ≤ hi ∧ ∀ x ∈ ds, Has n t x
  | .feed, d => d = .loc n
  | .un a b, d => Has n a d ∨ Has n b d
  | .dat w p, d => Sm w p d
def Hass (n : Nat) : Tys → List D → Prop
  | .nil, ds => ds = []
  | .cons t l, ds => ∃ x xs, ds = x :: xs ∧ Has n t x ∧ Hass n l xs
end
def Tys.len : Tys → Nat
  | .nil => 0
  | .cons _ l => l.len + 1
def Tys.toL : Tys → List Ty
  | .nil => []
  | .cons t l => t :: l.toL
def Tys.of : List Ty → Tys
  | [] => .nil
  | t :: l => .cons t (.of l)
theorem Hass.len {n : Nat} : ∀ {l : Tys} {ds : List D}, Hass n l ds → ds.length = l.len
  | .nil, _, h => by rw [Hass] at h; subst h; rfl
  | .cons t l, _, h => by
    rw [Hass] at h
    obtain ⟨x, xs, rfl, _, h⟩ := h
    rw [List.length_cons, h.len, Tys.len]
theorem hass_iff {n : Nat} : ∀ {l : Tys} {ds : List D}, Hass n l ds ↔ Paired (Has n) l.toL ds
  | .nil, ds => by
    rw [Hass, Tys.toL]
    constructor
    · rintro rfl; exact .nil
    · intro h; cases h; rfl
  | .cons t l, ds => by
    rw [Hass, Tys.toL]
    constructor
    · rintro ⟨x, xs, rfl, h1, h2⟩
      exact .cons h1 (hass_iff.mp h2)
    · intro h
      cases h with
      | cons h1 h2 => exact ⟨_, _, rfl, h1, hass_iff.mpr h2⟩
/-! ### joins -/
/-- shapes of one kind are joined within, others stand side by side -/
def Ty.kind : Ty → Nat
  | .no => 0 | .non => 1 | .bl => 2 | .int _ _ => 3 | .str _ => 4 | .tup l => 100 + l.len | .tups _ _ _ => 5 | .lst l => 1000 + l.len | .lsts _ _ _ => 6 | .feed => 7 | .un _ _ => 8 | .dat _ _ => 9
mutual
def Ty.join : Nat → Ty → Ty → Ty
  | 0, a, b => .un a b
  | _ + 1, .no, b => b
  | _ + 1, a, .no => a
  | _ + 1, .non, .non => .non
  | _ + 1, .bl, .bl => .bl
  | _ + 1, .feed, .feed => .feed
  | _ + 1, .dat a b, .dat c d => .dat (max a c) (max b d)
  | _ + 1, .int a b, .int c d => .int (min a c) (max b d)
  | _ + 1, .str a, .str b => .str (a ++ b.filter fun s => !a.contains s)
  | k + 1, .tup a, .tup b => match Tys.join k a b with | some c => .tup c | none => .un (.tup a) (.tup b)
  | k + 1, .lst a, .lst b => match Tys.join k a b with | some c => .lst c | none => .un (.lst a) (.lst b)
  | k + 1, .tups t a b, .tups u c d => .tups (Ty.join k t u) (min a c) (max b d)
  | k + 1, .lsts t a b, .lsts u c d => .lsts (Ty.join k t u) (min a c) (max b d)
  | k + 1, a, .un b c => Ty.join k (Ty.join k a b) c
  | k + 1, .un a b, c => if a.kind = c.kind then .un (Ty.join k a c) b else .un a (Ty.join k b c)
  | _ + 1, a, b => .un a b
def Tys.join : Nat → Tys → Tys → Option Tys
  | _, .nil, .nil => some .nil
  | 0, _, _ => none
  | k + 1, .cons a l, .cons b r => match Tys.join k l r with | some c => some (.cons (Ty.join k a b) c) | none => none
  | _, _, _ => none
end
mutual
theorem join_l {n : Nat} : ∀ (k : Nat) {a b : Ty} {d : D}, Has n a d → Has n (Ty.join k a b) d := by
  intro k a b d h
  unfold Ty.join
  split
  all_goals first
    | exact (by rw [Has]; exact .inl h)
    | exact h
    | skip
  · exact absurd h (by rw [Has]; exact id)
  · rw [Has] at h ⊢
    exact h.mono (by omega) (by omega)
  · rw [Has] at h ⊢
    obtain ⟨i, rfl, h1, h2⟩ := h
    exact ⟨i, rfl, by omega, by omega⟩
  · rw [Has] at h ⊢
    obtain ⟨i, rfl, h1⟩ := h
    exact ⟨i, rfl, List.mem_append_left _ h1⟩
  · split
    · rename_i e
      rw [Has] at h ⊢
      obtain ⟨i, rfl, h1⟩ := h
      exact ⟨i, rfl, joins_l _ e h1⟩
    · rw [Has]; exact .inl h
  · split
    · rename_i e
      rw [Has] at h ⊢
      obtain ⟨i, rfl, h1⟩ := h
      exact ⟨i, rfl, joins_l _ e h1⟩
    · rw [Has]; exact .inl h
  · rw [Has] at h ⊢
    obtain ⟨i, rfl, h1, h2, h3⟩ := h
    exact ⟨i, rfl, by omega, by omega, fun x hx => join_l _ (h3 x hx)⟩
  · rw [Has] at h ⊢
    obtain ⟨i, rfl, h1, h2, h3⟩ := h
    exact ⟨i, rfl, by omega, by omega, fun x hx => join_l _ (h3 x hx)⟩
  · exact join_l _ (join_l _ h)
  · split
    · rw [Has] at h ⊢
      exact h.imp (join_l _) id
    · rw [Has] at h ⊢
      exact h.imp id (join_l _)
theorem joins_l {n : Nat} : ∀ (k : Nat) {a b c : Tys} {d : List D}, Tys.join k a b = some c → Hass n a d → Hass n c d := by
  intro k a b c d e h
  unfold Tys.join at e
  split at e
  · cases e; exact h
  · cases e
  · split at e
    · rename_i e2
      cases e
      rw [Hass] at h ⊢
      obtain ⟨x, xs, rfl, h1, h2⟩ := h
      exact ⟨x, xs, rfl, join_l _ h1, joins_l _ e2 h2⟩
    · cases e
  · cases e
end
mutual
theorem join_r {n : Nat} : ∀ (k : Nat) {a b : Ty} {d : D}, Has n b d → Has n (Ty.join k a b) d := by
  intro k a b d h
  unfold Ty.join
  split
  all_goals first
    | exact (by rw [Has]; exact .inr h)
    | exact h
    | skip
  · exact absurd h (by rw [Has]; exact id)
  · rw [Has] at h ⊢
    exact h.mono (by omega) (by omega)
  · rw [Has] at h ⊢
    obtain ⟨i, rfl, h1, h2⟩ := h
    exact ⟨i, rfl, by omega, by omega⟩
  · rw [Has] at h ⊢
    rename_i a b
    obtain ⟨i, rfl, h1⟩ := h
    refine ⟨i, rfl, ?_⟩
    by_cases hi : i ∈ a
    · exact List.mem_append_left _ hi
    · exact List.mem_append_right _ (List.mem_filter.mpr ⟨h1, by simpa using hi⟩)
  · split
    · rename_i e
      rw [Has] at h ⊢
      obtain ⟨i, rfl, h1⟩ := h
      exact ⟨i, rfl, joins_r _ e h1⟩
    · rw [Has]; exact .inr h
  · split
    · rename_i e
      rw [Has] at h ⊢
      obtain ⟨i, rfl, h1⟩ := h
      exact ⟨i, rfl, joins_r _ e h1⟩
    · rw [Has]; exact .inr h
  · rw [Has] at h ⊢
    obtain ⟨i, rfl, h1, h2, h3⟩ := h
    exact ⟨i, rfl, by omega, by omega, fun x hx => join_r _ (h3 x hx)⟩
  · rw [Has] at h ⊢
    obtain ⟨i, rfl, h1, h2, h3⟩ := h
    exact ⟨i, rfl, by omega, by omega, fun x hx => join_r _ (h3 x hx)⟩
  · rw [Has] at h
    rcases h with h | h
    · exact join_l _ (join_r _ h)
    · exact join_r _ h
  · split
    · rw [Has]
      exact .inl (join_r _ h)
    · rw [Has]
      exact .inr (join_r _ h)
theorem joins_r {n : Nat} : ∀ (k : Nat) {a b c : Tys} {d : List D}, Tys.join k a b = some c → Hass n b d → Hass n c d := by
  intro k a b c d e h
  unfold Tys.join at e
  split at e
  · cases e; exact h
  · cases e
  · split at e
    · rename_i e2
      cases e
      rw [Hass] at h ⊢
      obtain ⟨x, xs, rfl, h1, h2⟩ := h
      exact ⟨x, xs, rfl, join_r _ h1, joins_r _ e2 h2⟩
    · cases e
  · cases e
end
abbrev jn : Ty → Ty → Ty := Ty.join 30
/-- all of them -/
def Tys.all : Tys → Ty
  | .nil => .no
  | .cons t l => jn t l.all
theorem all_has {n : Nat} : ∀ {l : Tys} {ds : List D}, Hass n l ds → ∀ x ∈ ds, Has n l.all x
  | .nil, _, h, x, hx => by rw [Hass] at h; subst h; cases hx
  | .cons t l, _, h, x, hx => by
    rw [Hass] at h
    obtain ⟨y, ys, rfl, h1, h2⟩ := h
    rw [Tys.all]
    rcases List.mem_cons.mp hx with rfl | hx
    · exact join_l _ h1
    · exact join_r _ (all_has h2 x hx)
/-- what may be walked: a list (true), a tuple; its items' shape, how many -/
def Ty.els : Ty → Option (Ty × Nat × Nat)
  | .tup l => some (l.all, l.len, l.len)
  | .lst l => some (l.all, l.len, l.len)
  | .tups t a b => some (t, a, b)
  | .lsts t a b => some (t, a, b)
  | .un x y => match x.els, y.els with
    | some (t, a, b), some (u, c, d) => some (jn t u, min a c, max b d)
    | _, _ => none
  | .no => some (.no, 1, 0)
  | _ => none
/-- the items of a list or a tuple that never changes -/
def itemsD : D → Option (List D)
  | .tup l => some l
  | .lst l => some l
  | _ => none
theorem els_has {n : Nat} : ∀ {t u : Ty} {a b : Nat} {d : D}, t.els = some (u, a, b) → Has n t d → ∃ l, itemsD d = some l ∧ a ≤ l.length ∧ l.length ≤ b ∧ ∀ x ∈ l, Has n u x
  | .tup l, _, _, _, _, e, h => by
    rw [Ty.els] at e; cases e
    rw [Has] at h
    obtain ⟨ds, rfl, h⟩ := h
    exact ⟨ds, rfl, by rw [h.len]; exact Nat.le_refl _, by rw [h.len]; exact Nat.le_refl _, all_has h⟩
  | .lst l, _, _, _, _, e, h => by
    rw [Ty.els] at e; cases e
    rw [Has] at h
    obtain ⟨ds, rfl, h⟩ := h
    exact ⟨ds, rfl, by rw [h.len]; exact Nat.le_refl _, by rw [h.len]; exact Nat.le_refl _, all_has h⟩
  | .tups t _ _, _, _, _, _, e, h => by
    rw [Ty.els] at e; cases e
    rw [Has] at h
    obtain ⟨ds, rfl, h1, h2, h3⟩ := h
    exact ⟨ds, rfl, h1, h2, h3⟩
  | .lsts t _ _, _, _, _, _, e, h => by
    rw [Ty.els] at e; cases e
    rw [Has] at h
    obtain ⟨ds, rfl, h1, h2, h3⟩ := h
    exact ⟨ds, rfl, h1, h2, h3⟩
  | .no, _, _, _, _, _, h => by rw [Has] at h; exact h.elim
  | .un x y, _, _, _, _, e, h => by
    rw [Ty.els] at e
    split at e
    · rename_i e1 e2
      cases e
      rw [Has] at h
      rcases h with h | h
      · obtain ⟨l, h1, h2, h3, h4⟩ := els_has e1 h
        exact ⟨l, h1, by omega, by omega, fun x hx => join_l _ (h4 x hx)⟩
      · obtain ⟨l, h1, h2, h3, h4⟩ := els_has e2 h
        exact ⟨l, h1, by omega, by omega, fun x hx => join_r _ (h4 x hx)⟩
    · cases e
  | .non, _, _, _, _, e, _ => by rw [Ty.els] at e <;> first | cases e | (intros; intro h; cases h)
  | .bl, _, _, _, _, e, _ => by rw [Ty.els] at e <;> first | cases e | (intros; intro h; cases h)
  | .int _ _, _, _, _, _, e, _ => by rw [Ty.els] at e <;> first | cases e | (intros; intro h; cases h)
  | .str _, _, _, _, _, e, _ => by rw [Ty.els] at e <;> first | cases e | (intros; intro h; cases h)
  | .feed, _, _, _, _, e, _ => by rw [Ty.els] at e <;> first | cases e | (intros; intro h; cases h)
  | .dat _ _, _, _, _, _, e, _ => by rw [Ty.els] at e <;> first | cases e | (intros; intro h; cases h)
mutual
/-- the shape of a constant -/
def tyOf : D → Option Ty
  | .non => some .non
  | .bl _ => some .bl
  | .int i => some (.int i i)
  | .str s => some (.str [s])
  | .tup l => match tysOf l with | some ts => some (.tup ts) | none => none
  | .lst l => match tysOf l with | some ts => some (.lst ts) | none => none
  | _ => none
def tysOf : List D → Option Tys
  | [] => some .nil
  | d :: l => match tyOf d, tysOf l with
    | some t, some ts => some (.cons t ts)
    | _, _ => none
end
mutual
theorem tyOf_has {n : Nat} : ∀ {d : D} {t : Ty}, tyOf d = some t → Has n t d
  | .non, _, e => by rw [tyOf] at e; cases e; rw [Has]
  | .bl b, _, e => by rw [tyOf] at e; cases e; rw [Has]; exact ⟨b, rfl⟩
  | .int i, _, e => by rw [tyOf] at e; cases e; rw [Has]; exact ⟨i, rfl, by omega, by omega⟩
  | .str s, _, e => by rw [tyOf] at e; cases e; rw [Has]; exact ⟨s, rfl, List.mem_singleton.mpr rfl⟩
  | .tup l, _, e => by
    rw [tyOf] at e
    split at e
    · rename_i e1
      cases e
      rw [Has]
      exact ⟨l, rfl, tysOf_has e1⟩
    · cases e
  | .lst l, _, e => by
    rw [tyOf] at e
    split at e
    · rename_i e1
      cases e
      rw [Has]
      exact ⟨l, rfl, tysOf_has e1⟩
    · cases e
  | .scr _, _, e => by rw [tyOf] at e <;> first | cases e | (intros; intro h; cases h)
  | .loc _, _, e => by rw [tyOf] at e <;> first | cases e | (intros; intro h; cases h)
  | .fn _ _, _, e => by rw [tyOf] at e <;> first | cases e | (intros; intro h; cases h)
  | .ty _, _, e => by rw [tyOf] at e <;> first | cases e | (intros; intro h; cases h)
  | .dct _ _, _, e => by rw [tyOf] at e <;> first | cases e | (intros; intro h; cases h)
theorem tysOf_has {n : Nat} : ∀ {d : List D} {t : Tys}, tysOf d = some t → Hass n t d
  | [], _, e => by rw [tysOf] at e; cases e; rw [Hass]
  | d :: l, _, e => by
    rw [tysOf] at e
    split at e
    · rename_i e1 e2
      cases e
      rw [Hass]
      exact ⟨d, l, rfl, tyOf_has e1, tysOf_has e2⟩
    · cases e
end
end Z
/-! ZK: shapes through the operations (plain Lean). -/
namespace Z
open PySem
variable {n : Nat} {m : Mem} {d a b : D} {t u v : Ty}
/-! ### how heavy, how deep -/
mutual
def Ty.sm : Ty → Option (Nat × Nat)
  | .no => some (0, 0)
  | .non => some (0, 0)
  | .bl => some (0, 0)
  | .int lo hi => if -256 < lo ∧ hi < 256 then some (8, 0) else if -(2 ^ 64) < lo ∧ hi < 2 ^ 64 then some (64, 0) else none
  | .str l => if l.all PyData.strOk then some (l.foldr (fun s k => max s.length k) 0, 0) else none
  | .tup l => match l.sm with | some (w, p) => some (w, p + 1) | none => none
  | .lst l => match l.sm with | some (w, p) => some (w, p + 1) | none => none
  | .tups t _ hi => match t.sm with | some (w, p) => some (hi * (w + 1), p + 1) | none => none
  | .lsts t _ hi => match t.sm with | some (w, p) => some (hi * (w + 1), p + 1) | none => none
  | .feed => none
  | .un a b => match a.sm, b.sm with | some (w, p), some (w', p') => some (max w w', max p p') | _, _ => none
  | .dat w p => some (w, p)
def Tys.sm : Tys → Option (Nat × Nat)
  | .nil => some (0, 0)
  | .cons t l => match t.sm, l.sm with | some (w, p), some (w', p') => some (w + 1 + w', max p p') | _, _ => none
end
/-- things one behind another, of a weight and a depth together -/
def Sms (w p : Nat) (l : List D) : Prop := ∃ xs, toPys l = some xs ∧ PyData.canLayAll0 xs = true ∧ PyData.showableAll xs = true ∧ PyData.leavesShortAll 1921 xs = true ∧ PyData.depthAll xs ≤ p ∧ PyData.weightAll xs ≤ w
theorem Sms.cons {w p w' p' : Nat} {d : D} {l : List D} (h : Sm w p d) (h2 : Sms w' p' l) : Sms (w + 1 + w') (max p p') (d :: l) := by
  obtain ⟨x, e, s⟩ := h
  obtain ⟨xs, h1, h2, h3, h4, h5, h6⟩ := h2
  refine ⟨x :: xs, by simp only [toPys, e, h1], ?_, ?_, ?_, ?_, ?_⟩
  · simp only [PyData.canLayAll0, s.lay, h2, Bool.and_self]
  · simp only [PyData.showableAll, s.vis, h3, Bool.and_self]
  · simp only [PyData.leavesShortAll, s.leaf, h4, Bool.and_self]
  · simp only [PyData.depthAll]
    have := s.dep
    omega
  · simp only [PyData.weightAll]
    have := s.wgt
    omega
theorem Sms.tup {w p : Nat} {l : List D} (h : Sms w p l) : Sm w (p + 1) (.tup l) := by
  obtain ⟨xs, h1, h2, h3, h4, h5, h6⟩ := h
  refine ⟨.tuple xs, by simp only [toPy, h1], by simpa only [PyData.canLay0] using h2, by simpa only [PyData.showable] using h3, by simpa only [PyData.leavesShort] using h4, ?_, ?_⟩
  · simp only [PyData.depth]; omega
  · simp only [PyData.weight]; exact h6
theorem Sms.lst {w p : Nat} {l : List D} (h : Sms w p l) : Sm w (p + 1) (.lst l) := by
  obtain ⟨xs, h1, h2, h3, h4, h5, h6⟩ := h
  refine ⟨.list xs, by simp only [toPy, h1], by simpa only [PyData.canLay0] using h2, by simpa only [PyData.showable] using h3, by simpa only [PyData.leavesShort] using h4, ?_, ?_⟩
  · simp only [PyData.depth]; omega
  · simp only [PyData.weight]; exact h6
theorem foldr_max_le {l : List Str} {s : Str} (h : s ∈ l) : s.length ≤ l.foldr (fun s k => max s.length k) 0 := by
  induction l with
  | nil => cases h
  | cons x l ih =>
    rw [List.foldr_cons]
    rcases List.mem_cons.mp h with rfl | h
    · omega
    · have := ih h; omega
mutual
theorem sm_has : ∀ {t : Ty} {d : D} {w p : Nat}, t.sm = some (w, p) → Has n t d → Sm w p d
  | .no, _, _, _, _, h => by rw [Has] at h; exact h.elim
  | .non, _, _, _, e, h => by rw [Ty.sm] at e; cases e; rw [Has] at h; subst h; exact sm_non
  | .bl, _, _, _, e, h => by rw [Ty.sm] at e; cases e; rw [Has] at h; obtain ⟨b, rfl⟩ := h; exact sm_bl b
  | .int _ _, _, _, _, e, h => by
    rw [Ty.sm] at e
    rw [Has] at h
    obtain ⟨i, rfl, h1, h2⟩ := h
    split at e
    · rename_i hb
      cases e
      exact sm_int (k := 8) (by omega) (by decide)
    · split at e
      · rename_i hb
        cases e
        exact sm_int (k := 64) (by omega) (by decide)
      · cases e
  | .str l, _, _, _, e, h => by
    rw [Ty.sm] at e
    split at e
    · rename_i q
      cases e
      rw [Has] at h
      obtain ⟨s, rfl, h1⟩ := h
      exact (sm_str (List.all_eq_true.mp q s h1)).mono (foldr_max_le h1) (Nat.le_refl _)
    · cases e
  | .tup l, _, _, _, e, h => by
    rw [Ty.sm] at e
    split at e
    · rename_i q
      cases e
      rw [Has] at h
      obtain ⟨ds, rfl, h⟩ := h
      exact Sms.tup (sms_has q h)
    · cases e
  | .lst l, _, _, _, e, h => by
    rw [Ty.sm] at e
    split at e
    · rename_i q
      cases e
      rw [Has] at h
      obtain ⟨ds, rfl, h⟩ := h
      exact Sms.lst (sms_has q h)
    · cases e
  | .tups t _ _, _, _, _, e, h => by
    rw [Ty.sm] at e
    split at e
    · rename_i q
      cases e
      rw [Has] at h
      obtain ⟨ds, rfl, h1, h2, h3⟩ := h
      exact sm_tup (fun d hd => sm_has q (h3 d hd)) h2
    · cases e
  | .lsts t _ _, _, _, _, e, h => by
    rw [Ty.sm] at e
    split at e
    · rename_i q
      cases e
      rw [Has] at h
      obtain ⟨ds, rfl, h1, h2, h3⟩ := h
      exact sm_lst (fun d hd => sm_has q (h3 d hd)) h2
    · cases e
  | .feed, _, _, _, e, _ => by rw [Ty.sm] at e; cases e
  | .dat _ _, _, _, _, e, h => by rw [Ty.sm] at e; cases e; rw [Has] at h; exact h
  | .un a b, _, _, _, e, h => by
    rw [Ty.sm] at e
    split at e
    · rename_i q1 q2
      cases e
      rw [Has] at h
      rcases h with h | h
      · exact (sm_has q1 h).mono (by omega) (by omega)
      · exact (sm_has q2 h).mono (by omega) (by omega)
    · cases e
theorem sms_has : ∀ {t : Tys} {ds : List D} {w p : Nat}, t.sm = some (w, p) → Hass n t ds → Sms w p ds
  | .nil, _, _, _, e, h => by rw [Tys.sm] at e; cases e; rw [Hass] at h; subst h; exact ⟨[], rfl, rfl, rfl, rfl, Nat.le_refl _, Nat.le_refl _⟩
  | .cons t l, _, _, _, e, h => by
    rw [Tys.sm] at e
    split at e
    · rename_i q1 q2
      cases e
      rw [Hass] at h
      obtain ⟨x, xs, rfl, h1, h2⟩ := h
      exact Sms.cons (sm_has q1 h1) (sms_has q2 h2)
    · cases e
end
/-! ### one shape or another -/
def Ty.alts : Ty → List Ty
  | .un a b => a.alts ++ b.alts
  | .no => []
  | t => [t]
theorem alts_has : ∀ {t : Ty} {d : D}, Has n t d → ∃ x ∈ t.alts, Has n x d
  | .un a b, _, h => by
    rw [Has] at h
    rcases h with h | h
    · obtain ⟨x, h1, h2⟩ := alts_has h
      exact ⟨x, List.mem_append_left _ h1, h2⟩
    · obtain ⟨x, h1, h2⟩ := alts_has h
      exact ⟨x, List.mem_append_right _ h1, h2⟩
  | .no, _, h => by rw [Has] at h; exact h.elim
  | .non, _, h => ⟨_, List.mem_singleton.mpr rfl, h⟩
  | .bl, _, h => ⟨_, List.mem_singleton.mpr rfl, h⟩
  | .int _ _, _, h => ⟨_, List.mem_singleton.mpr rfl, h⟩
  | .str _, _, h => ⟨_, List.mem_singleton.mpr rfl, h⟩
  | .tup _, _, h => ⟨_, List.mem_singleton.mpr rfl, h⟩
  | .tups _ _ _, _, h => ⟨_, List.mem_singleton.mpr rfl, h⟩
  | .lst _, _, h => ⟨_, List.mem_singleton.mpr rfl, h⟩
  | .lsts _ _ _, _, h => ⟨_, List.mem_singleton.mpr rfl, h⟩
  | .feed, _, h => ⟨_, List.mem_singleton.mpr rfl, h⟩
  | .dat _ _, _, h => ⟨_, List.mem_singleton.mpr rfl, h⟩
/-- all must do; the shapes that come of them -/
def joinO : List (Option Ty) → Option Ty
  | [] => some .no
  | none :: _ => none
  | some t :: l => match joinO l with | some u => some (jn t u) | none => none
theorem joinO_has : ∀ {l : List (Option Ty)} {u : Ty} {o : Option Ty}, joinO l = some u → o ∈ l → ∃ t, o = some t ∧ ∀ d, Has n t d → Has n u d
  | none :: l, _, _, e, _ => by rw [joinO] at e; cases e
  | some t :: l, _, _, e, h => by
    rw [joinO] at e
    split at e
    · rename_i e1
      cases e
      rcases List.mem_cons.mp h with rfl | h
      · exact ⟨t, rfl, fun d h => join_l _ h⟩
      · obtain ⟨t', h1, h2⟩ := joinO_has e1 h
        exact ⟨t', h1, fun d h => join_r _ (h2 d h)⟩
    · cases e
def over1 (f : Ty → Option Ty) (a : Ty) : Option Ty := joinO (a.alts.map f)
def over2 (f : Ty → Ty → Option Ty) (a b : Ty) : Option Ty := joinO (a.alts.flatMap fun x => b.alts.map (f x))
theorem over1_ok {f : Ty → Option Ty} {R : D → Option D} (h : ∀ x u d, f x = some u → Has n x d → ∃ r, R d = some r ∧ Has n u r) (e : over1 f t = some u) (ha : Has n t d) : ∃ r, R d = some r ∧ Has n u r := by
  obtain ⟨x, h1, h2⟩ := alts_has ha
  obtain ⟨y, h3, h4⟩ := joinO_has (n := n) e (List.mem_map.mpr ⟨x, h1, rfl⟩)
  obtain ⟨r, h5, h6⟩ := h x y d h3 h2
  exact ⟨r, h5, h4 r h6⟩
theorem over2_ok {f : Ty → Ty → Option Ty} {R : D → D → Option D} (h : ∀ x y u a b, f x y = some u → Has n x a → Has n y b → ∃ r, R a b = some r ∧ Has n u r) (e : over2 f t v = some u) (ha : Has n t a) (hb : Has n v b) : ∃ r, R a b = some r ∧ Has n u r := by
  obtain ⟨x, h1, h2⟩ := alts_has ha
  obtain ⟨y, h1', h2'⟩ := alts_has hb
  obtain ⟨z, h3, h4⟩ := joinO_has (n := n) e (List.mem_flatMap.mpr ⟨x, h1, List.mem_map.mpr ⟨y, h1', rfl⟩⟩)
  obtain ⟨r, h5, h6⟩ := h x y z a b h3 h2 h2'
  exact ⟨r, h5, h4 r h6⟩
/-! ### operators -/
def Tys.app : Tys → Tys → Tys
  | .nil, r => r
  | .cons t l, r => .cons t (l.app r)
theorem hass_app : ∀ {l r : Tys} {xs ys : List D}, Hass n l xs → Hass n r ys → Hass n (l.app r) (xs ++ ys)
  | .nil, _, _, _, h, h2 => by rw [Hass] at h; subst h; exact h2
  | .cons t l, r, _, ys, h, h2 => by
    rw [Hass] at h
    obtain ⟨x, xs, rfl, h1, h3⟩ := h
    rw [Tys.app, Hass]
    exact ⟨x, xs ++ ys, rfl, h1, hass_app h3 h2⟩
/-- as a shape of many alike -/
def Ty.tupE : Ty → Option (Ty × Nat × Nat)
  | .tup l => some (l.all, l.len, l.len)
  | .tups t a b => some (t, a, b)
  | _ => none
def Ty.lstE : Ty → Option (Ty × Nat × Nat)
  | .lst l => some (l.all, l.len, l.len)
  | .lsts t a b => some (t, a, b)
  | _ => none
theorem tupE_has {x y : Nat} (e : t.tupE = some (u, x, y)) (h : Has n t d) : ∃ ds, d = .tup ds ∧ x ≤ ds.length ∧ ds.length ≤ y ∧ ∀ z ∈ ds, Has n u z := by
  cases t <;> (try (rw [Ty.tupE] at e <;> first | cases e | (intros; intro h; cases h))) <;> (try (exact absurd e (by simp [Ty.tupE])))
  · rw [Has] at h
    obtain ⟨ds, rfl, h⟩ := h
    exact ⟨ds, rfl, by rw [h.len]; exact Nat.le_refl _, by rw [h.len]; exact Nat.le_refl _, all_has h⟩
  · rw [Has] at h
    exact h
theorem lstE_has {x y : Nat} (e : t.lstE = some (u, x, y)) (h : Has n t d) : ∃ ds, d = .lst ds ∧ x ≤ ds.length ∧ ds.length ≤ y ∧ ∀ z ∈ ds, Has n u z := by
  cases t <;> (try (rw [Ty.lstE] at e <;> first | cases e | (intros; intro h; cases h))) <;> (try (exact absurd e (by simp [Ty.lstE])))
  · rw [Has] at h
    obtain ⟨ds, rfl, h⟩ := h
    exact ⟨ds, rfl, by rw [h.len]; exact Nat.le_refl _, by rw [h.len]; exact Nat.le_refl _, all_has h⟩
  · rw [Has] at h
    exact h
def small (i : Int) : Bool := decide (-(2 ^ 62) < i) && decide (i < 2 ^ 62)
/-- a op b, single shapes -/
def tBin1 (op : Operator) (a b : Ty) : Option Ty := match op, a, b with
  | .Add, .int a b, .int c d => some (.int (a + c) (b + d))
  | .Sub, .int a b, .int c d => some (.int (a - d) (b - c))
  | .Mult, .int a b, .int c d => if 0 ≤ a ∧ 0 ≤ c ∧ b < 2 ^ 62 then some (.int (a * c) (b * d)) else none
  | .Mult, x, .int c d => match x.tupE with
    | some (t, p, q) => if q ≤ 1000 ∧ 0 ≤ c ∧ d ≤ 1000 then some (.tups t (p * c.toNat) (q * d.toNat)) else none
    | none => match x.lstE with
      | some (t, p, q) => if 0 ≤ c ∧ d ≤ 1000 ∧ q ≤ 1000 then some (.lsts t (p * c.toNat) (q * d.toNat)) else none
      | none => none
  | .Mod, .int _ _, .int c d => if 0 < c then some (.int 0 (d - 1)) else none
  | .FloorDiv, .int a b, .int c d => if 0 < c ∧ d < 1073741824 ∧ 0 ≤ a then some (.int 0 b) else none
  | .Pow, .int a b, .int c d => if a = b ∧ c = d ∧ 0 ≤ c ∧ c ≤ 1000 ∧ a.natAbs < 2 ^ 64 then some (.int (a ^ c.toNat) (a ^ c.toNat)) else none
  | .Add, .tup x, .tup y => if x.len ≤ 1000 ∧ y.len ≤ 1000 then some (.tup (x.app y)) else none
  | .Add, .lst x, .lst y => if x.len ≤ 1000 ∧ y.len ≤ 1000 then some (.lst (x.app y)) else none
  | .Add, x, y => match x.tupE, y.tupE with
    | some (t, p, q), some (u, r, s) => if q ≤ 1000 ∧ s ≤ 1000 then some (.tups (jn t u) (p + r) (q + s)) else none
    | _, _ => match x.lstE, y.lstE with
      | some (t, p, q), some (u, r, s) => if q ≤ 1000 ∧ s ≤ 1000 then some (.lsts (jn t u) (p + r) (q + s)) else none
      | _, _ => none
  | _, _, _ => none
theorem line_big : 100000 ≤ sizeLine := by rw [sizeLine_eq]; omega
theorem mem_flat_rep {l : List D} {k : Nat} {x : D} (h : x ∈ (List.replicate k l).flatten) : x ∈ l := by
  obtain ⟨y, h1, h2⟩ := List.mem_flatten.mp h
  rw [(List.mem_replicate.mp h1).2] at h2
  exact h2
theorem len_flat_rep (l : List D) (k : Nat) : (List.replicate k l).flatten.length = k * l.length := by
  simp
theorem has_int {i lo hi : Int} (h1 : lo ≤ i) (h2 : i ≤ hi) : Has n (.int lo hi) (.int i) := by rw [Has]; exact ⟨i, rfl, h1, h2⟩
theorem has_bl (b : Bool) : Has n .bl (.bl b) := by rw [Has]; exact ⟨b, rfl⟩
theorem has_tups {l : List D} {x y : Nat} (h1 : x ≤ l.length) (h2 : l.length ≤ y) (h3 : ∀ z ∈ l, Has n t z) : Has n (.tups t x y) (.tup l) := by rw [Has]; exact ⟨l, rfl, h1, h2, h3⟩
theorem has_lsts {l : List D} {x y : Nat} (h1 : x ≤ l.length) (h2 : l.length ≤ y) (h3 : ∀ z ∈ l, Has n t z) : Has n (.lsts t x y) (.lst l) := by rw [Has]; exact ⟨l, rfl, h1, h2, h3⟩
theorem mul_le {a b c d : Nat} (h1 : a ≤ b) (h2 : c ≤ d) : a * c ≤ b * d := Nat.mul_le_mul h1 h2
theorem tBin1_ok {op : Operator} (x y u : Ty) (a b : D) (e : tBin1 op x y = some u) (ha : Has n x a) (hb : Has n y b) : ∃ r, binD op m a b = some r ∧ Has n u r := by
  have big := line_big
  unfold tBin1 at e
  split at e
  · cases e
    rw [Has] at ha hb
    obtain ⟨i, rfl, h1, h2⟩ := ha
    obtain ⟨j, rfl, h3, h4⟩ := hb
    exact ⟨_, rfl, has_int (by omega) (by omega)⟩
  · cases e
    rw [Has] at ha hb
    obtain ⟨i, rfl, h1, h2⟩ := ha
    obtain ⟨j, rfl, h3, h4⟩ := hb
    exact ⟨_, rfl, has_int (by omega) (by omega)⟩
  · split at e
    · rename_i q
      cases e
      rw [Has] at ha hb
      obtain ⟨i, rfl, h1, h2⟩ := ha
      obtain ⟨j, rfl, h3, h4⟩ := hb
      refine ⟨_, binD_mul (by unfold smallMul; simp; omega), has_int (Int.mul_le_mul h1 h3 (by omega) (by omega)) (Int.mul_le_mul h2 h4 (by omega) (by omega))⟩
    · cases e
  · split at e
    · rename_i q1
      split at e
      · rename_i q
        cases e
        obtain ⟨ds, rfl, h1, h2, h3⟩ := tupE_has q1 ha
        rw [Has] at hb
        obtain ⟨j, rfl, h4, h5⟩ := hb
        refine ⟨.tup (List.replicate j.toNat ds).flatten, ?_, has_tups ?_ ?_ fun z hz => h3 z (mem_flat_rep hz)⟩
        · have z1 : -(2 ^ 63) ≤ j := by omega
          have z2 : j ≤ 1000 := by omega
          have z3 : ds.length ≤ 1000 := by omega
          show (if decide (-(2 ^ 63) ≤ j) && decide (j ≤ 1000) && decide (ds.length ≤ 1000) then _ else _) = _
          rw [decide_eq_true z1, decide_eq_true z2, decide_eq_true z3]
          rfl
        · rw [len_flat_rep, Nat.mul_comm]; exact mul_le (by omega) h1
        · rw [len_flat_rep, Nat.mul_comm]; exact mul_le h2 (by omega)
      · cases e
    · split at e
      · rename_i q1
        split at e
        · rename_i q
          cases e
          obtain ⟨ds, rfl, h1, h2, h3⟩ := lstE_has q1 ha
          rw [Has] at hb
          obtain ⟨j, rfl, h4, h5⟩ := hb
          refine ⟨.lst (List.replicate j.toNat ds).flatten, ?_, has_lsts ?_ ?_ fun z hz => h3 z (mem_flat_rep hz)⟩
          · have z0 : ds.length * j.toNat ≤ 1000 * 1000 := Nat.mul_le_mul (by omega) (by omega)
            have z1 : -(2 ^ 63) ≤ j := by omega
            have z2 : j < 2 ^ 63 := by omega
            have z3 : ds.length * j.toNat ≤ sizeLine := by rw [sizeLine_eq]; omega
            show (if decide (-(2 ^ 63) ≤ j) && decide (j < 2 ^ 63) && decide (ds.length * j.toNat ≤ sizeLine) then _ else _) = _
            rw [decide_eq_true z1, decide_eq_true z2, decide_eq_true z3]
            rfl
          · rw [len_flat_rep, Nat.mul_comm]; exact mul_le (by omega) h1
          · rw [len_flat_rep, Nat.mul_comm]; exact mul_le h2 (by omega)
        · cases e
      · cases e
  · split at e
    · rename_i q
      cases e
      rw [Has] at ha hb
      obtain ⟨i, rfl, h1, h2⟩ := ha
      obtain ⟨j, rfl, h3, h4⟩ := hb
      have z1 := Int.emod_nonneg i (show j ≠ 0 by omega)
      have z2 := Int.emod_lt_of_pos i (show 0 < j by omega)
      exact ⟨_, binD_mod (by omega), has_int z1 (by omega)⟩
    · cases e
  · split at e
    · rename_i q
      cases e
      rw [Has] at ha hb
      obtain ⟨i, rfl, h1, h2⟩ := ha
      obtain ⟨j, rfl, h3, h4⟩ := hb
      have z1 : 0 ≤ i / j := Int.ediv_nonneg (by omega) (by omega)
      have z2 : i / j ≤ i := Int.ediv_le_self _ (by omega)
      exact ⟨_, binD_div (by omega) (by omega), has_int z1 (by omega)⟩
    · cases e
  · split at e
    · rename_i q
      obtain ⟨rfl, rfl, q1, q2, q3⟩ := q
      cases e
      rw [Has] at ha hb
      obtain ⟨i, rfl, h1, h2⟩ := ha
      obtain ⟨j, rfl, h3, h4⟩ := hb
      obtain rfl := Int.le_antisymm h1 h2
      obtain rfl := Int.le_antisymm h3 h4
      refine ⟨.int _, ?_, has_int (Int.le_refl _) (Int.le_refl _)⟩
      show (if _ then _ else _) = _
      rw [if_pos ⟨q1, by omega, q3⟩]
    · cases e
  · split at e
    · rename_i q
      cases e
      rw [Has] at ha hb
      obtain ⟨xs, rfl, h1⟩ := ha
      obtain ⟨ys, rfl, h2⟩ := hb
      refine ⟨_, binD_tup (by rw [h1.len, h2.len]; omega), ?_⟩
      rw [Has]
      exact ⟨_, rfl, hass_app h1 h2⟩
    · cases e
  · split at e
    · rename_i q
      cases e
      rw [Has] at ha hb
      obtain ⟨xs, rfl, h1⟩ := ha
      obtain ⟨ys, rfl, h2⟩ := hb
      refine ⟨_, binD_lst (by rw [h1.len, h2.len]; omega), ?_⟩
      rw [Has]
      exact ⟨_, rfl, hass_app h1 h2⟩
    · cases e
  · split at e
    · rename_i q1 q2
      split at e
      · rename_i q
        cases e
        obtain ⟨xs, rfl, h1, h2, h3⟩ := tupE_has q1 ha
        obtain ⟨ys, rfl, h4, h5, h6⟩ := tupE_has q2 hb
        refine ⟨_, binD_tup (by omega), has_tups (by rw [List.length_append]; omega) (by rw [List.length_append]; omega) fun z hz => ?_⟩
        rcases List.mem_append.mp hz with hz | hz
        · exact join_l _ (h3 z hz)
        · exact join_r _ (h6 z hz)
      · cases e
    · split at e
      · rename_i q1 q2
        split at e
        · rename_i q
          cases e
          obtain ⟨xs, rfl, h1, h2, h3⟩ := lstE_has q1 ha
          obtain ⟨ys, rfl, h4, h5, h6⟩ := lstE_has q2 hb
          refine ⟨_, binD_lst (by omega), has_lsts (by rw [List.length_append]; omega) (by rw [List.length_append]; omega) fun z hz => ?_⟩
          rcases List.mem_append.mp hz with hz | hz
          · exact join_l _ (h3 z hz)
          · exact join_r _ (h6 z hz)
        · cases e
      · cases e
  · cases e
end Z
/-! ZL: shapes through indexing, cutting, comparing, built-in functions, walks (plain Lean). -/
namespace Z
open PySem
variable {n : Nat} {m : Mem} {d a b : D} {t u v : Ty}
/-! ### indexing -/
/-- what stands at the places lo .. hi -/
def Tys.pick (lo hi : Nat) : Nat → Tys → Ty
  | _, .nil => .no
  | i, .cons t l => if lo ≤ i ∧ i ≤ hi then jn t (l.pick lo hi (i + 1)) else l.pick lo hi (i + 1)
theorem pick_has {lo hi : Nat} {x : D} : ∀ {i j : Nat} {l : Tys} {ds : List D}, Hass n l ds → ds[j]? = some x → lo ≤ i + j → i + j ≤ hi → Has n (l.pick lo hi i) x
  | _, _, .nil, _, h, e, _, _ => by rw [Hass] at h; subst h; simp at e
  | i, j, .cons t l, _, h, e, h1, h2 => by
    rw [Hass] at h
    obtain ⟨y, ys, rfl, h3, h4⟩ := h
    rw [Tys.pick]
    rcases j with _ | j
    · simp at e
      subst e
      rw [if_pos ⟨by omega, by omega⟩]
      exact join_l _ h3
    · have q := pick_has (lo := lo) (hi := hi) (i := i + 1) (j := j) (x := x) h4 (by simpa using e) (by omega) (by omega)
      split
      · exact join_r _ q
      · exact q
def Ty.fix : Ty → Option Tys
  | .tup l => some l
  | .lst l => some l
  | _ => none
def tSub1 (a i : Ty) : Option Ty := match i with
  | .int lo hi => match a.fix with
    | some l => if 0 ≤ lo ∧ hi < l.len then some (l.pick lo.toNat hi.toNat 0) else if lo = hi ∧ lo < 0 ∧ -(l.len : Int) ≤ lo then some (l.pick (lo + l.len).toNat (lo + l.len).toNat 0) else none
    | none => match a.els with
      | some (t, p, _) => if (0 ≤ lo ∧ hi < p) ∨ (hi < 0 ∧ -(p : Int) ≤ lo) then some t else none
      | none => none
  | _ => none
theorem fix_has {l : Tys} (e : t.fix = some l) (h : Has n t d) : ∃ ds k, rdS m d = some (k, ds) ∧ Hass n l ds := by
  cases t <;> simp [Ty.fix] at e
  · subst e
    rw [Has] at h
    obtain ⟨ds, rfl, h⟩ := h
    exact ⟨ds, _, rfl, h⟩
  · subst e
    rw [Has] at h
    obtain ⟨ds, rfl, h⟩ := h
    exact ⟨ds, _, rfl, h⟩
theorem items_rd {l : List D} (h : itemsD d = some l) : ∃ k, rdS m d = some (k, l) := by
  cases d <;> simp [itemsD] at h
  · subst h; exact ⟨_, rfl⟩
  · subst h; exact ⟨_, rfl⟩
theorem atI_in {l : List D} {k : Int} (h : (0 ≤ k ∧ k < l.length) ∨ (k < 0 ∧ -(l.length : Int) ≤ k)) : ∃ x, L2.atI l k = some x ∧ l[(if 0 ≤ k then k else k + l.length).toNat]? = some x := by
  by_cases h0 : 0 ≤ k
  · rw [if_pos h0]
    have hl : k.toNat < l.length := by omega
    refine ⟨l[k.toNat], ?_, List.getElem?_eq_getElem hl⟩
    have := L2.atI_nat (xs := l) (j := k.toNat) (List.getElem?_eq_getElem hl)
    rw [Int.toNat_of_nonneg h0] at this
    exact this
  · rw [if_neg h0]
    have hl : (k + l.length).toNat < l.length := by omega
    refine ⟨l[(k + l.length).toNat], ?_, List.getElem?_eq_getElem hl⟩
    unfold L2.atI L2.ixN
    rw [if_neg h0]
    have h2 : -(l.length : Int) ≤ k := by omega
    simp [h2, hl]
theorem tSub1_ok (x y u : Ty) (a b : D) (e : tSub1 x y = some u) (ha : Has n x a) (hb : Has n y b) : ∃ r, subD m a b = some r ∧ Has n u r := by
  unfold tSub1 at e
  split at e
  · rw [Has] at hb
    obtain ⟨k, rfl, h1, h2⟩ := hb
    split at e
    · rename_i q
      obtain ⟨ds, kd, h3, h4⟩ := fix_has (m := m) q ha
      have hl := h4.len
      split at e
      · rename_i q2
        cases e
        obtain ⟨x, h5, h6⟩ := atI_in (l := ds) (k := k) (.inl ⟨by omega, by omega⟩)
        refine ⟨x, by unfold subD; dsimp only; rw [h3]; exact h5, ?_⟩
        rw [if_pos (by omega)] at h6
        exact pick_has h4 h6 (by omega) (by omega)
      · split at e
        · rename_i q2
          cases e
          obtain ⟨x, h5, h6⟩ := atI_in (l := ds) (k := k) (.inr ⟨by omega, by omega⟩)
          refine ⟨x, by unfold subD; dsimp only; rw [h3]; exact h5, ?_⟩
          rw [if_neg (by omega)] at h6
          exact pick_has h4 h6 (by omega) (by omega)
        · cases e
    · split at e
      · rename_i q
        split at e
        · rename_i q2
          cases e
          obtain ⟨l, h3, h4, h5, h6⟩ := els_has q ha
          obtain ⟨kd, h7⟩ := items_rd (m := m) h3
          obtain ⟨x, h8, h9⟩ := atI_in (l := l) (k := k) (by omega)
          exact ⟨x, by unfold subD; dsimp only; rw [h7]; exact h8, h6 x (List.mem_of_getElem? h9)⟩
        · cases e
      · cases e
  · cases e
/-! ### cutting -/
def Tys.drop : Nat → Tys → Tys
  | 0, l => l
  | _ + 1, .nil => .nil
  | k + 1, .cons _ l => l.drop k
def Tys.take : Nat → Tys → Tys
  | 0, _ => .nil
  | _ + 1, .nil => .nil
  | k + 1, .cons t l => .cons t (l.take k)
theorem hass_drop : ∀ {k : Nat} {l : Tys} {ds : List D}, Hass n l ds → Hass n (l.drop k) (ds.drop k)
  | 0, l, ds, h => by rw [Tys.drop, List.drop_zero]; exact h
  | k + 1, .nil, ds, h => by rw [Hass] at h; subst h; rw [Tys.drop, List.drop_nil, Hass]
  | k + 1, .cons t l, ds, h => by
    rw [Hass] at h
    obtain ⟨x, xs, rfl, _, h2⟩ := h
    rw [Tys.drop, List.drop_succ_cons]
    exact hass_drop h2
theorem hass_take : ∀ {k : Nat} {l : Tys} {ds : List D}, Hass n l ds → Hass n (l.take k) (ds.take k)
  | 0, l, ds, h => by rw [Tys.take, List.take_zero, Hass]
  | k + 1, .nil, ds, h => by rw [Hass] at h; subst h; rw [Tys.take, List.take_nil, Hass]
  | k + 1, .cons t l, ds, h => by
    rw [Hass] at h
    obtain ⟨x, xs, rfl, h1, h2⟩ := h
    rw [Tys.take, List.take_succ_cons, Hass]
    exact ⟨_, _, rfl, h1, hass_take h2⟩
/-- a bound of a cut: none, or an int between two -/
abbrev Bd := Option (Int × Int)
def inBd : Bd → Option Int → Prop
  | none, o => o = none
  | some (x, y), o => ∃ i, o = some i ∧ x ≤ i ∧ i ≤ y ∧ (0 ≤ x ∨ y < 0)
def Bd.lo : Bd → Option Int := Option.map (·.1)
def Bd.hi : Bd → Option Int := Option.map (·.2)
def Bd.one : Bd → Bool
  | none => true
  | some (x, y) => x == y
theorem sIx_mono {p q d d' : Nat} {x y : Int} (h : p ≤ q) (h2 : x ≤ y) (h3 : 0 ≤ x ∨ y < 0) : HT.sIx p d (some x) ≤ HT.sIx q d' (some y) := by
  show (if x < 0 then (x + (p : Int)).toNat else min x.toNat p) ≤ (if y < 0 then (y + (q : Int)).toNat else min y.toNat q)
  split <;> split <;> omega
theorem sIx_lo {p k d d' : Nat} {b : Bd} {o : Option Int} (hb : inBd b o) (h : p ≤ k) (hd : d ≤ d') : HT.sIx p d b.lo ≤ HT.sIx k d' o := by
  cases b with
  | none => cases hb; exact hd
  | some xy => obtain ⟨x, y⟩ := xy; obtain ⟨i, rfl, h1, h2, h3⟩ := hb; exact sIx_mono (x := x) (y := i) h h1 (by omega)
theorem sIx_hi {q k d d' : Nat} {b : Bd} {o : Option Int} (hb : inBd b o) (h : k ≤ q) (hd : d ≤ d') : HT.sIx k d o ≤ HT.sIx q d' b.hi := by
  cases b with
  | none => cases hb; exact hd
  | some xy => obtain ⟨x, y⟩ := xy; obtain ⟨i, rfl, h1, h2, h3⟩ := hb; exact sIx_mono (x := i) (y := y) h h2 (by omega)
def tCut1 (lo hi : Bd) (a : Ty) : Option Ty := match a with
  | .tup l => if lo.one && hi.one then some (.tup ((l.drop (HT.sIx l.len 0 lo.lo)).take (HT.sIx l.len l.len hi.lo - HT.sIx l.len 0 lo.lo)))
      else some (.tups l.all (HT.sIx l.len l.len hi.lo - HT.sIx l.len 0 lo.hi) (HT.sIx l.len l.len hi.hi - HT.sIx l.len 0 lo.lo))
  | .lst l => if lo.one && hi.one then some (.lst ((l.drop (HT.sIx l.len 0 lo.lo)).take (HT.sIx l.len l.len hi.lo - HT.sIx l.len 0 lo.lo)))
      else some (.lsts l.all (HT.sIx l.len l.len hi.lo - HT.sIx l.len 0 lo.hi) (HT.sIx l.len l.len hi.hi - HT.sIx l.len 0 lo.lo))
  | .tups t p q => some (.tups t (HT.sIx p p hi.lo - HT.sIx q 0 lo.hi) (HT.sIx q q hi.hi - HT.sIx p 0 lo.lo))
  | .lsts t p q => some (.lsts t (HT.sIx p p hi.lo - HT.sIx q 0 lo.hi) (HT.sIx q q hi.hi - HT.sIx p 0 lo.lo))
  | _ => none
theorem one_eq {b : Bd} {o : Option Int} (h : b.one = true) (hb : inBd b o) : o = b.lo := by
  cases b with
  | none => exact hb
  | some xy =>
    obtain ⟨x, y⟩ := xy
    obtain ⟨i, rfl, h1, h2, _⟩ := hb
    have : x = y := by simpa [Bd.one] using h
    subst this
    rw [Int.le_antisymm h2 h1]
    rfl
theorem cut_len {l : List D} {o o' : Option Int} {lo hi : Bd} {p q : Nat} (h1 : inBd lo o) (h2 : inBd hi o') (hp : p ≤ l.length) (hq : l.length ≤ q) :
    HT.sIx p p hi.lo - HT.sIx q 0 lo.hi ≤ ((l.drop (HT.sIx l.length 0 o)).take (HT.sIx l.length l.length o' - HT.sIx l.length 0 o)).length ∧
    ((l.drop (HT.sIx l.length 0 o)).take (HT.sIx l.length l.length o' - HT.sIx l.length 0 o)).length ≤ HT.sIx q q hi.hi - HT.sIx p 0 lo.lo := by
  have a1 := sIx_lo (d := 0) (d' := 0) h1 hp (Nat.le_refl _)
  have a2 := sIx_hi (d := 0) (d' := 0) h1 hq (Nat.le_refl _)
  have b1 := sIx_lo (d := p) (d' := l.length) h2 hp hp
  have b2 := sIx_hi (d := l.length) (d' := q) h2 hq hq
  have c := HT.sIx_le l.length l.length (Nat.le_refl _) o'
  rw [List.length_take, List.length_drop]
  omega
theorem cut_mem {l : List D} {i j : Nat} {x : D} (h : x ∈ (l.drop i).take j) : x ∈ l := List.mem_of_mem_drop (List.mem_of_mem_take h)
theorem tCut1_ok {lo hi : Bd} {o o' : Option Int} (h1 : inBd lo o) (h2 : inBd hi o') (x u : Ty) (a : D) (e : tCut1 lo hi x = some u) (ha : Has n x a) : ∃ r, cutD m a o o' = some r ∧ Has n u r := by
  unfold tCut1 at e
  split at e
  · rw [Has] at ha
    obtain ⟨ds, rfl, h⟩ := ha
    refine ⟨_, rfl, ?_⟩
    split at e
    · rename_i q
      cases e
      rw [Bool.and_eq_true] at q
      rw [Has, one_eq q.1 h1, one_eq q.2 h2, h.len]
      exact ⟨_, rfl, hass_take (hass_drop h)⟩
    · cases e
      have z := cut_len (l := ds) h1 h2 (by rw [h.len]; exact Nat.le_refl _) (by rw [h.len]; exact Nat.le_refl _)
      exact has_tups z.1 z.2 fun x hx => all_has h x (cut_mem hx)
  · rw [Has] at ha
    obtain ⟨ds, rfl, h⟩ := ha
    refine ⟨_, rfl, ?_⟩
    split at e
    · rename_i q
      cases e
      rw [Bool.and_eq_true] at q
      rw [Has, one_eq q.1 h1, one_eq q.2 h2, h.len]
      exact ⟨_, rfl, hass_take (hass_drop h)⟩
    · cases e
      have z := cut_len (l := ds) h1 h2 (by rw [h.len]; exact Nat.le_refl _) (by rw [h.len]; exact Nat.le_refl _)
      exact has_lsts z.1 z.2 fun x hx => all_has h x (cut_mem hx)
  · cases e
    rw [Has] at ha
    obtain ⟨ds, rfl, h3, h4, h5⟩ := ha
    have z := cut_len (l := ds) h1 h2 h3 h4
    exact ⟨_, rfl, has_tups z.1 z.2 fun x hx => h5 x (cut_mem hx)⟩
  · cases e
    rw [Has] at ha
    obtain ⟨ds, rfl, h3, h4, h5⟩ := ha
    have z := cut_len (l := ds) h1 h2 h3 h4
    exact ⟨_, rfl, has_lsts z.1 z.2 fun x hx => h5 x (cut_mem hx)⟩
  · cases e
/-! ### comparing -/
def Ty.smOk (p : Nat) (t : Ty) : Bool := match t.sm with | some (_, q) => decide (q ≤ p) | none => false
theorem smOk_has {p : Nat} (e : t.smOk p = true) (h : Has n t d) : ∃ w, Sm w p d := by
  unfold Ty.smOk at e
  split at e
  · rename_i q
    exact ⟨_, (sm_has q h).mono (Nat.le_refl _) (of_decide_eq_true e)⟩
  · cases e
theorem eqP_sm {w w' : Nat} (ha : Sm w 60 a) (hb : Sm w' 60 b) : ∃ k, eqP m a b = some k := by
  obtain ⟨x, h1, _, s1⟩ := ha.py (m := m)
  obtain ⟨y, h2, _, s2⟩ := hb.py (m := m)
  unfold eqP
  rw [h1, h2]
  dsimp only
  rw [s1.shaped (by omega), s2.shaped (by omega)]
  exact ⟨_, rfl⟩
theorem eqD_sm {w w' : Nat} (ha : Sm w 60 a) (hb : Sm w' 60 b) : ∃ k, eqD m a b = some k := by
  unfold eqD
  split
  · exact ⟨_, rfl⟩
  · exact ⟨_, rfl⟩
  · exact eqP_sm ha hb
def Ty.isSeq : Ty → Bool
  | .tup _ => true | .lst _ => true | .tups _ _ _ => true | .lsts _ _ _ => true | _ => false
def tCmp1 (op : CmpOp) (a b : Ty) : Option Ty := match op with
  | .Eq => if a.smOk 60 && b.smOk 60 then some .bl else none
  | .NotEq => if a.smOk 60 && b.smOk 60 then some .bl else none
  | .Lt => match a, b with | .int _ _, .int _ _ => some .bl | _, _ => none
  | .LtE => match a, b with | .int _ _, .int _ _ => some .bl | _, _ => none
  | .Gt => match a, b with | .int _ _, .int _ _ => some .bl | _, _ => none
  | .GtE => match a, b with | .int _ _, .int _ _ => some .bl | _, _ => none
  | .Is => match b with | .non => some .bl | _ => none
  | .IsNot => match b with | .non => some .bl | _ => none
  | .In => if a.smOk 60 && b.smOk 60 && b.isSeq then some .bl else none
  | .NotIn => if a.smOk 60 && b.smOk 60 && b.isSeq then some .bl else none
theorem seq_shape (h : Has n t d) (e : t.isSeq = true) : (∃ l, d = .tup l) ∨ ∃ l, d = .lst l := by
  cases t <;> simp [Ty.isSeq] at e
  · rw [Has] at h; obtain ⟨ds, rfl, _⟩ := h; exact .inl ⟨_, rfl⟩
  · rw [Has] at h; obtain ⟨ds, rfl, _⟩ := h; exact .inl ⟨_, rfl⟩
  · rw [Has] at h; obtain ⟨ds, rfl, _⟩ := h; exact .inr ⟨_, rfl⟩
  · rw [Has] at h; obtain ⟨ds, rfl, _⟩ := h; exact .inr ⟨_, rfl⟩
theorem inD_sm {w w' : Nat} (ha : Sm w 60 a) (hb : Sm w' 60 b) (h : (∃ l, b = .tup l) ∨ ∃ l, b = .lst l) : ∃ k, inD m a b = some k := by
  obtain ⟨x, h1, _, s1⟩ := ha.py (m := m)
  obtain ⟨y, h2, h3, s2⟩ := hb.py (m := m)
  rcases h with ⟨l, rfl⟩ | ⟨l, rfl⟩
  · rw [toPy] at h3
    split at h3
    · cases h3
      unfold inD
      dsimp only
      rw [h1, h2]
      dsimp only
      rw [s1.shaped (by omega), s2.shaped (by omega)]
      exact ⟨_, rfl⟩
    · cases h3
  · rw [toPy] at h3
    split at h3
    · cases h3
      unfold inD
      dsimp only
      rw [h1, h2]
      dsimp only
      rw [s1.shaped (by omega), s2.shaped (by omega)]
      exact ⟨_, rfl⟩
    · cases h3
theorem cmp_int {op : CmpOp} {i j : Int} (h : op = .Lt ∨ op = .LtE ∨ op = .Gt ∨ op = .GtE) : ∃ k, cmpD op m (.int i) (.int j) = some k := by
  rcases h with rfl | rfl | rfl | rfl <;> exact ⟨_, rfl⟩
theorem tCmp1_ok {op : CmpOp} (x y u : Ty) (a b : D) (e : tCmp1 op x y = some u) (ha : Has n x a) (hb : Has n y b) : ∃ r, (cmpD op m a b).map D.bl = some r ∧ Has n u r := by
  have fin : ∀ {o : Option Bool}, (∃ k, o = some k) → u = .bl → ∃ r, o.map D.bl = some r ∧ Has n u r := fun ⟨k, hk⟩ hu => ⟨.bl k, by rw [hk]; rfl, by rw [hu]; exact has_bl k⟩
  unfold tCmp1 at e
  split at e
  · split at e
    · rename_i q
      rw [Bool.and_eq_true] at q
      cases e
      obtain ⟨w, s1⟩ := smOk_has q.1 ha
      obtain ⟨w', s2⟩ := smOk_has q.2 hb
      exact fin (eqD_sm s1 s2) rfl
    · cases e
  · split at e
    · rename_i q
      rw [Bool.and_eq_true] at q
      cases e
      obtain ⟨w, s1⟩ := smOk_has q.1 ha
      obtain ⟨w', s2⟩ := smOk_has q.2 hb
      obtain ⟨k, hk⟩ := eqD_sm (m := m) s1 s2
      exact fin ⟨!k, by show (eqD m a b).map (!·) = _; rw [hk]; rfl⟩ rfl
    · cases e
  · split at e
    · cases e
      rw [Has] at ha hb
      obtain ⟨i, rfl, _⟩ := ha
      obtain ⟨j, rfl, _⟩ := hb
      exact fin ⟨_, rfl⟩ rfl
    · cases e
  · split at e
    · cases e
      rw [Has] at ha hb
      obtain ⟨i, rfl, _⟩ := ha
      obtain ⟨j, rfl, _⟩ := hb
      exact fin ⟨_, rfl⟩ rfl
    · cases e
  · split at e
    · cases e
      rw [Has] at ha hb
      obtain ⟨i, rfl, _⟩ := ha
      obtain ⟨j, rfl, _⟩ := hb
      exact fin ⟨_, rfl⟩ rfl
    · cases e
  · split at e
    · cases e
      rw [Has] at ha hb
      obtain ⟨i, rfl, _⟩ := ha
      obtain ⟨j, rfl, _⟩ := hb
      exact fin ⟨_, rfl⟩ rfl
    · cases e
  · split at e
    · cases e
      rw [Has] at hb
      subst hb
      exact fin ⟨_, rfl⟩ rfl
    · cases e
  · split at e
    · cases e
      rw [Has] at hb
      subst hb
      exact fin ⟨_, rfl⟩ rfl
    · cases e
  · split at e
    · rename_i q
      simp only [Bool.and_eq_true] at q
      cases e
      obtain ⟨w, s1⟩ := smOk_has q.1.1 ha
      obtain ⟨w', s2⟩ := smOk_has q.1.2 hb
      exact fin (inD_sm s1 s2 (seq_shape hb q.2)) rfl
    · cases e
  · split at e
    · rename_i q
      simp only [Bool.and_eq_true] at q
      cases e
      obtain ⟨w, s1⟩ := smOk_has q.1.1 ha
      obtain ⟨w', s2⟩ := smOk_has q.1.2 hb
      obtain ⟨k, hk⟩ := inD_sm (m := m) s1 s2 (seq_shape hb q.2)
      exact fin ⟨!k, by show (inD m a b).map (!·) = _; rw [hk]; rfl⟩ rfl
    · cases e
end Z
/-! ZN: shapes through built-in functions and walks (plain Lean). -/
namespace Z
open PySem
variable {n : Nat} {m : Mem} {d a b : D} {t u v : Ty}
theorem ints_of {lo hi : Int} : ∀ {l : List D}, (∀ x ∈ l, Has n (.int lo hi) x) → ∃ ns : List Int, l = ns.map D.int ∧ ∀ i ∈ ns, lo ≤ i ∧ i ≤ hi
  | [], _ => ⟨[], rfl, by simp⟩
  | d :: l, h => by
    obtain ⟨ns, rfl, h2⟩ := ints_of (l := l) fun x hx => h x (List.mem_cons_of_mem _ hx)
    have q := h d (List.mem_cons_self ..)
    rw [Has] at q
    obtain ⟨i, rfl, q1, q2⟩ := q
    refine ⟨i :: ns, rfl, fun j hj => ?_⟩
    rcases List.mem_cons.mp hj with rfl | hj
    · exact ⟨q1, q2⟩
    · exact h2 j hj
theorem has_ints {lo hi : Int} {ns : List Int} (h : ∀ i ∈ ns, lo ≤ i ∧ i ≤ hi) : ∀ x ∈ ns.map D.int, Has n (.int lo hi) x := fun x hx => by
  obtain ⟨i, hi, rfl⟩ := List.mem_map.mp hx
  exact has_int (h i hi).1 (h i hi).2
theorem bls_of : ∀ {l : List D}, (∀ x ∈ l, Has n .bl x) → ∃ bs : List Bool, l = bs.map D.bl
  | [], _ => ⟨[], rfl⟩
  | d :: l, h => by
    obtain ⟨bs, rfl⟩ := bls_of (l := l) fun x hx => h x (List.mem_cons_of_mem _ hx)
    have q := h d (List.mem_cons_self ..)
    rw [Has] at q
    obtain ⟨b, rfl⟩ := q
    exact ⟨b :: bs, rfl⟩
theorem foldl_min {ns : List Int} {lo hi : Int} (h : ∀ i ∈ ns, lo ≤ i ∧ i ≤ hi) : ∀ {k : Int}, lo ≤ k → k ≤ hi → lo ≤ ns.foldl min k ∧ ns.foldl min k ≤ hi := by
  induction ns with
  | nil => intro k h1 h2; exact ⟨h1, h2⟩
  | cons i ns ih =>
    intro k h1 h2
    have q := h i (List.mem_cons_self ..)
    rw [List.foldl_cons]
    exact ih (fun j hj => h j (List.mem_cons_of_mem _ hj)) (by omega) (by omega)
theorem foldl_max {ns : List Int} {lo hi : Int} (h : ∀ i ∈ ns, lo ≤ i ∧ i ≤ hi) : ∀ {k : Int}, lo ≤ k → k ≤ hi → lo ≤ ns.foldl max k ∧ ns.foldl max k ≤ hi := by
  induction ns with
  | nil => intro k h1 h2; exact ⟨h1, h2⟩
  | cons i ns ih =>
    intro k h1 h2
    have q := h i (List.mem_cons_self ..)
    rw [List.foldl_cons]
    exact ih (fun j hj => h j (List.mem_cons_of_mem _ hj)) (by omega) (by omega)
theorem sum_in {ns : List Int} {lo hi : Int} (h : ∀ i ∈ ns, lo ≤ i ∧ i ≤ hi) : (ns.length : Int) * lo ≤ ns.sum ∧ ns.sum ≤ (ns.length : Int) * hi := by
  induction ns with
  | nil => simp
  | cons i ns ih =>
    have q := h i (List.mem_cons_self ..)
    have r := ih fun j hj => h j (List.mem_cons_of_mem _ hj)
    rw [List.sum_cons, List.length_cons, Int.natCast_add, Int.add_mul, Int.add_mul]
    omega
/-! ### what may be sorted -/
mutual
/-- whatever is of the one, whatever is of the other: they can be compared -/
def Ty.alk : Nat → Ty → Ty → Bool
  | 0, _, _ => false
  | _ + 1, .no, _ => true
  | _ + 1, _, .no => true
  | k + 1, .un a b, c => Ty.alk k a c && Ty.alk k b c
  | k + 1, a, .un b c => Ty.alk k a b && Ty.alk k a c
  | _ + 1, .int _ _, .int _ _ => true
  | _ + 1, .bl, .bl => true
  | _ + 1, .non, .non => true
  | _ + 1, .str _, .str _ => true
  | k + 1, .tup l, .tup r => Tys.alk k l r
  | k + 1, .tup l, .tups t _ _ => Ty.alk k l.all t
  | k + 1, .tups t _ _, .tup l => Ty.alk k t l.all
  | k + 1, .tups t _ _, .tups u _ _ => Ty.alk k t u
  | _ + 1, _, _ => false
def Tys.alk : Nat → Tys → Tys → Bool
  | _, .nil, _ => true
  | _, _, .nil => true
  | 0, _, _ => false
  | k + 1, .cons t l, .cons u r => Ty.alk k t u && Tys.alk k l r
end
theorem alks_of {P Q : D → Prop} (h : ∀ a b x y, P a → Q b → toPy a = some x → toPy b = some y → PySem.W.alike x y = true) : ∀ {l r : List D} {xs ys : List PyData}, (∀ a ∈ l, P a) → (∀ b ∈ r, Q b) → toPys l = some xs → toPys r = some ys → PySem.W.alikeAll xs ys = true
  | [], _, _, _, _, _, e, _ => by rw [toPys] at e; cases e; simp [PySem.W.alikeAll]
  | a :: l, [], _, _, _, _, _, e => by rw [toPys] at e; cases e; cases ‹List PyData› <;> simp [PySem.W.alikeAll]
  | a :: l, b :: r, _, _, hp, hq, e, e' => by
    rw [toPys] at e e'
    split at e
    · rename_i e1 e2
      split at e'
      · rename_i e3 e4
        cases e; cases e'
        rw [PySem.W.alikeAll, h a b _ _ (hp a (List.mem_cons_self ..)) (hq b (List.mem_cons_self ..)) e1 e3, alks_of h (fun x hx => hp x (List.mem_cons_of_mem _ hx)) (fun x hx => hq x (List.mem_cons_of_mem _ hx)) e2 e4]
        rfl
      · cases e'
    · cases e
theorem toPy_tup {l : List D} {x : PyData} (e : toPy (.tup l) = some x) : ∃ xs, toPys l = some xs ∧ x = .tuple xs := by
  rw [toPy] at e
  split at e
  · cases e; exact ⟨_, ‹_›, rfl⟩
  · cases e
mutual
theorem alk_ok : ∀ {k : Nat} {t u : Ty} {a b : D} {x y : PyData}, Ty.alk k t u = true → Has n t a → Has n u b → toPy a = some x → toPy b = some y → PySem.W.alike x y = true := by
  intro k t u a b x y e ha hb hx hy
  unfold Ty.alk at e
  split at e
  · cases e
  · rw [Has] at ha; exact ha.elim
  · rw [Has] at hb; exact hb.elim
  · rw [Bool.and_eq_true] at e
    rw [Has] at ha
    rcases ha with ha | ha
    · exact alk_ok e.1 ha hb hx hy
    · exact alk_ok e.2 ha hb hx hy
  · rw [Bool.and_eq_true] at e
    rw [Has] at hb
    rcases hb with hb | hb
    · exact alk_ok e.1 ha hb hx hy
    · exact alk_ok e.2 ha hb hx hy
  · rw [Has] at ha hb
    obtain ⟨_, rfl, _⟩ := ha
    obtain ⟨_, rfl, _⟩ := hb
    rw [toPy] at hx hy; cases hx; cases hy; simp [PySem.W.alike]
  · rw [Has] at ha hb
    obtain ⟨_, rfl⟩ := ha
    obtain ⟨_, rfl⟩ := hb
    rw [toPy] at hx hy; cases hx; cases hy; simp [PySem.W.alike]
  · rw [Has] at ha hb
    subst ha; subst hb
    rw [toPy] at hx hy; cases hx; cases hy; simp [PySem.W.alike]
  · rw [Has] at ha hb
    obtain ⟨_, rfl, _⟩ := ha
    obtain ⟨_, rfl, _⟩ := hb
    rw [toPy] at hx hy; cases hx; cases hy; simp [PySem.W.alike]
  · rw [Has] at ha hb
    obtain ⟨l, rfl, ha⟩ := ha
    obtain ⟨r, rfl, hb⟩ := hb
    obtain ⟨xs, ex, rfl⟩ := toPy_tup hx
    obtain ⟨ys, ey, rfl⟩ := toPy_tup hy
    rw [PySem.W.alike]
    exact alks_ok e ha hb ex ey
  · rw [Has.eq_def] at ha hb; dsimp only at ha hb
    obtain ⟨l, rfl, ha⟩ := ha
    obtain ⟨r, rfl, _, _, hb⟩ := hb
    obtain ⟨xs, ex, rfl⟩ := toPy_tup hx
    obtain ⟨ys, ey, rfl⟩ := toPy_tup hy
    rw [PySem.W.alike]
    exact alks_of (fun a b x y p q => alk_ok e p q) (all_has ha) hb ex ey
  · rw [Has.eq_def] at ha hb; dsimp only at ha hb
    obtain ⟨l, rfl, _, _, ha⟩ := ha
    obtain ⟨r, rfl, hb⟩ := hb
    obtain ⟨xs, ex, rfl⟩ := toPy_tup hx
    obtain ⟨ys, ey, rfl⟩ := toPy_tup hy
    rw [PySem.W.alike]
    exact alks_of (fun a b x y p q => alk_ok e p q) ha (all_has hb) ex ey
  · rw [Has] at ha hb
    obtain ⟨l, rfl, _, _, ha⟩ := ha
    obtain ⟨r, rfl, _, _, hb⟩ := hb
    obtain ⟨xs, ex, rfl⟩ := toPy_tup hx
    obtain ⟨ys, ey, rfl⟩ := toPy_tup hy
    rw [PySem.W.alike]
    exact alks_of (fun a b x y p q => alk_ok e p q) ha hb ex ey
  · cases e
theorem alks_ok : ∀ {k : Nat} {t u : Tys} {a b : List D} {x y : List PyData}, Tys.alk k t u = true → Hass n t a → Hass n u b → toPys a = some x → toPys b = some y → PySem.W.alikeAll x y = true := by
  intro k t u a b x y e ha hb hx hy
  unfold Tys.alk at e
  split at e
  · rw [Hass] at ha; subst ha; rw [toPys] at hx; cases hx; simp [PySem.W.alikeAll]
  · rw [Hass] at hb; subst hb; rw [toPys] at hy; cases hy; cases x <;> simp [PySem.W.alikeAll]
  · cases e
  · rw [Bool.and_eq_true] at e
    rw [Hass] at ha hb
    obtain ⟨a1, as, rfl, h1, h2⟩ := ha
    obtain ⟨b1, bs, rfl, h3, h4⟩ := hb
    rw [toPys] at hx hy
    split at hx
    · rename_i e1 e2
      split at hy
      · rename_i e3 e4
        cases hx; cases hy
        rw [PySem.W.alikeAll, alk_ok e.1 h1 h3 e1 e3, alks_ok e.2 h2 h4 e2 e4]
        rfl
      · cases hy
    · cases hx
end
/-- rows, none of them of nothing -/
def Ty.rowy : Ty → Bool
  | .no => true
  | .tup (.cons _ _) => true
  | .tups _ lo _ => decide (0 < lo)
  | .un a b => a.rowy && b.rowy
  | _ => false
theorem rowy_ok : ∀ {t : Ty} {d : D}, t.rowy = true → Has n t d → ∃ x l, d = .tup (x :: l)
  | .no, _, _, h => by rw [Has] at h; exact h.elim
  | .tup .nil, _, e, _ => by cases e
  | .tup (.cons _ _), _, _, h => by
    rw [Has] at h
    obtain ⟨ds, rfl, h⟩ := h
    rw [Hass] at h
    obtain ⟨x, xs, rfl, _⟩ := h
    exact ⟨x, xs, rfl⟩
  | .tups _ lo _, _, e, h => by
    rw [Has] at h
    obtain ⟨ds, rfl, h1, _⟩ := h
    have : 0 < lo := of_decide_eq_true e
    cases ds with
    | nil => simp at h1; omega
    | cons x l => exact ⟨x, l, rfl⟩
  | .un a b, _, e, h => by
    rw [Ty.rowy, Bool.and_eq_true] at e
    rw [Has] at h
    rcases h with h | h
    · exact rowy_ok e.1 h
    · exact rowy_ok e.2 h
  | .non, _, e, _ => by cases e
  | .bl, _, e, _ => by cases e
  | .int _ _, _, e, _ => by cases e
  | .str _, _, e, _ => by cases e
  | .lst _, _, e, _ => by cases e
  | .lsts _ _ _, _, e, _ => by cases e
  | .feed, _, e, _ => by cases e
  | .dat _ _, _, e, _ => by cases e
def Ty.srtB (t : Ty) : Bool := (match t.sm with | some (_, p) => decide (p ≤ 60) | none => false) && Ty.alk 30 t t && t.rowy
theorem srtB_ok {t : Ty} (e : t.srtB = true) {l : List D} (h : ∀ x ∈ l, Has n t x) : sortOk l = true := by
  unfold Ty.srtB at e
  rw [Bool.and_eq_true, Bool.and_eq_true] at e
  obtain ⟨⟨e1, e2⟩, e3⟩ := e
  split at e1
  · rename_i w p hs
    have hp := of_decide_eq_true e1
    have py : ∀ d ∈ l, ∃ x, toPy d = some x ∧ pyd d = x ∧ x.depth ≤ 60 ∧ ∃ a r, d = .tup (a :: r) := fun d hd => by
      obtain ⟨x, ex, s⟩ := sm_has hs (h d hd)
      obtain ⟨a, r, hr⟩ := rowy_ok e3 (h d hd)
      exact ⟨x, ex, by unfold pyd; rw [ex], Nat.le_trans s.dep hp, a, r, hr⟩
    unfold sortOk
    rw [Bool.and_eq_true, Bool.or_eq_true, Bool.and_eq_true]
    refine ⟨?_, .inl ⟨?_, ?_⟩⟩
    · rw [List.all_eq_true]
      intro d hd
      obtain ⟨x, ex, h2, h3, _⟩ := py d hd
      rw [ex, h2, decide_eq_true h3]
      rfl
    · rw [List.all_eq_true]
      intro a ha
      rw [List.all_eq_true]
      intro b hb
      obtain ⟨x, ex, h2, _⟩ := py a ha
      obtain ⟨y, ey, h3, _⟩ := py b hb
      rw [h2, h3]
      exact alk_ok e2 (h a ha) (h b hb) ex ey
    · rw [Bool.or_eq_true]
      left
      rw [List.all_eq_true]
      intro d hd
      obtain ⟨x, ex, h2, _, a, r, rfl⟩ := py d hd
      rw [h2]
      obtain ⟨xs, e5, rfl⟩ := toPy_tup ex
      rw [toPys] at e5
      split at e5
      · cases e5; rfl
      · cases e5
  · cases e1
theorem asInts_row {a : D} {r l : List D} (h : D.tup r ∈ l) : asInts l = none := by
  induction l with
  | nil => cases h
  | cons d l ih =>
    rcases List.mem_cons.mp h with rfl | h
    · rfl
    · have q := ih h
      cases d <;> first | rfl | (rw [asInts, q]; rfl)
theorem bi_sortedR {l : List D} (h : itemsD d = some l) (ok : sortOk l = true) (hr : ∀ x ∈ l, ∃ a r, x = .tup (a :: r)) : biD .sorted m [d] = some (.lst (sortD l)) := by
  have key : ∀ l : List D, sortOk l = true → (∀ x ∈ l, ∃ a r, x = D.tup (a :: r)) → (match asInts l with | some ns => some (D.lst ((ns.mergeSort (fun a b => decide (a ≤ b))).map D.int)) | none => if sortOk l then some (.lst (sortD l)) else none) = some (.lst (sortD l)) := fun l ok hr => by
    cases l with
    | nil =>
      show some (D.lst (([].mergeSort (fun a b => decide (a ≤ b)) : List Int).map D.int)) = some (.lst ([].mergeSort _))
      rw [List.mergeSort_nil, List.mergeSort_nil]; rfl
    | cons x l =>
      obtain ⟨a, r, rfl⟩ := hr x (List.mem_cons_self ..)
      rw [asInts_row (a := a) (List.mem_cons_self ..)]
      dsimp only
      rw [if_pos ok]
  cases d <;> simp [itemsD] at h <;> subst h
  · exact key _ ok hr
  · exact key _ ok hr
/-- a built-in function of one thing, single shape -/
def tBi1 (f : Bi) (x : Ty) : Option Ty := match f with
  | .len => match x.els with | some (_, p, q) => some (.int p q) | none => none
  | .list => match x.fix with
    | some l => some (.lst l)
    | none => match x.els with | some (t, p, q) => some (.lsts t p q) | none => none
  | .tuple => match x.fix with
    | some l => some (.tup l)
    | none => match x.els with | some (t, p, q) => some (.tups t p q) | none => none
  | .sorted => match x.els with
    | some (t, p, q) => match t with
      | .int lo hi => some (.lsts (.int lo hi) p q)
      | t => if t.srtB then some (.lsts t p q) else none
    | none => none
  | .sum => match x.els with | some (.int lo hi, _, q) => if 0 ≤ lo ∧ 0 ≤ hi ∧ x.lstE.isSome = true then some (.int 0 (q * hi)) else none | _ => none
  | .min => match x.els with | some (.int lo hi, p, _) => if 0 < p then some (.int lo hi) else none | _ => none
  | .max => match x.els with | some (.int lo hi, p, _) => if 0 < p then some (.int lo hi) else none | _ => none
  | .all => match x.lstE with | some (.bl, _, _) => some .bl | _ => none
  | .any => match x.lstE with | some (.bl, _, _) => some .bl | _ => none
  | .int => match x with | .int a b => some (.int a b) | .bl => some (.int 0 1) | _ => none
  | _ => none
theorem fix_items {l : Tys} (e : t.fix = some l) (h : Has n t d) : ∃ ds, itemsD d = some ds ∧ Hass n l ds := by
  cases t <;> simp [Ty.fix] at e
  · subst e; rw [Has] at h; obtain ⟨ds, rfl, h⟩ := h; exact ⟨ds, rfl, h⟩
  · subst e; rw [Has] at h; obtain ⟨ds, rfl, h⟩ := h; exact ⟨ds, rfl, h⟩
theorem bi_len {l : List D} (h : itemsD d = some l) : biD .len m [d] = some (.int l.length) := by
  cases d <;> simp [itemsD] at h <;> subst h <;> rfl
theorem bi_list {l : List D} (h : itemsD d = some l) : biD .list m [d] = some (.lst l) := by
  cases d <;> simp [itemsD] at h <;> subst h <;> rfl
theorem bi_tuple {l : List D} (h : itemsD d = some l) : biD .tuple m [d] = some (.tup l) := by
  cases d <;> simp [itemsD] at h <;> subst h <;> rfl
theorem bi_sorted {ns : List Int} (h : itemsD d = some (ns.map D.int)) : biD .sorted m [d] = some (.lst ((srt ns).map D.int)) := by
  cases d <;> simp [itemsD] at h <;> subst h
  · exact bi_sorted_tup ns
  · exact bi_sorted_lst ns
theorem bi_min {i : Int} {ns : List Int} (h : itemsD d = some ((i :: ns).map D.int)) : biD .min m [d] = some (.int (ns.foldl min i)) := by
  have e := asInts_map (i :: ns)
  cases d <;> simp only [itemsD, Option.some.injEq] at h <;> first | (cases h; done) | skip
  · subst h
    show (asInts ((i :: ns).map D.int)).bind _ = _
    rw [e]; rfl
  · subst h
    show (asInts ((i :: ns).map D.int)).bind _ = _
    rw [e]; rfl
theorem bi_max {i : Int} {ns : List Int} (h : itemsD d = some ((i :: ns).map D.int)) : biD .max m [d] = some (.int (ns.foldl max i)) := by
  have e := asInts_map (i :: ns)
  cases d <;> simp only [itemsD, Option.some.injEq] at h <;> first | (cases h; done) | skip
  · subst h
    show (asInts ((i :: ns).map D.int)).bind _ = _
    rw [e]; rfl
  · subst h
    show (asInts ((i :: ns).map D.int)).bind _ = _
    rw [e]; rfl
theorem tBi1_ok {f : Bi} (x u : Ty) (a : D) (e : tBi1 f x = some u) (ha : Has n x a) : ∃ r, biD f m [a] = some r ∧ Has n u r := by
  unfold tBi1 at e
  split at e
  · split at e
    · rename_i q
      cases e
      obtain ⟨l, h1, h2, h3, _⟩ := els_has q ha
      exact ⟨_, bi_len h1, has_int (by omega) (by omega)⟩
    · cases e
  · split at e
    · rename_i q
      cases e
      obtain ⟨l, h1, h2⟩ := fix_items q ha
      exact ⟨_, bi_list h1, by rw [Has]; exact ⟨l, rfl, h2⟩⟩
    · split at e
      · rename_i q
        cases e
        obtain ⟨l, h1, h2, h3, h4⟩ := els_has q ha
        exact ⟨_, bi_list h1, has_lsts h2 h3 h4⟩
      · cases e
  · split at e
    · rename_i q
      cases e
      obtain ⟨l, h1, h2⟩ := fix_items q ha
      exact ⟨_, bi_tuple h1, by rw [Has]; exact ⟨l, rfl, h2⟩⟩
    · split at e
      · rename_i q
        cases e
        obtain ⟨l, h1, h2, h3, h4⟩ := els_has q ha
        exact ⟨_, bi_tuple h1, has_tups h2 h3 h4⟩
      · cases e
  · split at e
    · rename_i q
      obtain ⟨l, h1, h2, h3, h4⟩ := els_has q ha
      split at e
      · cases e
        obtain ⟨ns, rfl, h5⟩ := ints_of h4
        rw [List.length_map] at h2 h3
        refine ⟨_, bi_sorted h1, has_lsts (by rw [List.length_map, (srt_perm ns).length_eq]; exact h2) (by rw [List.length_map, (srt_perm ns).length_eq]; exact h3) (has_ints fun i hi => h5 i ((srt_perm ns).mem_iff.mp hi))⟩
      · split at e
        · rename_i q2
          cases e
          have hp : (sortD l).Perm l := List.mergeSort_perm l _
          have hrw : ∀ x ∈ l, ∃ a r, x = D.tup (a :: r) := fun x hx => by
            unfold Ty.srtB at q2
            rw [Bool.and_eq_true] at q2
            exact rowy_ok q2.2 (h4 x hx)
          exact ⟨_, bi_sortedR h1 (srtB_ok q2 h4) hrw, has_lsts (by rw [hp.length_eq]; exact h2) (by rw [hp.length_eq]; exact h3) fun z hz => h4 z (hp.mem_iff.mp hz)⟩
        · cases e
    · cases e
  · split at e
    · split at e
      · rename_i q q2
        cases e
        obtain ⟨l, h1, h2, h3, h4⟩ := els_has q ha
        obtain ⟨ns, rfl, h5⟩ := ints_of h4
        rw [List.length_map] at h2 h3
        obtain ⟨⟨t', p', q'⟩, hl⟩ := Option.isSome_iff_exists.mp q2.2.2
        obtain ⟨ds, rfl, _⟩ := lstE_has hl ha
        simp only [itemsD, Option.some.injEq] at h1
        subst h1
        have s := sum_in h5
        refine ⟨_, bi_sum ns, has_int ?_ ?_⟩
        · exact Int.le_trans (Int.mul_nonneg (by omega) q2.1) s.1
        · exact Int.le_trans s.2 (Int.mul_le_mul_of_nonneg_right (by omega) q2.2.1)
      · cases e
    · cases e
  · split at e
    · split at e
      · rename_i q q2
        cases e
        obtain ⟨l, h1, h2, h3, h4⟩ := els_has q ha
        obtain ⟨ns, rfl, h5⟩ := ints_of h4
        rw [List.length_map] at h2 h3
        cases ns with
        | nil => simp at h2; omega
        | cons i ns =>
          have q := h5 i (List.mem_cons_self ..)
          have r := foldl_min (ns := ns) (fun j hj => h5 j (List.mem_cons_of_mem _ hj)) q.1 q.2
          exact ⟨_, bi_min h1, has_int r.1 r.2⟩
      · cases e
    · cases e
  · split at e
    · split at e
      · rename_i q q2
        cases e
        obtain ⟨l, h1, h2, h3, h4⟩ := els_has q ha
        obtain ⟨ns, rfl, h5⟩ := ints_of h4
        rw [List.length_map] at h2 h3
        cases ns with
        | nil => simp at h2; omega
        | cons i ns =>
          have q := h5 i (List.mem_cons_self ..)
          have r := foldl_max (ns := ns) (fun j hj => h5 j (List.mem_cons_of_mem _ hj)) q.1 q.2
          exact ⟨_, bi_max h1, has_int r.1 r.2⟩
      · cases e
    · cases e
  · split at e
    · rename_i q
      cases e
      obtain ⟨ds, rfl, _, _, h⟩ := lstE_has q ha
      obtain ⟨bs, rfl⟩ := bls_of h
      exact ⟨_, bi_all bs, has_bl _⟩
    · cases e
  · split at e
    · rename_i q
      cases e
      obtain ⟨ds, rfl, _, _, h⟩ := lstE_has q ha
      obtain ⟨bs, rfl⟩ := bls_of h
      exact ⟨_, bi_any bs, has_bl _⟩
    · cases e
  · split at e
    · cases e
      rw [Has] at ha
      obtain ⟨i, rfl, h1, h2⟩ := ha
      exact ⟨_, rfl, has_int h1 h2⟩
    · cases e
      rw [Has] at ha
      obtain ⟨b, rfl⟩ := ha
      refine ⟨_, rfl, ?_⟩
      cases b
      · exact has_int (by decide) (by decide)
      · exact has_int (by decide) (by decide)
    · cases e
  · cases e
end Z
/-! ZO: the shape of a piece of code (plain Lean). -/
namespace Z
open PySem
/-- what is known of a variable -/
inductive VT where
  | un | val (t : Ty) | ml (t : Ty) (lo hi : Nat)
  deriving Inhabited
abbrev TE := List VT
/-- all as it was, but the feed (which is a feed still) and what is new -/
structure Wid (Fd : MO → Prop) (n : Nat) (m m' : Mem) : Prop where
  len : m'.length = m.length
  old : ∀ j, j < m.length → j ≠ n → m'[j]? = m[j]?
  feed : ∃ o, m'[n]? = some o ∧ Fd o
variable {Fd : MO → Prop} {n : Nat} {m m' m0 m1 m2 : Mem} {Γ : TE} {e : Env} {G : Sg}
theorem Wid.refl (h : ∃ o, m[n]? = some o ∧ Fd o) : Wid Fd n m m := ⟨rfl, fun _ _ _ => rfl, h⟩
theorem Wid.trans (a : Wid Fd n m m1) (b : Wid Fd n m1 m2) : Wid Fd n m m2 := ⟨b.len.trans a.len, fun j h1 h2 => (b.old j (by rw [a.len]; exact h1) h2).trans (a.old j h1 h2), b.feed⟩
def VHas (n : Nat) (m0 m : Mem) : VT → Option D → Prop
  | .un, _ => True
  | .val t, o => ∃ d, o = some d ∧ Has n t d
  | .ml t lo hi, o => ∃ a l, o = some (.loc a) ∧ m0.length ≤ a ∧ m[a]? = some (.lst l) ∧ lo ≤ l.length ∧ l.length ≤ hi ∧ ∀ x ∈ l, Has n t x
def VT.isMl : VT → Bool
  | .ml _ _ _ => true
  | _ => false
structure Good (Fd : MO → Prop) (n : Nat) (m0 : Mem) (Γ : TE) (e : Env) (m : Mem) : Prop where
  ext : Wid Fd n m0 m
  nl : n < m0.length ∧ m0.length = 1
  ln : e.length = Γ.length
  vs : ∀ (i : Nat) (v : VT), Γ[i]? = some v → VHas n m0 m v (e.getD i none)
  dj : ∀ (i j : Nat) (v w : VT), i ≠ j → Γ[i]? = some v → Γ[j]? = some w → v.isMl = true → w.isMl = true → e.getD i none ≠ e.getD j none
theorem Good.go (g : Good Fd n m0 Γ e m) (x : Wid Fd n m m') : Good Fd n m0 Γ e m' := by
  refine ⟨g.ext.trans x, g.nl, g.ln, fun i v h => ?_, g.dj⟩
  have q := g.vs i v h
  cases v with
  | un => trivial
  | val t => exact q
  | ml t lo hi =>
    obtain ⟨a, l, h1, h2, h3, h4⟩ := q
    have al : a < m.length := (List.getElem?_eq_some_iff.mp h3).1
    have nl := g.nl
    exact ⟨a, l, h1, h2, (x.old a al (by omega)).trans h3, h4⟩
/-- what the calls come to -/
def CallOk (Fd : MO → Prop) (n : Nat) (G : Sg) (call : Nat → List Ty → Option Ty) : Prop :=
  ∀ (f : Nat) (ts : List Ty) (u : Ty) (args : List D) (m : Mem), call f ts = some u → Paired (Has n) ts args → n < m.length ∧ m.length = 1 → (∃ o, m[n]? = some o ∧ Fd o) → ∃ d m', G f args m = .ok d m' ∧ Has n u d ∧ Wid Fd n m m'
def tNeg1 : Ty → Option Ty
  | .int a b => some (.int (-b) (-a))
  | _ => none
def tOrd (op : CmpOp) : Bool := match op with | .Lt => true | .LtE => true | .Gt => true | .GtE => true | _ => false
def wipeT (Γ : TE) : List Nat → TE
  | [] => Γ
  | v :: vs => (wipeT Γ vs).set v .un
mutual
def T.bindT : T → Ty → TE → Option TE
  | .nm i, t, Γ => some (Γ.set i (.val t))
  | .tp l, t, Γ => match t with
    | .tup ts => l.bindT ts Γ
    | _ => none
def Ts.bindT : Ts → Tys → TE → Option TE
  | .nil, .nil, Γ => some Γ
  | .cons t l, .cons x xs, Γ => match t.bindT x Γ with
    | some Γ => l.bindT xs Γ
    | none => none
  | _, _, _ => none
end
/-- a cut's bound -/
def bdOf : Ty → Option Bd
  | .int a b => if 0 ≤ a ∨ b < 0 then some (some (a, b)) else none
  | _ => none
/-- sorted the other way about; turned about -/
def tSrtR1 (x : Ty) : Option Ty := match x.lstE with
  | some (.int lo hi, p, q) => some (.lsts (.int lo hi) p q)
  | _ => match x.tupE with
    | some (.int lo hi, p, q) => some (.lsts (.int lo hi) p q)
    | _ => none
def tRev1 (x : Ty) : Option Ty := match x.tupE with
  | some (t, p, q) => some (.tups t p q)
  | none => match x.lstE with
    | some (t, p, q) => some (.lsts t p q)
    | none => none
/-- items for n targets of which the last one is starred -/
def tStar (n : Nat) : Ty → Option Tys
  | .tup l => if 0 < n ∧ n ≤ l.len + 1 ∧ l.len ≤ 16000 then some ((l.take (n - 1)).app (.cons (.lst (l.drop (n - 1))) .nil)) else none
  | .tups t p q => if 0 < n ∧ n ≤ p + 1 ∧ q ≤ 16000 then some ((Tys.of (List.replicate (n - 1) t)).app (.cons (.lsts t (p - (n - 1)) (q - (n - 1))) .nil)) else none
  | _ => none
theorem hass_rep {t : Ty} : ∀ {k : Nat} {ds : List D}, ds.length = k → (∀ d ∈ ds, Has n t d) → Hass n (Tys.of (List.replicate k t)) ds
  | 0, [], _, _ => by rw [List.replicate_zero, Tys.of, Hass]
  | 0, _ :: _, h, _ => by simp at h
  | k + 1, [], h, _ => by simp at h
  | k + 1, d :: ds, h, hd => by
    rw [List.replicate_succ, Tys.of, Hass]
    exact ⟨d, ds, rfl, hd d (List.mem_cons_self ..), hass_rep (by simpa using h) fun x hx => hd x (List.mem_cons_of_mem _ hx)⟩
theorem tStar_ok {k : Nat} {x : Ty} {l : Tys} {d : D} (e : tStar k x = some l) (h : Has n x d) : ∃ ds, starD k d = some ds ∧ Hass n l ds := by
  unfold tStar at e
  split at e
  · split at e
    · rename_i l q
      cases e
      rw [Has] at h
      obtain ⟨ds, rfl, h⟩ := h
      have hl := h.len
      refine ⟨_, ?_, hass_app (hass_take (k := k - 1) h) (show Hass n (.cons (.lst (l.drop (k - 1))) .nil) [.lst (ds.drop (k - 1))] from ?_)⟩
      · show (if 0 < k ∧ k ≤ ds.length + 1 ∧ ds.length ≤ 16000 then _ else _) = _
        rw [if_pos ⟨q.1, by omega, by omega⟩]
      · rw [Hass]
        exact ⟨_, _, rfl, by rw [Has]; exact ⟨_, rfl, hass_drop h⟩, by rw [Hass]⟩
    · cases e
  · split at e
    · rename_i t p q hq
      cases e
      rw [Has] at h
      obtain ⟨ds, rfl, h1, h2, h3⟩ := h
      refine ⟨_, ?_, hass_app (hass_rep (k := k - 1) (ds := ds.take (k - 1)) (by rw [List.length_take]; omega) fun d hd => h3 d (List.mem_of_mem_take hd)) (show Hass n (.cons (.lsts t (p - (k - 1)) (q - (k - 1))) .nil) [.lst (ds.drop (k - 1))] from ?_)⟩
      · show (if 0 < k ∧ k ≤ ds.length + 1 ∧ ds.length ≤ 16000 then _ else _) = _
        rw [if_pos ⟨hq.1, by omega, by omega⟩]
      · rw [Hass]
        exact ⟨_, _, rfl, has_lsts (by rw [List.length_drop]; omega) (by rw [List.length_drop]; omega) fun d hd => h3 d (List.mem_of_mem_drop hd), by rw [Hass]⟩
    · cases e
  · cases e
/-- a chain of two orders of ints -/
def tChn (o1 o2 : CmpOp) (x y z : Ty) : Option Ty := match x, y, z with
  | .int _ _, .int _ _, .int _ _ => if tOrd o1 && tOrd o2 then some .bl else none
  | _, _, _ => none
def dfT : List (Nat × D) → Option (List (Nat × Ty))
  | [] => some []
  | (i, d) :: l => match tyOf d, dfT l with
    | some t, some r => some ((i, t) :: r)
    | _, _ => none
/-- what a test tells of a variable -/
def refI (op : CmpOp) (k : Bool) (c lo hi : Int) : Int × Int := match op, k with
  | .Lt, true => (lo, min hi (c - 1))
  | .Lt, false => (max lo c, hi)
  | .LtE, true => (lo, min hi c)
  | .LtE, false => (max lo (c + 1), hi)
  | .Gt, true => (max lo (c + 1), hi)
  | .Gt, false => (lo, min hi c)
  | .GtE, true => (max lo c, hi)
  | .GtE, false => (lo, min hi (c - 1))
  | .Eq, true => (max lo c, min hi c)
  | .Eq, false => (if lo = c then lo + 1 else lo, if hi = c then hi - 1 else hi)
  | .NotEq, false => (max lo c, min hi c)
  | .NotEq, true => (if lo = c then lo + 1 else lo, if hi = c then hi - 1 else hi)
  | _, _ => (lo, hi)
def orT : Ty → Ty → Ty
  | .no, y => y
  | x, .no => x
  | x, y => .un x y
/-- not None -/
def Ty.noNon : Ty → Ty
  | .non => .no
  | .un a b => orT a.noNon b.noNon
  | t => t
def refT (op : CmpOp) (k : Bool) (c : D) (t : Ty) : Ty := match c with
  | .int c => match t with
    | .int lo hi => .int (refI op k c lo hi).1 (refI op k c lo hi).2
    | _ => t
  | .non => match op, k with
    | .Is, false => t.noNon
    | .IsNot, true => t.noNon
    | .Is, true => .non
    | .IsNot, false => .non
    | _, _ => t
  | _ => t
def rfn : C → Bool → TE → TE
  | .cmp op (.var i) (.con c), k, Γ => match Γ[i]? with
    | some (.val t) => Γ.set i (.val (refT op k c t))
    | _ => Γ
  | .not a, k, Γ => rfn a (!k) Γ
  | .and a b, true, Γ => rfn b true (rfn a true Γ)
  | .or a b, false, Γ => rfn b false (rfn a false Γ)
  | _, _, Γ => Γ
mutual
def aE (call : Nat → List Ty → Option Ty) : C → TE → Option Ty
  | .var i, Γ => match Γ[i]? with | some (.val t) => some t | _ => none
  | .con d, _ => tyOf d
  | .tup l, Γ => match aEs call l Γ with | some ts => some (.tup (.of ts)) | none => none
  | .lst l, Γ => match aEs call l Γ with | some ts => some (.lst (.of ts)) | none => none
  | .bin op a b, Γ => match aE call a Γ, aE call b Γ with | some x, some y => over2 (tBin1 op) x y | _, _ => none
  | .neg a, Γ => match aE call a Γ with | some x => over1 tNeg1 x | none => none
  | .cmp op a b, Γ => match aE call a Γ, aE call b Γ with | some x, some y => over2 (tCmp1 op) x y | _, _ => none
  | .and a b, Γ => match aE call a Γ, aE call b (rfn a true Γ) with | some .bl, some .bl => some .bl | _, _ => none
  | .or a b, Γ => match aE call a Γ, aE call b (rfn a false Γ) with | some .bl, some .bl => some .bl | _, _ => none
  | .not a, Γ => match aE call a Γ with | some .bl => some .bl | _ => none
  | .ite t a b, Γ => match aE call t Γ, aE call a (rfn t true Γ), aE call b (rfn t false Γ) with | some .bl, some x, some y => some (jn x y) | _, _, _ => none
  | .sub a i, Γ => match aE call a Γ, aE call i Γ with | some x, some y => over2 tSub1 x y | _, _ => none
  | .cut a lo hi, Γ => match aE call a Γ, aEo call lo Γ, aEo call hi Γ with | some x, some l, some h => over1 (tCut1 l h) x | _, _, _ => none
  | .call f l, Γ => match aEs call l Γ with | some ts => call f ts | none => none
  | .callk f np l ix kw df, Γ => match aEs call l Γ, aEs call kw Γ, dfT df with
    | some ts, some ks, some ds => call f (placed np ts ix ks ds .non)
    | _, _, _ => none
  | .srtR a, Γ => match aE call a Γ with | some x => over1 tSrtR1 x | none => none
  | .rev a, Γ => match aE call a Γ with | some x => over1 tRev1 x | none => none
  | .chn o1 o2 a b c, Γ => match aE call a Γ, aE call b Γ, aE call c Γ with | some x, some y, some z => tChn o1 o2 x y z | _, _, _ => none
  | .bi f l, Γ => match l with
    | .cons c .nil => match aE call c Γ with
      | some x => over1 (tBi1 f) x
      | none => match c with
        | .var i => match Γ[i]? with
          | some (.ml t lo hi) => over1 (tBi1 f) (.lsts t lo hi)
          | _ => none
        | _ => none
    | _ => none
  | .comp own elt t it ifs, Γ => match aIx call it Γ (aE call it Γ) with
    | some (x, p, q) => match t.bindT x (wipeT Γ own) with
      | some Γ' => match aFs call ifs Γ', aE call elt Γ' with
        | some b, some u => some (.lsts u (if b then p else 0) q)
        | _, _ => none
      | none => none
    | none => none
  | .srtc own elt t it ifs, Γ => match aIx call it Γ (aE call it Γ) with
    | some (x, _, q) => match t.bindT x (wipeT Γ own) with
      | some Γ' => match aFs call ifs Γ', aE call elt Γ' with
        | some _, some (.int lo hi) => if q < 64 then some (.lsts (.int lo hi) 0 q) else none
        | _, _ => none
      | none => none
    | none => none
  | _, _ => none
def aEs (call : Nat → List Ty → Option Ty) : Cs → TE → Option (List Ty)
  | .nil, _ => some []
  | .cons c l, Γ => match aE call c Γ, aEs call l Γ with | some t, some ts => some (t :: ts) | _, _ => none
/-- the tests of a comprehension: are there none? -/
def aFs (call : Nat → List Ty → Option Ty) : Cs → TE → Option Bool
  | .nil, _ => some true
  | .cons c l, Γ => match aE call c Γ, aFs call l Γ with | some .bl, some _ => some false | _, _ => none
def aEo (call : Nat → List Ty → Option Ty) : Co → TE → Option Bd
  | .none, _ => some none
  | .some c, Γ => match aE call c Γ with | some x => bdOf x | none => none
/-- what is walked: its items' shape, how many -/
def aIx (call : Nat → List Ty → Option Ty) : C → TE → Option Ty → Option (Ty × Nat × Nat)
  | .rng a, Γ, _ => match aE call a Γ with
    | some (.int lo hi) => if -1000000 ≤ lo ∧ hi ≤ 1000000 then some (.int 0 (hi - 1), lo.toNat, hi.toNat) else none
    | _ => none
  | .zip a b, Γ, _ => match aE call a Γ, aE call b Γ with
    | some x, some y => match x.tupE, y.tupE with
      | some (t, p, q), some (u, r, s) => some (.tup (.cons t (.cons u .nil)), min p r, min q s)
      | _, _ => match x.lstE, y.lstE with
        | some (t, p, q), some (u, r, s) => some (.tup (.cons t (.cons u .nil)), min p r, min q s)
        | _, _ => none
    | _, _ => none
  | .rng2 _ _, _, _ => none
  | .enum _, _, _ => none
  | c, Γ, x => match x with
    | some x => x.els
    | none => none
end
def aI (call : Nat → List Ty → Option Ty) (c : C) (Γ : TE) : Option (Ty × Nat × Nat) := aIx call c Γ (aE call c Γ)
theorem hass_of : ∀ {ts : List Ty} {ds : List D}, Paired (Has n) ts ds → Hass n (.of ts) ds
  | [], _, h => by cases h; rw [Tys.of, Hass]
  | t :: ts, _, h => by
    cases h with
    | cons h1 h2 => rw [Tys.of, Hass]; exact ⟨_, _, rfl, h1, hass_of h2⟩
theorem wipeT_len : ∀ {l : List Nat}, (wipeT Γ l).length = Γ.length
  | [] => rfl
  | v :: vs => by rw [wipeT, List.length_set, wipeT_len]
theorem wipe_len : ∀ {l : List Nat}, (wipe e l).length = e.length
  | [] => rfl
  | v :: vs => by rw [wipe, List.length_set, wipe_len]
theorem getD_set_ne {o : Option D} {i j : Nat} (h : i ≠ j) : (e.set i o).getD j none = e.getD j none := by
  rw [List.getD_eq_getElem?_getD, List.getD_eq_getElem?_getD, List.getElem?_set_ne h]
theorem getD_set_self {o : Option D} {i : Nat} (h : i < e.length) : (e.set i o).getD i none = o := by
  rw [List.getD_eq_getElem?_getD, List.getElem?_set_self h, Option.getD_some]
/-- a variable is given a value, or forgotten -/
theorem Good.set (g : Good Fd n m0 Γ e m) {i : Nat} {v : VT} {o : Option D} (h : i < e.length → VHas n m0 m v o) (hv : v.isMl = false) : Good Fd n m0 (Γ.set i v) (e.set i o) m := by
  refine ⟨g.ext, g.nl, by rw [List.length_set, List.length_set, g.ln], fun j w hw => ?_, fun j k x y hjk hx hy mx my => ?_⟩
  · by_cases hij : i = j
    · subst hij
      have hl : i < Γ.length := by have := (List.getElem?_eq_some_iff.mp hw).1; rwa [List.length_set] at this
      rw [List.getElem?_set_self hl] at hw
      cases hw
      have hl2 : i < e.length := by rw [g.ln]; exact hl
      rw [getD_set_self hl2]
      exact h hl2
    · rw [List.getElem?_set_ne hij] at hw
      rw [getD_set_ne hij]
      exact g.vs j w hw
  · have ne : ∀ {j : Nat} {x : VT}, (Γ.set i v)[j]? = some x → x.isMl = true → i ≠ j := fun {j x} hx mx hij => by
      subst hij
      have hl : i < Γ.length := by have := (List.getElem?_eq_some_iff.mp hx).1; rwa [List.length_set] at this
      rw [List.getElem?_set_self hl] at hx
      cases hx
      rw [hv] at mx
      cases mx
    have n1 := ne hx mx
    have n2 := ne hy my
    rw [List.getElem?_set_ne n1] at hx
    rw [List.getElem?_set_ne n2] at hy
    rw [getD_set_ne n1, getD_set_ne n2]
    exact g.dj j k x y hjk hx hy mx my
theorem Good.wipe (g : Good Fd n m0 Γ e m) : ∀ {l : List Nat}, Good Fd n m0 (wipeT Γ l) (wipe e l) m
  | [] => g
  | v :: vs => (g.wipe (l := vs)).set (fun _ => trivial) rfl
mutual
theorem bindT_ok : ∀ {t : T} {x : Ty} {Γ Γ' : TE} {e : Env} {d : D}, t.bindT x Γ = some Γ' → Good Fd n m0 Γ e m → Has n x d → ∃ e', t.bind d e = some e' ∧ Good Fd n m0 Γ' e' m
  | .nm i, x, Γ, _, e, d, h, g, hd => by
    rw [T.bindT] at h
    cases h
    exact ⟨_, by rw [T.bind], g.set (v := .val x) (fun _ => ⟨d, rfl, hd⟩) rfl⟩
  | .tp l, x, Γ, _, e, d, h, g, hd => by
    cases x with
    | tup ts =>
      rw [T.bindT] at h
      rw [Has] at hd
      obtain ⟨ds, rfl, hd⟩ := hd
      obtain ⟨e', h1, h2⟩ := bindsT_ok h g hd
      exact ⟨e', by rw [T.bind]; exact h1, h2⟩
    | _ => simp [T.bindT] at h
theorem bindsT_ok : ∀ {t : Ts} {x : Tys} {Γ Γ' : TE} {e : Env} {d : List D}, t.bindT x Γ = some Γ' → Good Fd n m0 Γ e m → Hass n x d → ∃ e', t.bind d e = some e' ∧ Good Fd n m0 Γ' e' m
  | .nil, x, Γ, _, e, d, h, g, hd => by
    cases x with
    | nil =>
      rw [Ts.bindT] at h
      cases h
      rw [Hass] at hd
      subst hd
      exact ⟨e, by rw [Ts.bind], g⟩
    | cons y ys => simp [Ts.bindT] at h
  | .cons t l, x, Γ, _, e, d, h, g, hd => by
    cases x with
    | nil => simp [Ts.bindT] at h
    | cons y ys =>
      rw [Ts.bindT] at h
      split at h
      · rename_i Γ1 q
        rw [Hass] at hd
        obtain ⟨z, zs, rfl, h1, h2⟩ := hd
        obtain ⟨e1, h3, h4⟩ := bindT_ok q g h1
        obtain ⟨e2, h5, h6⟩ := bindsT_ok h h4 h2
        refine ⟨e2, ?_, h6⟩
        rw [Ts.bind, h3]
        exact h5
      · cases h
end
end Z
set_option maxHeartbeats 2000000
/-! ZP: the shape of a piece of code is right (plain Lean). -/
namespace Z
open PySem
variable {Fd : MO → Prop} {n : Nat} {m m' m0 m1 m2 : Mem} {Γ : TE} {e : Env} {G : Sg} {call : Nat → List Ty → Option Ty}
theorem tNeg1_ok (x u : Ty) (a : D) (e : tNeg1 x = some u) (ha : Has n x a) : ∃ r, negD a = some r ∧ Has n u r := by
  unfold tNeg1 at e
  split at e
  · cases e
    rw [Has] at ha
    obtain ⟨i, rfl, h1, h2⟩ := ha
    exact ⟨_, rfl, has_int (by omega) (by omega)⟩
  · cases e
theorem has_bl_of {d : D} (h : Has n .bl d) : ∃ b, d = .bl b := by rw [Has] at h; exact h
theorem bi_ml {f : Bi} {a : Nat} {l : List D} {t u : Ty} {lo hi : Nat} (hm : m[a]? = some (.lst l)) (e : tBi1 f (.lsts t lo hi) = some u) : biD f m [.loc a] = biD f m [.lst l] := by
  have r1 : rdS m (.loc a) = some (true, l) := by unfold rdS; dsimp only; rw [hm]
  have r2 : rdL m (.loc a) = some l := by unfold rdL; dsimp only; rw [hm]
  have r3 : rdS m (.lst l) = some (true, l) := rfl
  have r4 : rdL m (.lst l) = some l := rfl
  cases f <;> first
    | (unfold biD; dsimp only; rw [r1, r3]; done)
    | (unfold biD; dsimp only; rw [r2, r4]; done)
    | (simp [tBi1] at e; done)
theorem comp_ok {x u : Ty} {t : T} {Γw Γ' : TE} {ew : Env} {none_ : Bool} {f : Env → Mem → Out D} {p : Env → Mem → Out Bool} (hb : t.bindT x Γw = some Γ')
    (hp : ∀ {e : Env} {m : Mem}, Good Fd n m0 Γ' e m → ∃ b m', p e m = .ok b m' ∧ (none_ = true → b = true) ∧ Wid Fd n m m')
    (hf : ∀ {e : Env} {m : Mem}, Good Fd n m0 Γ' e m → ∃ d m', f e m = .ok d m' ∧ Has n u d ∧ Wid Fd n m m') :
    ∀ {ds : List D} {m : Mem}, (∀ d ∈ ds, Has n x d) → Good Fd n m0 Γw ew m → ∃ vs m', compGo (fun _ => true) f p t ds ew m = .ok vs m' ∧ (∀ v ∈ vs, Has n u v) ∧ vs.length ≤ ds.length ∧ (none_ = true → vs.length = ds.length) ∧ Wid Fd n m m'
  | [], m, _, g => ⟨[], m, by unfold compGo; rfl, by simp, Nat.le_refl _, fun _ => rfl, .refl g.ext.feed⟩
  | d :: ds, m, hd, g => by
    obtain ⟨e', h1, g1⟩ := bindT_ok (d := d) hb g (hd d (List.mem_cons_self ..))
    obtain ⟨b, m1, h2, h3, w1⟩ := hp g1
    have rest : ∀ d ∈ ds, Has n x d := fun d h => hd d (List.mem_cons_of_mem _ h)
    cases b with
    | true =>
      obtain ⟨v, m2, h4, h5, w2⟩ := hf (g1.go w1)
      obtain ⟨vs, m3, h6, h7, h8, h9, w3⟩ := comp_ok hb hp hf rest ((g.go w1).go w2)
      refine ⟨v :: vs, m3, ?_, fun z hz => ?_, by simp; omega, fun hn => by simp [h9 hn], (w1.trans w2).trans w3⟩
      · unfold compGo
        rw [if_pos rfl, h1]
        dsimp only
        rw [h2, Out.bind_ok, if_pos rfl, h4, Out.bind_ok, h6, Out.bind_ok]
      · rcases List.mem_cons.mp hz with rfl | hz
        · exact h5
        · exact h7 z hz
    | false =>
      obtain ⟨vs, m3, h6, h7, h8, h9, w3⟩ := comp_ok hb hp hf rest (g.go w1)
      refine ⟨vs, m3, ?_, h7, by simp; omega, fun hn => (by cases h3 hn), w1.trans w3⟩
      unfold compGo
      rw [if_pos rfl, h1]
      dsimp only
      rw [h2, Out.bind_ok, if_neg Bool.false_ne_true, h6]
theorem has_zip {t u : Ty} {xs ys : List D} (hx : ∀ z ∈ xs, Has n t z) (hy : ∀ z ∈ ys, Has n u z) : ∀ z ∈ (xs.zip ys).map (fun p => D.tup [p.1, p.2]), Has n (.tup (.cons t (.cons u .nil))) z := fun z hz => by
  obtain ⟨p, hp, rfl⟩ := List.mem_map.mp hz
  have := List.of_mem_zip hp
  simp only [Has, Hass]
  exact ⟨_, rfl, _, _, rfl, hx _ this.1, _, _, rfl, hy _ this.2, rfl⟩
theorem src_items {d : D} {l : List D} (h : itemsD d = some l) : srcOf m d = some ⟨l, none⟩ := by
  cases d <;> simp [itemsD] at h <;> subst h <;> rfl
theorem plain_ok {c : C} {t x : Ty} {p q : Nat} (hp : plainIt c = true) (h : ∃ d m', evalC G c e m = .ok d m' ∧ Has n t d ∧ Wid Fd n m m') (he : t.els = some (x, p, q)) :
    ∃ s m', evalIt G c e m = .ok s m' ∧ s.at_ = none ∧ p ≤ s.items.length ∧ s.items.length ≤ q ∧ (∀ d ∈ s.items, Has n x d) ∧ Wid Fd n m m' := by
  obtain ⟨d, m1, h1, h2, w⟩ := h
  obtain ⟨l, h3, h4, h5, h6⟩ := els_has he h2
  exact ⟨⟨l, none⟩, m1, by rw [evi_plain hp, h1, Out.bind_ok, src_items h3, lift_some], rfl, h4, h5, h6, w⟩
theorem aIx_plain {call : Nat → List Ty → Option Ty} {c : C} {Γ : TE} {x : Option Ty} (h : plainIt c = true) : aIx call c Γ x = (match x with | some x => x.els | none => none) := by
  cases c <;> first
    | (unfold aIx; rfl)
    | rfl
    | (cases h; done)
theorem plain_aI {call : Nat → List Ty → Option Ty} {c : C} {Γ : TE} {x : Ty} {p q : Nat} (hp : plainIt c = true) (h : ∀ {t : Ty}, aE call c Γ = some t → ∃ d m', evalC G c e m = .ok d m' ∧ Has n t d ∧ Wid Fd n m m') (he : aI call c Γ = some (x, p, q)) :
    ∃ s m', evalIt G c e m = .ok s m' ∧ s.at_ = none ∧ p ≤ s.items.length ∧ s.items.length ≤ q ∧ (∀ d ∈ s.items, Has n x d) ∧ Wid Fd n m m' := by
  rw [aI, aIx_plain hp] at he
  cases k : aE call c Γ with
  | none => rw [k] at he; cases he
  | some t => rw [k] at he; exact plain_ok hp (h k) he
theorem tSrtR1_ok (x u : Ty) (a : D) (e : tSrtR1 x = some u) (ha : Has n x a) : ∃ r, srtRD m a = some r ∧ Has n u r := by
  unfold tSrtR1 at e
  split at e
  · rename_i q
    cases e
    obtain ⟨ds, rfl, h1, h2, h3⟩ := lstE_has q ha
    obtain ⟨ns, rfl, h4⟩ := ints_of h3
    rw [List.length_map] at h1 h2
    refine ⟨.lst ((srt ns).reverse.map D.int), ?_, has_lsts (by rw [List.length_map, List.length_reverse, (srt_perm ns).length_eq]; exact h1) (by rw [List.length_map, List.length_reverse, (srt_perm ns).length_eq]; exact h2) (has_ints fun i hi => h4 i ((srt_perm ns).mem_iff.mp (List.mem_reverse.mp hi)))⟩
    show (asInts (ns.map D.int)).map _ = _
    rw [asInts_map]; rfl
  · split at e
    · rename_i q
      cases e
      obtain ⟨ds, rfl, h1, h2, h3⟩ := tupE_has q ha
      obtain ⟨ns, rfl, h4⟩ := ints_of h3
      rw [List.length_map] at h1 h2
      refine ⟨.lst ((srt ns).reverse.map D.int), ?_, has_lsts (by rw [List.length_map, List.length_reverse, (srt_perm ns).length_eq]; exact h1) (by rw [List.length_map, List.length_reverse, (srt_perm ns).length_eq]; exact h2) (has_ints fun i hi => h4 i ((srt_perm ns).mem_iff.mp (List.mem_reverse.mp hi)))⟩
      show (asInts (ns.map D.int)).map _ = _
      rw [asInts_map]; rfl
    · cases e
theorem tRev1_ok (x u : Ty) (a : D) (e : tRev1 x = some u) (ha : Has n x a) : ∃ r, revD m a = some r ∧ Has n u r := by
  unfold tRev1 at e
  split at e
  · rename_i q
    cases e
    obtain ⟨ds, rfl, h1, h2, h3⟩ := tupE_has q ha
    exact ⟨_, revD_tup ds, has_tups (by rw [List.length_reverse]; exact h1) (by rw [List.length_reverse]; exact h2) fun z hz => h3 z (List.mem_reverse.mp hz)⟩
  · split at e
    · rename_i q
      cases e
      obtain ⟨ds, rfl, h1, h2, h3⟩ := lstE_has q ha
      exact ⟨_, revD_lst ds, has_lsts (by rw [List.length_reverse]; exact h1) (by rw [List.length_reverse]; exact h2) fun z hz => h3 z (List.mem_reverse.mp hz)⟩
    · cases e
theorem ord_ints {op : CmpOp} (h : tOrd op = true) (i j : Int) : ∃ b, cmpD op m (.int i) (.int j) = some b := by
  cases op <;> first | (cases h; done) | exact ⟨_, rfl⟩
/-- one by one, by the places -/
inductive PairK (n : Nat) : List (Nat × Ty) → List (Nat × D) → Prop
  | nil : PairK n [] []
  | cons {i t d l r} : Has n t d → PairK n l r → PairK n ((i, t) :: l) ((i, d) :: r)
theorem dfT_ok : ∀ {df : List (Nat × D)} {dt : List (Nat × Ty)}, dfT df = some dt → PairK n dt df
  | [], _, h => by rw [dfT] at h; cases h; exact .nil
  | (i, d) :: l, _, h => by
    rw [dfT] at h
    split at h
    · rename_i h1 h2
      cases h
      exact .cons (tyOf_has h1) (dfT_ok h2)
    · cases h
theorem PairK.look {dt : List (Nat × Ty)} {df : List (Nat × D)} (h : PairK n dt df) (i : Nat) : (dt.lookup i = none ∧ df.lookup i = none) ∨ ∃ t d, dt.lookup i = some t ∧ df.lookup i = some d ∧ Has n t d := by
  induction h with
  | nil => exact .inl ⟨rfl, rfl⟩
  | @cons j t d l r h1 _ ih =>
    by_cases hij : i = j
    · subst hij
      exact .inr ⟨t, d, by simp, by simp, h1⟩
    · have hb : (i == j) = false := by simpa using hij
      rw [List.lookup_cons, List.lookup_cons, hb]
      exact ih
theorem pairK_zip : ∀ {ix : List Nat} {ts : List Ty} {ds : List D}, Paired (Has n) ts ds → PairK n (ix.zip ts) (ix.zip ds)
  | [], _, _, _ => by rw [List.zip_nil_left, List.zip_nil_left]; exact .nil
  | i :: ix, _, _, h => by
    cases h with
    | nil => exact .nil
    | cons h1 h2 => exact .cons h1 (pairK_zip h2)
theorem paired_look {ts : List Ty} {ds : List D} (h : Paired (Has n) ts ds) : ∀ i : Nat, (ts[i]? = none ∧ ds[i]? = none) ∨ ∃ t d, ts[i]? = some t ∧ ds[i]? = some d ∧ Has n t d := by
  induction h with
  | nil => intro i; exact .inl ⟨by simp, by simp⟩
  | cons h1 _ ih =>
    intro i
    cases i with
    | zero => exact .inr ⟨_, _, by simp, by simp, h1⟩
    | succ i => simpa using ih i
theorem paired_placed {np : Nat} {ts ks : List Ty} {ds dk : List D} {ix : List Nat} {dt : List (Nat × Ty)} {df : List (Nat × D)} (h : Paired (Has n) ts ds) (hk : Paired (Has n) ks dk) (hd : PairK n dt df) : Paired (Has n) (placed np ts ix ks dt .non) (placed np ds ix dk df .non) := by
  unfold placed
  have key : ∀ (f : Nat → Ty) (g : Nat → D) (l : List Nat), (∀ i, Has n (f i) (g i)) → Paired (Has n) (l.map f) (l.map g) := fun f g l hh => by
    induction l with
    | nil => exact .nil
    | cons i l ih => exact .cons (hh i) ih
  refine key _ _ _ fun i => ?_
  rcases paired_look h i with ⟨q1, q2⟩ | ⟨t, d, q1, q2, q3⟩
  · rw [q1, q2]
    dsimp only
    rcases (pairK_zip (ix := ix) hk).look i with ⟨q1, q2⟩ | ⟨t, d, q1, q2, q3⟩
    · rw [q1, q2]
      dsimp only
      rcases hd.look i with ⟨q1, q2⟩ | ⟨t, d, q1, q2, q3⟩
      · rw [q1, q2]; show Has n .non .non; rw [Has]
      · rw [q1, q2]; exact q3
    · rw [q1, q2]; exact q3
  · rw [q1, q2]; exact q3
/-! ### what a test tells -/
theorem refI_ok {op : CmpOp} {k : Bool} {c lo hi i : Int} (h : cmpD op m (.int i) (.int c) = some k) (h1 : lo ≤ i) (h2 : i ≤ hi) : (refI op k c lo hi).1 ≤ i ∧ i ≤ (refI op k c lo hi).2 := by
  cases op <;> cases k <;> simp only [refI] <;> first
    | exact ⟨h1, h2⟩
    | (simp only [cmpD_lt, cmpD_le, cmpD_gt, cmpD_ge, cmpD_eq, cmpD_ne, eqD_int, Option.map_some, Option.some.injEq, decide_eq_true_eq, decide_eq_false_iff_not, Bool.not_eq_true', Bool.not_eq_false'] at h; omega)
    | (simp only [cmpD_lt, cmpD_le, cmpD_gt, cmpD_ge, cmpD_eq, cmpD_ne, eqD_int, Option.map_some, Option.some.injEq, decide_eq_true_eq, decide_eq_false_iff_not, Bool.not_eq_true', Bool.not_eq_false'] at h; constructor <;> split <;> omega)
theorem orT_l {x y : Ty} {d : D} (h : Has n x d) : Has n (orT x y) d := by
  unfold orT
  split
  · rw [Has] at h; exact h.elim
  · exact h
  · rw [Has]; exact .inl h
theorem orT_r {x y : Ty} {d : D} (h : Has n y d) : Has n (orT x y) d := by
  unfold orT
  split
  · exact h
  · rw [Has] at h; exact h.elim
  · rw [Has]; exact .inr h
theorem noNon_ok : ∀ {t : Ty} {d : D}, Has n t d → isNone d = false → Has n t.noNon d
  | .non, d, h, hn => by rw [Has] at h; subst h; cases hn
  | .un a b, d, h, hn => by
    rw [Has] at h
    rw [Ty.noNon]
    rcases h with h | h
    · exact orT_l (noNon_ok h hn)
    · exact orT_r (noNon_ok h hn)
  | .no, d, h, _ => h
  | .bl, d, h, _ => h
  | .int _ _, d, h, _ => h
  | .str _, d, h, _ => h
  | .tup _, d, h, _ => h
  | .tups _ _ _, d, h, _ => h
  | .lst _, d, h, _ => h
  | .lsts _ _ _, d, h, _ => h
  | .feed, d, h, _ => h
  | .dat _ _, d, h, _ => h
theorem refT_ok {op : CmpOp} {k : Bool} {c : D} {t : Ty} {d : D} (h : cmpD op m d c = some k) (hd : Has n t d) : Has n (refT op k c t) d := by
  unfold refT
  split
  · split
    · rw [Has] at hd ⊢
      obtain ⟨i, rfl, h1, h2⟩ := hd
      exact ⟨i, rfl, refI_ok h h1 h2⟩
    · exact hd
  · split
    · exact noNon_ok hd (by have h : some (isNone d) = some false := h; simpa using h)
    · exact noNon_ok hd (by have h : some (!isNone d) = some true := h; simpa using h)
    · have h : some (isNone d) = some true := h
      cases d <;> first | (simp [isNone] at h; done) | (rw [Has])
    · have h : some (!isNone d) = some false := h
      cases d <;> first | (simp [isNone] at h; done) | (rw [Has])
    · exact hd
  · exact hd
theorem set_same {i : Nat} {o : Option D} (h : e.getD i none = o) (hi : i < e.length) : e.set i o = e := by
  apply List.ext_getElem?
  intro j
  by_cases hij : i = j
  · subst hij
    rw [List.getElem?_set_self hi, ← h, List.getD_eq_getElem?_getD, List.getElem?_eq_getElem hi]; rfl
  · rw [List.getElem?_set_ne hij]
theorem lift_inj {o : Option D} {d : D} (h : lift o m = .ok d m') : o = some d := by
  cases o with
  | none => cases h
  | some x => cases h; rfl
theorem rfn_ok : ∀ {c : C} {k : Bool} {Γ : TE} {m m' : Mem}, evalC G c e m = .ok (.bl k) m' → ∀ {mX : Mem}, Good Fd n m0 Γ e mX → Good Fd n m0 (rfn c k Γ) e mX := by
  intro c
  have triv : ∀ {k : Bool} {Γ : TE} {mX : Mem}, rfn c k Γ = Γ → Good Fd n m0 Γ e mX → Good Fd n m0 (rfn c k Γ) e mX := fun h g => by rw [h]; exact g
  cases c with
  | cmp op a b =>
    intro k Γ m m' h mX g
    cases a with
    | var i =>
      cases b with
      | con c =>
        rw [rfn]
        split
        · rename_i t ht
          obtain ⟨d, h1, h2⟩ := g.vs i _ ht
          rw [ev_cmp, ev_var, h1, lift_some, Out.bind_ok, ev_con, Out.bind_ok] at h
          have q := lift_inj h
          obtain ⟨b, hb, hb2⟩ := Option.map_eq_some_iff.mp q
          cases hb2
          have hi : i < e.length := by
            rw [g.ln]; exact (List.getElem?_eq_some_iff.mp ht).1
          have g2 := g.set (i := i) (v := .val (refT op k c t)) (o := some d) (fun _ => ⟨d, rfl, refT_ok hb h2⟩) rfl
          rwa [set_same h1 hi] at g2
        · exact g
      | _ => exact triv (by simp [rfn]) g
    | _ => exact triv (by simp [rfn]) g
  | not a =>
    intro k Γ m m' h mX g
    rw [rfn]
    rw [ev_not] at h
    cases ha : evalC G a e m with
    | ok d m1 =>
      rw [ha, Out.bind_ok] at h
      cases d with
      | bl b =>
        rw [asBl_bl, Out.bind_ok] at h
        cases h
        rw [Bool.not_not]
        exact rfn_ok ha g
      | _ => cases h
    | exc _ _ => rw [ha] at h; cases h
    | bad => rw [ha] at h; cases h
  | and a b =>
    intro k Γ m m' h mX g
    cases k with
    | false => exact triv (by simp [rfn]) g
    | true =>
      rw [rfn]
      rw [ev_and] at h
      cases ha : evalC G a e m with
      | ok d m1 =>
        rw [ha, Out.bind_ok] at h
        cases d with
        | bl x =>
          rw [asBl_bl, Out.bind_ok] at h
          cases x with
          | true => rw [if_pos rfl] at h; exact rfn_ok h (rfn_ok ha g)
          | false => rw [if_neg Bool.false_ne_true] at h; cases h
        | _ => cases h
      | exc _ _ => rw [ha] at h; cases h
      | bad => rw [ha] at h; cases h
  | or a b =>
    intro k Γ m m' h mX g
    cases k with
    | true => exact triv (by simp [rfn]) g
    | false =>
      rw [rfn]
      rw [ev_or] at h
      cases ha : evalC G a e m with
      | ok d m1 =>
        rw [ha, Out.bind_ok] at h
        cases d with
        | bl x =>
          rw [asBl_bl, Out.bind_ok] at h
          cases x with
          | false => rw [if_neg Bool.false_ne_true] at h; exact rfn_ok h (rfn_ok ha g)
          | true => rw [if_pos rfl] at h; cases h
        | _ => cases h
      | exc _ _ => rw [ha] at h; cases h
      | bad => rw [ha] at h; cases h
  | _ => intro k Γ m m' h mX g; exact triv (by simp [rfn]) g
theorem rfn_len : ∀ {c : C} {k : Bool} {Γ : TE}, (rfn c k Γ).length = Γ.length := by
  intro c
  cases c with
  | cmp op a b =>
    intro k Γ
    cases a with
    | var i =>
      cases b with
      | con c =>
        rw [rfn]
        split
        · rw [List.length_set]
        · rfl
      | _ => simp [rfn]
    | _ => simp [rfn]
  | not a => intro k Γ; rw [rfn]; exact rfn_len
  | and a b =>
    intro k Γ
    cases k with
    | false => simp [rfn]
    | true => rw [rfn, rfn_len, rfn_len]
  | or a b =>
    intro k Γ
    cases k with
    | true => simp [rfn]
    | false => rw [rfn, rfn_len, rfn_len]
  | _ => intro k Γ; simp [rfn]
section
variable (hc : CallOk Fd n G call)
include hc
mutual
theorem aE_ok : ∀ {c : C} {Γ : TE} {t : Ty} {e : Env} {m : Mem}, aE call c Γ = some t → Good Fd n m0 Γ e m → ∃ d m', evalC G c e m = .ok d m' ∧ Has n t d ∧ Wid Fd n m m'
  | .var i, Γ, t, e, m, h, g => by
    rw [aE] at h
    split at h
    · rename_i h1
      cases h
      obtain ⟨d, h2, h3⟩ := g.vs i _ h1
      exact ⟨d, m, by rw [ev_var, h2, lift_some], h3, .refl g.ext.feed⟩
    · cases h
  | .con d, Γ, t, e, m, h, g => by
    rw [aE] at h
    exact ⟨d, m, ev_con d, tyOf_has h, .refl g.ext.feed⟩
  | .tup l, Γ, t, e, m, h, g => by
    rw [aE] at h
    split at h
    · rename_i h1
      cases h
      obtain ⟨ds, m1, h2, h3, w⟩ := aEs_ok h1 g
      exact ⟨.tup ds, m1, by rw [ev_tup, h2, Out.bind_ok], by rw [Has]; exact ⟨ds, rfl, hass_of h3⟩, w⟩
    · cases h
  | .lst l, Γ, t, e, m, h, g => by
    rw [aE] at h
    split at h
    · rename_i h1
      cases h
      obtain ⟨ds, m1, h2, h3, w⟩ := aEs_ok h1 g
      exact ⟨.lst ds, m1, by rw [ev_lst, h2, Out.bind_ok], by rw [Has]; exact ⟨ds, rfl, hass_of h3⟩, w⟩
    · cases h
  | .bin op a b, Γ, t, e, m, h, g => by
    rw [aE] at h
    split at h
    · rename_i h1 h2
      obtain ⟨d1, m1, e1, t1, w1⟩ := aE_ok h1 g
      obtain ⟨d2, m2, e2, t2, w2⟩ := aE_ok h2 (g.go w1)
      obtain ⟨r, h3, h4⟩ := over2_ok (R := binD op m2) tBin1_ok h t1 t2
      exact ⟨r, m2, by rw [ev_bin, e1, Out.bind_ok, e2, Out.bind_ok, h3, lift_some], h4, w1.trans w2⟩
    · cases h
  | .neg a, Γ, t, e, m, h, g => by
    rw [aE] at h
    split at h
    · rename_i h1
      obtain ⟨d1, m1, e1, t1, w1⟩ := aE_ok h1 g
      obtain ⟨r, h3, h4⟩ := over1_ok (R := negD) tNeg1_ok h t1
      exact ⟨r, m1, by rw [ev_neg, e1, Out.bind_ok, h3, lift_some], h4, w1⟩
    · cases h
  | .cmp op a b, Γ, t, e, m, h, g => by
    rw [aE] at h
    split at h
    · rename_i h1 h2
      obtain ⟨d1, m1, e1, t1, w1⟩ := aE_ok h1 g
      obtain ⟨d2, m2, e2, t2, w2⟩ := aE_ok h2 (g.go w1)
      obtain ⟨r, h3, h4⟩ := over2_ok (R := fun x y => (cmpD op m2 x y).map D.bl) tCmp1_ok h t1 t2
      exact ⟨r, m2, by rw [ev_cmp, e1, Out.bind_ok, e2, Out.bind_ok, h3, lift_some], h4, w1.trans w2⟩
    · cases h
  | .and a b, Γ, t, e, m, h, g => by
    rw [aE] at h
    split at h
    · rename_i h1 h2
      cases h
      obtain ⟨d1, m1, e1, t1, w1⟩ := aE_ok h1 g
      obtain ⟨k, rfl⟩ := has_bl_of t1
      cases k with
      | true =>
        obtain ⟨d2, m2, e2, t2, w2⟩ := aE_ok h2 (rfn_ok e1 (g.go w1))
        exact ⟨d2, m2, by rw [ev_and, e1, Out.bind_ok, asBl_bl, Out.bind_ok, if_pos rfl, e2], t2, w1.trans w2⟩
      | false => exact ⟨.bl false, m1, by rw [ev_and, e1, Out.bind_ok, asBl_bl, Out.bind_ok, if_neg Bool.false_ne_true], has_bl _, w1⟩
    · cases h
  | .or a b, Γ, t, e, m, h, g => by
    rw [aE] at h
    split at h
    · rename_i h1 h2
      cases h
      obtain ⟨d1, m1, e1, t1, w1⟩ := aE_ok h1 g
      obtain ⟨k, rfl⟩ := has_bl_of t1
      cases k with
      | false =>
        obtain ⟨d2, m2, e2, t2, w2⟩ := aE_ok h2 (rfn_ok e1 (g.go w1))
        exact ⟨d2, m2, by rw [ev_or, e1, Out.bind_ok, asBl_bl, Out.bind_ok, if_neg Bool.false_ne_true, e2], t2, w1.trans w2⟩
      | true => exact ⟨.bl true, m1, by rw [ev_or, e1, Out.bind_ok, asBl_bl, Out.bind_ok, if_pos rfl], has_bl _, w1⟩
    · cases h
  | .not a, Γ, t, e, m, h, g => by
    rw [aE] at h
    split at h
    · rename_i h1
      cases h
      obtain ⟨d1, m1, e1, t1, w1⟩ := aE_ok h1 g
      obtain ⟨k, rfl⟩ := has_bl_of t1
      exact ⟨.bl (!k), m1, by rw [ev_not, e1, Out.bind_ok, asBl_bl, Out.bind_ok], has_bl _, w1⟩
    · cases h
  | .ite c a b, Γ, t, e, m, h, g => by
    rw [aE] at h
    split at h
    · rename_i h1 h2 h3
      cases h
      obtain ⟨d1, m1, e1, t1, w1⟩ := aE_ok h1 g
      obtain ⟨k, rfl⟩ := has_bl_of t1
      cases k with
      | true =>
        obtain ⟨d2, m2, e2, t2, w2⟩ := aE_ok h2 (rfn_ok e1 (g.go w1))
        exact ⟨d2, m2, by rw [ev_ite, e1, Out.bind_ok, asBl_bl, Out.bind_ok, if_pos rfl, e2], join_l _ t2, w1.trans w2⟩
      | false =>
        obtain ⟨d2, m2, e2, t2, w2⟩ := aE_ok h3 (rfn_ok e1 (g.go w1))
        exact ⟨d2, m2, by rw [ev_ite, e1, Out.bind_ok, asBl_bl, Out.bind_ok, if_neg Bool.false_ne_true, e2], join_r _ t2, w1.trans w2⟩
    · cases h
  | .sub a i, Γ, t, e, m, h, g => by
    rw [aE] at h
    split at h
    · rename_i h1 h2
      obtain ⟨d1, m1, e1, t1, w1⟩ := aE_ok h1 g
      obtain ⟨d2, m2, e2, t2, w2⟩ := aE_ok h2 (g.go w1)
      obtain ⟨r, h3, h4⟩ := over2_ok (R := subD m2) tSub1_ok h t1 t2
      exact ⟨r, m2, by rw [ev_sub, e1, Out.bind_ok, e2, Out.bind_ok, h3, lift_some], h4, w1.trans w2⟩
    · cases h
  | .cut a lo hi, Γ, t, e, m, h, g => by
    rw [aE] at h
    split at h
    · rename_i h1 h2 h3
      obtain ⟨d1, m1, e1, t1, w1⟩ := aE_ok h1 g
      obtain ⟨o1, m2, e2, t2, w2⟩ := aEo_ok h2 (g.go w1)
      obtain ⟨o2, m3, e3, t3, w3⟩ := aEo_ok h3 ((g.go w1).go w2)
      obtain ⟨r, h4, h5⟩ := over1_ok (R := fun d => cutD m3 d o1 o2) (tCut1_ok t2 t3) h t1
      exact ⟨r, m3, by rw [ev_cut, e1, Out.bind_ok, e2, Out.bind_ok, e3, Out.bind_ok, h4, lift_some], h5, (w1.trans w2).trans w3⟩
    · cases h
  | .call f l, Γ, t, e, m, h, g => by
    rw [aE] at h
    split at h
    · rename_i h1
      obtain ⟨ds, m1, h2, h3, w⟩ := aEs_ok h1 g
      have g1 := g.go w
      obtain ⟨d, m2, h4, h5, w2⟩ := hc f _ t ds m1 h h3 (by rw [g1.ext.len]; exact g1.nl) g1.ext.feed
      exact ⟨d, m2, by rw [ev_call, h2, Out.bind_ok, h4], h5, w.trans w2⟩
    · cases h
  | .callk f np l ix kw df, Γ, t, e, m, h, g => by
    rw [aE] at h
    split at h
    · rename_i h1 h0 h9
      obtain ⟨ds, m1, h2, h3, w⟩ := aEs_ok h1 g
      obtain ⟨dk, m2, h4, h5, w2⟩ := aEs_ok h0 (g.go w)
      have g1 := (g.go w).go w2
      obtain ⟨d, m3, h6, h7, w3⟩ := hc f _ t _ m2 h (paired_placed (np := np) (ix := ix) h3 h5 (dfT_ok h9)) (by rw [g1.ext.len]; exact g1.nl) g1.ext.feed
      exact ⟨d, m3, by rw [ev_callk, h2, Out.bind_ok, h4, Out.bind_ok, h6], h7, (w.trans w2).trans w3⟩
    · cases h
  | .srtR a, Γ, t, e, m, h, g => by
    rw [aE] at h
    split at h
    · rename_i h1
      obtain ⟨d1, m1, e1, t1, w1⟩ := aE_ok h1 g
      obtain ⟨r, h3, h4⟩ := over1_ok (R := srtRD m1) tSrtR1_ok h t1
      exact ⟨r, m1, by rw [ev_srtR, e1, Out.bind_ok, h3, lift_some], h4, w1⟩
    · cases h
  | .rev a, Γ, t, e, m, h, g => by
    rw [aE] at h
    split at h
    · rename_i h1
      obtain ⟨d1, m1, e1, t1, w1⟩ := aE_ok h1 g
      obtain ⟨r, h3, h4⟩ := over1_ok (R := revD m1) tRev1_ok h t1
      exact ⟨r, m1, by rw [ev_rev, e1, Out.bind_ok, h3, lift_some], h4, w1⟩
    · cases h
  | .chn o1 o2 a b c, Γ, t, e, m, h, g => by
    rw [aE] at h
    split at h
    · rename_i h1 h2 h3
      obtain ⟨d1, m1, e1, t1, w1⟩ := aE_ok h1 g
      obtain ⟨d2, m2, e2, t2, w2⟩ := aE_ok h2 (g.go w1)
      unfold tChn at h
      split at h
      · split at h
        · rename_i q
          cases h
          rw [Bool.and_eq_true] at q
          rw [Has] at t1 t2
          obtain ⟨i, rfl, _⟩ := t1
          obtain ⟨j, rfl, _⟩ := t2
          obtain ⟨k, hk⟩ := ord_ints (m := m2) q.1 i j
          rw [ev_chn, e1, Out.bind_ok, e2, Out.bind_ok, hk, lift_some, Out.bind_ok]
          cases k with
          | false => exact ⟨_, m2, by rw [if_neg Bool.false_ne_true], has_bl _, w1.trans w2⟩
          | true =>
            obtain ⟨d3, m3, e3, t3, w3⟩ := aE_ok h3 ((g.go w1).go w2)
            rw [Has] at t3
            obtain ⟨l, rfl, _⟩ := t3
            obtain ⟨k, hk⟩ := ord_ints (m := m3) q.2 j l
            exact ⟨.bl k, m3, by rw [if_pos rfl, e3, Out.bind_ok, hk]; rfl, has_bl _, (w1.trans w2).trans w3⟩
        · cases h
      · cases h
    · cases h
  | .bi f l, Γ, t, e, m, h, g => by
    rw [aE.eq_def] at h
    dsimp only at h
    split at h
    · rename_i c
      split at h
      · rename_i x h1
        obtain ⟨d1, m1, e1, t1, w1⟩ := aE_ok h1 g
        obtain ⟨r, h3, h4⟩ := over1_ok (R := fun d => biD f m1 [d]) tBi1_ok h t1
        exact ⟨r, m1, by rw [ev_bi, evs_cons, e1, Out.bind_ok, evs_nil, Out.bind_ok, Out.bind_ok, h3, lift_some], h4, w1⟩
      · split at h
        · split at h
          · rename_i h1
            obtain ⟨a, l, h2, h3, h4, h5, h6, h7⟩ := g.vs _ _ h1
            obtain ⟨y, z1, z2⟩ := joinO_has (n := n) h (List.mem_map.mpr ⟨_, List.mem_singleton.mpr rfl, rfl⟩)
            obtain ⟨r, h8, h9⟩ := tBi1_ok (m := m) _ _ (.lst l) z1 (has_lsts h5 h6 h7)
            rw [← bi_ml h4 z1] at h8
            exact ⟨r, m, by rw [ev_bi, evs_cons, ev_var, h2, lift_some, Out.bind_ok, evs_nil, Out.bind_ok, Out.bind_ok, h8, lift_some], z2 r h9, .refl g.ext.feed⟩
          · cases h
        · cases h
    · cases h
  | .comp own elt tg it ifs, Γ, t, e, m, h, g => by
    rw [aE] at h
    split at h
    · rename_i x p q h1
      split at h
      · rename_i Γ' h2
        split at h
        · rename_i b u h3 h4
          cases h
          obtain ⟨s, m1, e1, s1, s2, s3, s4, w1⟩ := aI_ok h1 g
          obtain ⟨its, at_⟩ := s
          dsimp only at s1 s2 s3 s4
          subst s1
          obtain ⟨vs, m2, h5, h6, h7, h8, w2⟩ := comp_ok (none_ := b) h2 (fun g => aFs_ok h3 g) (fun g => aE_ok h4 g) s4 ((g.go w1).wipe (l := own))
          refine ⟨.lst vs, m2, ?_, has_lsts ?_ (by omega) h6, w1.trans w2⟩
          · rw [ev_comp, e1, Out.bind_ok]
            show (compD G own elt tg ifs ⟨its, none⟩ e m1).bind _ = _
            unfold compD
            show (Out.calm (compGo (fun _ => true) _ _ tg its (wipe e own) m1)).bind _ = _
            rw [h5]
            rfl
          · cases b
            · exact Nat.zero_le _
            · rw [h8 rfl]; exact s2
        · cases h
      · cases h
    · cases h
  | .srtc own elt tg it ifs, Γ, t, e, m, h, g => by
    rw [aE] at h
    split at h
    · rename_i x p q h1
      split at h
      · rename_i Γ' h2
        split at h
        · rename_i b lo hi h3 h4
          split at h
          · rename_i hq
            cases h
            obtain ⟨s, m1, e1, s1, s2, s3, s4, w1⟩ := aI_ok h1 g
            obtain ⟨its, at_⟩ := s
            dsimp only at s1 s2 s3 s4
            subst s1
            obtain ⟨vs, m2, h5, h6, h7, h8, w2⟩ := comp_ok (none_ := b) h2 (fun g => aFs_ok h3 g) (fun g => aE_ok h4 g) s4 ((g.go w1).wipe (l := own))
            obtain ⟨ns, rfl, h9⟩ := ints_of h6
            obtain ⟨u1, u2⟩ := uniq_sorted ns
            have ul : (uniqI ns).length ≤ ns.length := by
              have : ∀ ns : List Int, (uniqI ns).length ≤ ns.length := fun ns => by
                induction ns with
                | nil => exact Nat.le_refl _
                | cons a ns ih =>
                  have il : ∀ (k : Int) (l : List Int), (insU k l).length ≤ l.length + 1 := fun k l => by
                    induction l with
                    | nil => simp [insU]
                    | cons b l ih => unfold insU; split <;> (try split) <;> simp <;> omega
                  exact Nat.le_trans (il a (uniqI ns)) (by rw [List.length_cons]; omega)
              exact this ns
            rw [List.length_map] at h7
            refine ⟨.lst ((uniqI ns).map D.int), m2, ?_, has_lsts (Nat.zero_le _) (by rw [List.length_map]; omega) (has_ints fun i hi => h9 i ((u2 i).mp hi)), w1.trans w2⟩
            rw [ev_srtc, e1, Out.bind_ok]
            show (compD G own elt tg ifs ⟨its, none⟩ e m1).bind _ = _
            unfold compD
            show (Out.calm (compGo (fun _ => true) _ _ tg its (wipe e own) m1)).bind _ = _
            rw [h5]
            show lift (srtuD (ns.map D.int)) m2 = _
            unfold srtuD
            rw [asInts_map]
            dsimp only
            rw [if_pos (by omega)]
            rfl
          · cases h
        · cases h
      · cases h
    · cases h
  | .nev, _, _, _, _, h, _ => by rw [aE] at h <;> first | (cases h; done) | (intros; rename_i q; cases q)
  | .new _, _, _, _, _, h, _ => by rw [aE] at h <;> first | (cases h; done) | (intros; rename_i q; cases q)
  | .comp2 _ _ _ _ _ _ _ _, _, _, _, _, h, _ => by rw [aE] at h <;> first | (cases h; done) | (intros; rename_i q; cases q)
  | .dcomp _ _ _ _ _ _, _, _, _, _, h, _ => by rw [aE] at h <;> first | (cases h; done) | (intros; rename_i q; cases q)
  | .lrg _ _, _, _, _, _, h, _ => by rw [aE] at h <;> first | (cases h; done) | (intros; rename_i q; cases q)
  | .dict _ _, _, _, _, _, h, _ => by rw [aE] at h <;> first | (cases h; done) | (intros; rename_i q; cases q)
  | .calv _ _, _, _, _, _, h, _ => by rw [aE] at h <;> first | (cases h; done) | (intros; rename_i q; cases q)
  | .mt _ _ _, _, _, _, _, h, _ => by rw [aE] at h <;> first | (cases h; done) | (intros; rename_i q; cases q)
  | .rng _, _, _, _, _, h, _ => by rw [aE] at h <;> first | (cases h; done) | (intros; rename_i q; cases q)
  | .rng2 _ _, _, _, _, _, h, _ => by rw [aE] at h <;> first | (cases h; done) | (intros; rename_i q; cases q)
  | .zip _ _, _, _, _, _, h, _ => by rw [aE] at h <;> first | (cases h; done) | (intros; rename_i q; cases q)
  | .enum _, _, _, _, _, h, _ => by rw [aE] at h <;> first | (cases h; done) | (intros; rename_i q; cases q)
theorem aEs_ok : ∀ {c : Cs} {Γ : TE} {t : List Ty} {e : Env} {m : Mem}, aEs call c Γ = some t → Good Fd n m0 Γ e m → ∃ d m', evalCs G c e m = .ok d m' ∧ Paired (Has n) t d ∧ Wid Fd n m m'
  | .nil, Γ, t, e, m, h, g => by
    rw [aEs] at h
    cases h
    exact ⟨[], m, evs_nil, .nil, .refl g.ext.feed⟩
  | .cons c l, Γ, t, e, m, h, g => by
    rw [aEs] at h
    split at h
    · rename_i h1 h2
      cases h
      obtain ⟨d1, m1, e1, t1, w1⟩ := aE_ok h1 g
      obtain ⟨ds, m2, e2, t2, w2⟩ := aEs_ok h2 (g.go w1)
      exact ⟨d1 :: ds, m2, by rw [evs_cons, e1, Out.bind_ok, e2, Out.bind_ok], .cons t1 t2, w1.trans w2⟩
    · cases h
theorem aFs_ok : ∀ {c : Cs} {Γ : TE} {t : Bool} {e : Env} {m : Mem}, aFs call c Γ = some t → Good Fd n m0 Γ e m → ∃ d m', evalIfs G c e m = .ok d m' ∧ (t = true → d = true) ∧ Wid Fd n m m'
  | .nil, Γ, t, e, m, h, g => ⟨true, m, evf_nil, fun _ => rfl, .refl g.ext.feed⟩
  | .cons c l, Γ, t, e, m, h, g => by
    rw [aFs] at h
    split at h
    · rename_i h1 h2
      cases h
      obtain ⟨d1, m1, e1, t1, w1⟩ := aE_ok h1 g
      obtain ⟨k, rfl⟩ := has_bl_of t1
      cases k with
      | true =>
        obtain ⟨b, m2, e2, _, w2⟩ := aFs_ok h2 (g.go w1)
        exact ⟨b, m2, by rw [evf_cons, e1, Out.bind_ok, asBl_bl, Out.bind_ok, if_pos rfl, e2], fun q => (by cases q), w1.trans w2⟩
      | false => exact ⟨false, m1, by rw [evf_cons, e1, Out.bind_ok, asBl_bl, Out.bind_ok, if_neg Bool.false_ne_true], fun q => (by cases q), w1⟩
    · cases h
theorem aEo_ok : ∀ {c : Co} {Γ : TE} {t : Bd} {e : Env} {m : Mem}, aEo call c Γ = some t → Good Fd n m0 Γ e m → ∃ d m', evalCo G c e m = .ok d m' ∧ inBd t d ∧ Wid Fd n m m'
  | .none, Γ, t, e, m, h, g => by
    rw [aEo] at h
    cases h
    exact ⟨none, m, evo_none, rfl, .refl g.ext.feed⟩
  | .some c, Γ, t, e, m, h, g => by
    rw [aEo] at h
    split at h
    · rename_i h1
      obtain ⟨d1, m1, e1, t1, w1⟩ := aE_ok h1 g
      unfold bdOf at h
      split at h
      · split at h
        · rename_i q
          cases h
          rw [Has] at t1
          obtain ⟨i, rfl, h2, h3⟩ := t1
          exact ⟨some i, m1, by rw [evo_some, e1, Out.bind_ok, asIx_int], ⟨i, rfl, h2, h3, q⟩, w1⟩
        · cases h
      · cases h
    · cases h
theorem aI_ok : ∀ {c : C} {Γ : TE} {x : Ty} {p q : Nat} {e : Env} {m : Mem}, aI call c Γ = some (x, p, q) → Good Fd n m0 Γ e m → ∃ s m', evalIt G c e m = .ok s m' ∧ s.at_ = none ∧ p ≤ s.items.length ∧ s.items.length ≤ q ∧ (∀ d ∈ s.items, Has n x d) ∧ Wid Fd n m m'
  | .rng a, Γ, x, p, q, e, m, h, g => by
    rw [aI, aIx] at h
    split at h
    · rename_i h1
      split at h
      · rename_i r
        cases h
        obtain ⟨d1, m1, e1, t1, w1⟩ := aE_ok h1 g
        rw [Has] at t1
        obtain ⟨i, rfl, h2, h3⟩ := t1
        have big := line_val
        refine ⟨_, m1, by rw [evi_rng, e1, Out.bind_ok]; unfold rngS; dsimp only; rw [if_pos ⟨by omega, by omega⟩], rfl, by simp; omega, by simp; omega, fun d hd => ?_, w1⟩
        obtain ⟨k, hk, rfl⟩ := List.mem_map.mp hd
        have := List.mem_range.mp hk
        exact has_int (by omega) (by omega)
      · cases h
    · cases h
  | .zip a b, Γ, x, p, q, e, m, h, g => by
    rw [aI, aIx] at h
    split at h
    · rename_i h1 h2
      obtain ⟨d1, m1, e1, t1, w1⟩ := aE_ok h1 g
      obtain ⟨d2, m2, e2, t2, w2⟩ := aE_ok h2 (g.go w1)
      split at h
      · rename_i h3 h4
        cases h
        obtain ⟨xs, rfl, a1, a2, a3⟩ := tupE_has h3 t1
        obtain ⟨ys, rfl, b1, b2, b3⟩ := tupE_has h4 t2
        refine ⟨_, m2, by rw [evi_zip, e1, Out.bind_ok, e2, Out.bind_ok, zip_tup, lift_some], rfl, ?_, ?_, has_zip a3 b3, w1.trans w2⟩
        · simp only [List.length_map, List.length_zip]; omega
        · simp only [List.length_map, List.length_zip]; omega
      · split at h
        · rename_i h3 h4
          cases h
          obtain ⟨xs, rfl, a1, a2, a3⟩ := lstE_has h3 t1
          obtain ⟨ys, rfl, b1, b2, b3⟩ := lstE_has h4 t2
          refine ⟨_, m2, by rw [evi_zip, e1, Out.bind_ok, e2, Out.bind_ok, zip_lst, lift_some], rfl, ?_, ?_, has_zip a3 b3, w1.trans w2⟩
          · simp only [List.length_map, List.length_zip]; omega
          · simp only [List.length_map, List.length_zip]; omega
        · cases h
    · cases h
  | .rng2 _ _, Γ, x, p, q, e, m, h, g => by rw [aI, aIx] at h; cases h
  | .enum _, Γ, x, p, q, e, m, h, g => by rw [aI, aIx] at h; cases h
  | .var i, Γ, x, p, q, e, m, h, g => by
    exact plain_aI rfl (fun h1 => aE_ok h1 g) h
  | .con d, Γ, x, p, q, e, m, h, g => by
    exact plain_aI rfl (fun h1 => aE_ok h1 g) h
  | .tup l, Γ, x, p, q, e, m, h, g => by
    exact plain_aI rfl (fun h1 => aE_ok h1 g) h
  | .lst l, Γ, x, p, q, e, m, h, g => by
    exact plain_aI rfl (fun h1 => aE_ok h1 g) h
  | .new a, Γ, x, p, q, e, m, h, g => by
    exact plain_aI rfl (fun h1 => aE_ok h1 g) h
  | .comp2 own elt t it ifs t1 it1 ifs1, Γ, x, p, q, e, m, h, g => by
    exact plain_aI rfl (fun h1 => aE_ok h1 g) h
  | .dcomp own k v t it ifs, Γ, x, p, q, e, m, h, g => by
    exact plain_aI rfl (fun h1 => aE_ok h1 g) h
  | .lrg a b, Γ, x, p, q, e, m, h, g => by
    exact plain_aI rfl (fun h1 => aE_ok h1 g) h
  | .dict ks vs, Γ, x, p, q, e, m, h, g => by
    exact plain_aI rfl (fun h1 => aE_ok h1 g) h
  | .bin op a b, Γ, x, p, q, e, m, h, g => by
    exact plain_aI rfl (fun h1 => aE_ok h1 g) h
  | .neg a, Γ, x, p, q, e, m, h, g => by
    exact plain_aI rfl (fun h1 => aE_ok h1 g) h
  | .cmp op a b, Γ, x, p, q, e, m, h, g => by
    exact plain_aI rfl (fun h1 => aE_ok h1 g) h
  | .chn o1 o2 a b c, Γ, x, p, q, e, m, h, g => by
    exact plain_aI rfl (fun h1 => aE_ok h1 g) h
  | .and a b, Γ, x, p, q, e, m, h, g => by
    exact plain_aI rfl (fun h1 => aE_ok h1 g) h
  | .or a b, Γ, x, p, q, e, m, h, g => by
    exact plain_aI rfl (fun h1 => aE_ok h1 g) h
  | .not a, Γ, x, p, q, e, m, h, g => by
    exact plain_aI rfl (fun h1 => aE_ok h1 g) h
  | .ite c0 a b, Γ, x, p, q, e, m, h, g => by
    exact plain_aI rfl (fun h1 => aE_ok h1 g) h
  | .sub a i, Γ, x, p, q, e, m, h, g => by
    exact plain_aI rfl (fun h1 => aE_ok h1 g) h
  | .cut a lo hi, Γ, x, p, q, e, m, h, g => by
    exact plain_aI rfl (fun h1 => aE_ok h1 g) h
  | .rev a, Γ, x, p, q, e, m, h, g => by
    exact plain_aI rfl (fun h1 => aE_ok h1 g) h
  | .call f l, Γ, x, p, q, e, m, h, g => by
    exact plain_aI rfl (fun h1 => aE_ok h1 g) h
  | .callk f np l ix kw df, Γ, x, p, q, e, m, h, g => by
    exact plain_aI rfl (fun h1 => aE_ok h1 g) h
  | .calv i l, Γ, x, p, q, e, m, h, g => by
    exact plain_aI rfl (fun h1 => aE_ok h1 g) h
  | .bi f l, Γ, x, p, q, e, m, h, g => by
    exact plain_aI rfl (fun h1 => aE_ok h1 g) h
  | .mt me o l, Γ, x, p, q, e, m, h, g => by
    exact plain_aI rfl (fun h1 => aE_ok h1 g) h
  | .srtR a, Γ, x, p, q, e, m, h, g => by
    exact plain_aI rfl (fun h1 => aE_ok h1 g) h
  | .srtc own elt tg it ifs, Γ, x, p, q, e, m, h, g => by
    exact plain_aI rfl (fun h1 => aE_ok h1 g) h
  | .nev, Γ, x, p, q, e, m, h, g => by
    exact plain_aI rfl (fun h1 => aE_ok h1 g) h
  | .comp own elt tg it ifs, Γ, x, p, q, e, m, h, g => by
    exact plain_aI rfl (fun h1 => aE_ok h1 g) h
end
end
end Z
/-! ZQ: the shape of statements (plain Lean). -/
namespace Z
open PySem
variable {Fd : MO → Prop} {n : Nat} {m m' m0 m1 m2 : Mem} {Γ Γ1 Γ2 : TE} {e : Env} {G : Sg} {call : Nat → List Ty → Option Ty}
/-- what statements come to: what is known after, what is returned, at a break, at a continue -/
structure AR where
  nx : Option TE
  rt : Ty
  bk : Option TE
  ct : Option TE
def vjoin : VT → VT → VT
  | .val a, .val b => .val (jn a b)
  | .ml a x y, .ml b z w => .ml (jn a b) (min x z) (max y w)
  | _, _ => .un
def tjoin (a b : TE) : TE := List.zipWith vjoin a b
def ojoin : Option TE → Option TE → Option TE
  | some a, some b => if a.length = b.length then some (tjoin a b) else none
  | some a, none => some a
  | none, b => b
theorem vjoin_l {a b : VT} {o : Option D} (h : VHas n m0 m a o) : VHas n m0 m (vjoin a b) o := by
  unfold vjoin
  split
  · obtain ⟨d, h1, h2⟩ := h
    exact ⟨d, h1, join_l _ h2⟩
  · obtain ⟨x, l, h1, h2, h3, h4, h5, h6⟩ := h
    exact ⟨x, l, h1, h2, h3, by omega, by omega, fun z hz => join_l _ (h6 z hz)⟩
  · trivial
theorem vjoin_r {a b : VT} {o : Option D} (h : VHas n m0 m b o) : VHas n m0 m (vjoin a b) o := by
  unfold vjoin
  split
  · obtain ⟨d, h1, h2⟩ := h
    exact ⟨d, h1, join_r _ h2⟩
  · obtain ⟨x, l, h1, h2, h3, h4, h5, h6⟩ := h
    exact ⟨x, l, h1, h2, h3, by omega, by omega, fun z hz => join_r _ (h6 z hz)⟩
  · trivial
theorem vjoin_ml {a b : VT} (h : (vjoin a b).isMl = true) : a.isMl = true ∧ b.isMl = true := by
  unfold vjoin at h
  split at h
  · cases h
  · exact ⟨rfl, rfl⟩
  · cases h
theorem tjoin_get {i : Nat} {v : VT} (h : (tjoin Γ1 Γ2)[i]? = some v) : ∃ a b, Γ1[i]? = some a ∧ Γ2[i]? = some b ∧ v = vjoin a b := by
  unfold tjoin at h
  rw [List.getElem?_zipWith] at h
  split at h
  · rename_i a b h1 h2
    cases h
    exact ⟨a, b, h1, h2, rfl⟩
  · cases h
theorem Good.join_l (g : Good Fd n m0 Γ1 e m) (h : Γ1.length = Γ2.length) : Good Fd n m0 (tjoin Γ1 Γ2) e m := by
  refine ⟨g.ext, g.nl, by unfold tjoin; rw [List.length_zipWith, g.ln]; omega, fun i v hv => ?_, fun i j v w hij hv hw mv mw => ?_⟩
  · obtain ⟨a, b, h1, h2, rfl⟩ := tjoin_get hv
    exact vjoin_l (g.vs i a h1)
  · obtain ⟨a, b, h1, h2, rfl⟩ := tjoin_get hv
    obtain ⟨a', b', h1', h2', rfl⟩ := tjoin_get hw
    exact g.dj i j a a' hij h1 h1' (vjoin_ml mv).1 (vjoin_ml mw).1
theorem Good.join_r (g : Good Fd n m0 Γ2 e m) (h : Γ1.length = Γ2.length) : Good Fd n m0 (tjoin Γ1 Γ2) e m := by
  refine ⟨g.ext, g.nl, by unfold tjoin; rw [List.length_zipWith, g.ln]; omega, fun i v hv => ?_, fun i j v w hij hv hw mv mw => ?_⟩
  · obtain ⟨a, b, h1, h2, rfl⟩ := tjoin_get hv
    exact vjoin_r (g.vs i b h2)
  · obtain ⟨a, b, h1, h2, rfl⟩ := tjoin_get hv
    obtain ⟨a', b', h1', h2', rfl⟩ := tjoin_get hw
    exact g.dj i j b b' hij h2 h2' (vjoin_ml mv).2 (vjoin_ml mw).2
/-- it may go on so -/
def may (Fd : MO → Prop) (n : Nat) (m0 : Mem) (o : Option TE) (e : Env) (m : Mem) : Prop := ∃ Γ, o = some Γ ∧ Good Fd n m0 Γ e m
/-- all that is known of the length of what is known: alike -/
def long (k : Nat) : Option TE → Prop
  | some a => a.length = k
  | none => True
theorem ojoin_l {a b : Option TE} {k : Nat} (ha : long k a) (hb : long k b) (h : may Fd n m0 a e m) : may Fd n m0 (ojoin a b) e m := by
  obtain ⟨Γ, rfl, g⟩ := h
  cases b with
  | none => exact ⟨Γ, rfl, g⟩
  | some b =>
    have hl : Γ.length = b.length := Eq.trans (show Γ.length = k from ha) (Eq.symm (show b.length = k from hb))
    exact ⟨tjoin Γ b, by unfold ojoin; dsimp only; rw [if_pos hl], g.join_l hl⟩
theorem ojoin_r {a b : Option TE} {k : Nat} (ha : long k a) (hb : long k b) (h : may Fd n m0 b e m) : may Fd n m0 (ojoin a b) e m := by
  obtain ⟨Γ, rfl, g⟩ := h
  cases a with
  | none => exact ⟨Γ, rfl, g⟩
  | some a =>
    have hl : a.length = Γ.length := Eq.trans (show a.length = k from ha) (Eq.symm (show Γ.length = k from hb))
    exact ⟨tjoin a Γ, by unfold ojoin; dsimp only; rw [if_pos hl], g.join_r hl⟩
theorem ojoin_long {a b : Option TE} {k : Nat} (ha : long k a) (hb : long k b) : long k (ojoin a b) := by
  cases a with
  | none => exact hb
  | some a =>
    cases b with
    | none => exact ha
    | some b =>
      have h1 : a.length = k := ha
      have h2 : b.length = k := hb
      unfold ojoin
      dsimp only
      rw [if_pos (h1.trans h2.symm)]
      show (tjoin a b).length = k
      unfold tjoin
      rw [List.length_zipWith]
      omega
/-- an outcome as it is known -/
def FOk (Fd : MO → Prop) (n : Nat) (m0 : Mem) (r : AR) : Fl → Prop
  | .nx e m => may Fd n m0 r.nx e m
  | .rt d m => Has n r.rt d ∧ Wid Fd n m0 m
  | .bk e m => may Fd n m0 r.bk e m
  | .ct e m => may Fd n m0 r.ct e m
  | _ => False
structure AR.long (r : AR) (k : Nat) : Prop where
  nx : Z.long k r.nx
  bk : Z.long k r.bk
  ct : Z.long k r.ct
/-- a loop over p to q items of shape x, unrolled -/
def aLoop (bd : TE → Option AR) (t : T) (x : Ty) : Nat → Nat → TE → Option AR
  | _, 0, Γ => some ⟨some Γ, .no, none, none⟩
  | p, q + 1, Γ => match t.bindT x Γ with
    | none => none
    | some Γ1 => match bd Γ1 with
      | none => none
      | some r => match ojoin r.nx r.ct with
        | none => some ⟨ojoin r.bk (if p = 0 then some Γ else none), r.rt, none, none⟩
        | some Γ2 => match aLoop bd t x (p - 1) q Γ2 with
          | none => none
          | some r2 => some ⟨ojoin r.bk (ojoin (if p = 0 then some Γ else none) r2.nx), jn r.rt r2.rt, none, none⟩
mutual
theorem bindT_len : ∀ {t : T} {x : Ty} {Γ Γ' : TE}, t.bindT x Γ = some Γ' → Γ'.length = Γ.length
  | .nm i, x, Γ, _, h => by
    rw [T.bindT] at h
    cases h
    rw [List.length_set]
  | .tp l, x, Γ, _, h => by
    cases x with
    | tup ts =>
      rw [T.bindT] at h
      exact bindsT_len h
    | _ => simp [T.bindT] at h
theorem bindsT_len : ∀ {t : Ts} {x : Tys} {Γ Γ' : TE}, t.bindT x Γ = some Γ' → Γ'.length = Γ.length
  | .nil, x, Γ, _, h => by
    cases x with
    | nil => rw [Ts.bindT] at h; cases h; rfl
    | cons y ys => simp [Ts.bindT] at h
  | .cons t l, x, Γ, _, h => by
    cases x with
    | nil => simp [Ts.bindT] at h
    | cons y ys =>
      rw [Ts.bindT] at h
      split at h
      · rename_i Γ1 q
        rw [bindsT_len h, bindT_len q]
      · cases h
end
theorem long_if {c : Prop} [Decidable c] {o : Option TE} {k : Nat} (h : long k o) : long k (if c then o else none) := by
  split
  · exact h
  · trivial
theorem aLoop_none {bd : TE → Option AR} {t : T} {x : Ty} {q p : Nat} {Γ : TE} {r : AR} (h : aLoop bd t x p q Γ = some r) : r.bk = none ∧ r.ct = none := by
  unfold aLoop at h
  split at h
  · cases h; exact ⟨rfl, rfl⟩
  · split at h
    · cases h
    · split at h
      · cases h
      · split at h
        · cases h; exact ⟨rfl, rfl⟩
        · split at h
          · cases h
          · cases h; exact ⟨rfl, rfl⟩
theorem loop_ok {bd : TE → Option AR} {b : Env → Mem → Fl} {t : T} {x : Ty} (hb : ∀ {Γ : TE} {r : AR}, bd Γ = some r → r.long Γ.length ∧ ∀ {e : Env} {m : Mem}, Good Fd n m0 Γ e m → FOk Fd n m0 r (b e m)) :
    ∀ {q p : Nat} {Γ : TE} {r : AR}, aLoop bd t x p q Γ = some r → r.long Γ.length ∧ ∀ {ds : List D} {e : Env} {m : Mem}, p ≤ ds.length → ds.length ≤ q → (∀ d ∈ ds, Has n x d) → Good Fd n m0 Γ e m → FOk Fd n m0 r (forGo (fun _ => true) b t ds e m)
  | 0, p, Γ, r, h => by
    rw [aLoop] at h
    cases h
    refine ⟨⟨rfl, trivial, trivial⟩, fun {ds e m} h1 h2 h3 g => ?_⟩
    cases ds with
    | nil => unfold forGo; exact ⟨Γ, rfl, g⟩
    | cons d ds => simp at h2
  | q + 1, p, Γ, r, h => by
    rw [aLoop] at h
    split at h
    · cases h
    · rename_i Γ1 h1
      split at h
      · cases h
      · rename_i r1 h2
        obtain ⟨l1, f1⟩ := hb h2
        rw [bindT_len h1] at l1
        have lg : long Γ.length (if p = 0 then some Γ else none) := long_if (show Γ.length = Γ.length from rfl)
        split at h
        · rename_i h3
          cases h
          refine ⟨⟨ojoin_long l1.bk lg, trivial, trivial⟩, fun {ds e m} k1 k2 k3 g => ?_⟩
          cases ds with
          | nil =>
            have p0 : p = 0 := by simpa using k1
            unfold forGo
            exact ojoin_r l1.bk lg ⟨Γ, if_pos p0, g⟩
          | cons d ds =>
            obtain ⟨e1, k4, g1⟩ := bindT_ok h1 g (k3 d (List.mem_cons_self ..))
            have k5 := f1 g1
            unfold forGo
            rw [if_pos rfl, k4]
            dsimp only
            cases hbm : b e1 m with
            | nx e m => rw [hbm] at k5; obtain ⟨Γ2, z, _⟩ := ojoin_l l1.nx l1.ct k5; rw [h3] at z; cases z
            | ct e m => rw [hbm] at k5; obtain ⟨Γ2, z, _⟩ := ojoin_r l1.nx l1.ct k5; rw [h3] at z; cases z
            | bk e m => rw [hbm] at k5; exact ojoin_l l1.bk lg k5
            | rt d m => rw [hbm] at k5; exact k5
            | exc x e m => rw [hbm] at k5; exact k5.elim
            | bad => rw [hbm] at k5; exact k5.elim
        · rename_i Γ2 h3
          split at h
          · cases h
          · rename_i r2 h4
            have l2 : Γ2.length = Γ.length := by
              have := ojoin_long l1.nx l1.ct
              rw [h3] at this
              exact this
            obtain ⟨l3, f3⟩ := loop_ok hb h4
            rw [l2] at l3
            cases h
            have lj := ojoin_long lg l3.nx
            refine ⟨⟨ojoin_long l1.bk lj, trivial, trivial⟩, fun {ds e m} k1 k2 k3 g => ?_⟩
            cases ds with
            | nil =>
              have p0 : p = 0 := by simpa using k1
              unfold forGo
              exact ojoin_r l1.bk lj (ojoin_l lg l3.nx ⟨Γ, if_pos p0, g⟩)
            | cons d ds =>
              obtain ⟨e1, k4, g1⟩ := bindT_ok h1 g (k3 d (List.mem_cons_self ..))
              have k5 := f1 g1
              have rest : ∀ {e : Env} {m : Mem}, may Fd n m0 (ojoin r1.nx r1.ct) e m → FOk Fd n m0 ⟨ojoin r1.bk (ojoin (if p = 0 then some Γ else none) r2.nx), jn r1.rt r2.rt, none, none⟩ (forGo (fun _ => true) b t ds e m) := fun {e m} k6 => by
                obtain ⟨Γ3, z, g3⟩ := k6
                rw [h3] at z
                cases z
                have k7 := f3 (ds := ds) (by simp at k1; omega) (by simp at k2; omega) (fun d h => k3 d (List.mem_cons_of_mem _ h)) g3
                cases hf : forGo (fun _ => true) b t ds e m with
                | nx e m => rw [hf] at k7; exact ojoin_r l1.bk lj (ojoin_r lg l3.nx k7)
                | rt d m => rw [hf] at k7; exact ⟨join_r _ k7.1, k7.2⟩
                | bk e m => rw [hf] at k7; exact absurd k7 (by
                    rintro ⟨_, z, _⟩
                    rw [(aLoop_none h4).1] at z
                    cases z)
                | ct e m => rw [hf] at k7; exact absurd k7 (by
                    rintro ⟨_, z, _⟩
                    rw [(aLoop_none h4).2] at z
                    cases z)
                | exc x e m => rw [hf] at k7; exact k7.elim
                | bad => rw [hf] at k7; exact k7.elim
              unfold forGo
              rw [if_pos rfl, k4]
              dsimp only
              cases hbm : b e1 m with
              | nx e m => rw [hbm] at k5; exact rest (ojoin_l l1.nx l1.ct k5)
              | ct e m => rw [hbm] at k5; exact rest (ojoin_r l1.nx l1.ct k5)
              | bk e m => rw [hbm] at k5; exact ojoin_l l1.bk lj k5
              | rt d m => rw [hbm] at k5; exact ⟨join_l _ k5.1, k5.2⟩
              | exc x e m => rw [hbm] at k5; exact k5.elim
              | bad => rw [hbm] at k5; exact k5.elim
/-- a loop over items of known shapes, unrolled -/
def aLoopX (bd : TE → Option AR) (t : T) : List Ty → TE → Option AR
  | [], Γ => some ⟨some Γ, .no, none, none⟩
  | x :: xs, Γ => match t.bindT x Γ with
    | none => none
    | some Γ1 => match bd Γ1 with
      | none => none
      | some r => match ojoin r.nx r.ct with
        | none => some ⟨r.bk, r.rt, none, none⟩
        | some Γ2 => match aLoopX bd t xs Γ2 with
          | none => none
          | some r2 => some ⟨ojoin r.bk r2.nx, jn r.rt r2.rt, none, none⟩
theorem aLoopX_none {bd : TE → Option AR} {t : T} {xs : List Ty} {Γ : TE} {r : AR} (h : aLoopX bd t xs Γ = some r) : r.bk = none ∧ r.ct = none := by
  unfold aLoopX at h
  split at h
  · cases h; exact ⟨rfl, rfl⟩
  · split at h
    · cases h
    · split at h
      · cases h
      · split at h
        · cases h; exact ⟨rfl, rfl⟩
        · split at h
          · cases h
          · cases h; exact ⟨rfl, rfl⟩
theorem loopX_ok {bd : TE → Option AR} {b : Env → Mem → Fl} {t : T} (hb : ∀ {Γ : TE} {r : AR}, bd Γ = some r → r.long Γ.length ∧ ∀ {e : Env} {m : Mem}, Good Fd n m0 Γ e m → FOk Fd n m0 r (b e m)) :
    ∀ {xs : List Ty} {Γ : TE} {r : AR}, aLoopX bd t xs Γ = some r → r.long Γ.length ∧ ∀ {ds : List D} {e : Env} {m : Mem}, Paired (Has n) xs ds → Good Fd n m0 Γ e m → FOk Fd n m0 r (forGo (fun _ => true) b t ds e m)
  | [], Γ, r, h => by
    rw [aLoopX] at h
    cases h
    refine ⟨⟨rfl, trivial, trivial⟩, fun {ds e m} h1 g => ?_⟩
    cases h1
    unfold forGo
    exact ⟨Γ, rfl, g⟩
  | x :: xs, Γ, r, h => by
    rw [aLoopX] at h
    split at h
    · cases h
    · rename_i Γ1 h1
      split at h
      · cases h
      · rename_i r1 h2
        obtain ⟨l1, f1⟩ := hb h2
        rw [bindT_len h1] at l1
        split at h
        · rename_i h3
          cases h
          refine ⟨⟨l1.bk, trivial, trivial⟩, fun {ds e m} k1 g => ?_⟩
          cases k1 with
          | cons k2 k3 =>
            obtain ⟨e1, k4, g1⟩ := bindT_ok h1 g k2
            have k5 := f1 g1
            unfold forGo
            rw [if_pos rfl, k4]
            dsimp only
            cases hbm : b e1 m with
            | nx e m => rw [hbm] at k5; obtain ⟨Γ2, z, _⟩ := ojoin_l l1.nx l1.ct k5; rw [h3] at z; cases z
            | ct e m => rw [hbm] at k5; obtain ⟨Γ2, z, _⟩ := ojoin_r l1.nx l1.ct k5; rw [h3] at z; cases z
            | bk e m => rw [hbm] at k5; exact k5
            | rt d m => rw [hbm] at k5; exact k5
            | exc x e m => rw [hbm] at k5; exact k5.elim
            | bad => rw [hbm] at k5; exact k5.elim
        · rename_i Γ2 h3
          split at h
          · cases h
          · rename_i r2 h4
            have l2 : Γ2.length = Γ.length := by
              have := ojoin_long l1.nx l1.ct
              rw [h3] at this
              exact this
            obtain ⟨l3, f3⟩ := loopX_ok hb h4
            rw [l2] at l3
            cases h
            refine ⟨⟨ojoin_long l1.bk l3.nx, trivial, trivial⟩, fun {ds e m} k1 g => ?_⟩
            cases k1 with
            | @cons _ d _ ds k2 k3 =>
              obtain ⟨e1, k4, g1⟩ := bindT_ok h1 g k2
              have k5 := f1 g1
              have rest : ∀ {e : Env} {m : Mem}, may Fd n m0 (ojoin r1.nx r1.ct) e m → FOk Fd n m0 ⟨ojoin r1.bk r2.nx, jn r1.rt r2.rt, none, none⟩ (forGo (fun _ => true) b t ds e m) := fun {e m} k6 => by
                obtain ⟨Γ3, z, g3⟩ := k6
                rw [h3] at z
                cases z
                have k7 := f3 k3 g3
                cases hf : forGo (fun _ => true) b t ds e m with
                | nx e m => rw [hf] at k7; exact ojoin_r l1.bk l3.nx k7
                | rt d m => rw [hf] at k7; exact ⟨join_r _ k7.1, k7.2⟩
                | bk e m => rw [hf] at k7; exact absurd k7 (by
                    rintro ⟨_, z, _⟩
                    rw [(aLoopX_none h4).1] at z
                    cases z)
                | ct e m => rw [hf] at k7; exact absurd k7 (by
                    rintro ⟨_, z, _⟩
                    rw [(aLoopX_none h4).2] at z
                    cases z)
                | exc x e m => rw [hf] at k7; exact k7.elim
                | bad => rw [hf] at k7; exact k7.elim
              unfold forGo
              rw [if_pos rfl, k4]
              dsimp only
              cases hbm : b e1 m with
              | nx e m => rw [hbm] at k5; exact rest (ojoin_l l1.nx l1.ct k5)
              | ct e m => rw [hbm] at k5; exact rest (ojoin_r l1.nx l1.ct k5)
              | bk e m => rw [hbm] at k5; exact ojoin_l l1.bk l3.nx k5
              | rt d m => rw [hbm] at k5; exact ⟨join_l _ k5.1, k5.2⟩
              | exc x e m => rw [hbm] at k5; exact k5.elim
              | bad => rw [hbm] at k5; exact k5.elim
/-- the shapes of what is walked, where each is known -/
def exL : C → TE → Option (List Ty)
  | .var i, Γ => match Γ[i]? with
    | some (.val (.lst l)) => some l.toL
    | some (.val (.tup l)) => some l.toL
    | _ => none
  | _, _ => none
theorem exL_ok {G : Sg} {c : C} {Γ : TE} {xs : List Ty} {e : Env} {m : Mem} (h : exL c Γ = some xs) (g : Good Fd n m0 Γ e m) : ∃ ds, evalIt G c e m = .ok ⟨ds, none⟩ m ∧ Paired (Has n) xs ds := by
  unfold exL at h
  split at h
  · rename_i i
    split at h
    · rename_i l hv
      cases h
      obtain ⟨d, h1, h2⟩ := g.vs i _ hv
      rw [Has] at h2
      obtain ⟨ds, rfl, h2⟩ := h2
      exact ⟨ds, by rw [evi_plain rfl, ev_var, h1, lift_some, Out.bind_ok]; rfl, hass_iff.mp h2⟩
    · rename_i l hv
      cases h
      obtain ⟨d, h1, h2⟩ := g.vs i _ hv
      rw [Has] at h2
      obtain ⟨ds, rfl, h2⟩ := h2
      exact ⟨ds, by rw [evi_plain rfl, ev_var, h1, lift_some, Out.bind_ok]; rfl, hass_iff.mp h2⟩
    · cases h
  · cases h
end Z
set_option maxHeartbeats 2000000
/-! ZS: the shape of a def's body is right (plain Lean). -/
namespace Z
open PySem
variable {Fd : MO → Prop} {n : Nat} {m m' m0 m1 m2 : Mem} {Γ Γ1 Γ2 : TE} {e : Env} {G : Sg} {call : Nat → List Ty → Option Ty}
def setT : List Nat → List Ty → TE → TE
  | i :: is, t :: ts, Γ => setT is ts (Γ.set i (.val t))
  | _, _, Γ => Γ
theorem setT_ok : ∀ {is : List Nat} {ts : List Ty} {ds : List D} {Γ : TE} {e : Env}, Paired (Has n) ts ds → Good Fd n m0 Γ e m → Good Fd n m0 (setT is ts Γ) (setSome is ds e) m
  | [], _, _, _, _, _, g => g
  | _ :: _, [], _, _, _, h, g => by cases h; exact g
  | i :: is, t :: ts, _, _, _, h, g => by
    cases h with
    | cons h1 h2 =>
      rw [setT, setSome]
      exact setT_ok h2 (g.set (v := .val t) (fun _ => ⟨_, rfl, h1⟩) rfl)
theorem setT_len : ∀ {is : List Nat} {ts : List Ty} {Γ : TE}, (setT is ts Γ).length = Γ.length
  | [], _, _ => by rw [setT]; intros; rename_i h _; cases h
  | _ :: _, [], _ => by rw [setT]; intros; rename_i _ h; cases h
  | i :: is, t :: ts, _ => by rw [setT, setT_len, List.length_set]
mutual
def aS (call : Nat → List Ty → Option Ty) : S → TE → Option AR
  | .drop c, Γ => match aE call c Γ with | some _ => some ⟨some Γ, .no, none, none⟩ | none => none
  | .set i c, Γ => match aE call c Γ with | some t => some ⟨some (Γ.set i (.val t)), .no, none, none⟩ | none => none
  | .unp t c, Γ => match aE call c Γ with
    | some x => match t.bindT x Γ with
      | some Γ' => some ⟨some Γ', .no, none, none⟩
      | none => none
    | none => none
  | .unpS l c, Γ => match aE call c Γ with
    | some x => match tStar l.num x with
      | some ts => match l.bindT ts Γ with
        | some Γ' => some ⟨some Γ', .no, none, none⟩
        | none => none
      | none => none
    | none => none
  | .par is cs, Γ => match aEs call cs Γ with | some ts => some ⟨some (setT is ts Γ), .no, none, none⟩ | none => none
  | .ret c, Γ => match aE call c Γ with | some t => some ⟨none, t, none, none⟩ | none => none
  | .retN, _ => some ⟨none, .non, none, none⟩
  | .ite t a b, Γ => match aE call t Γ, aSs call a (rfn t true Γ), aSs call b (rfn t false Γ) with
    | some .bl, some r, some r2 => some ⟨ojoin r.nx r2.nx, jn r.rt r2.rt, ojoin r.bk r2.bk, ojoin r.ct r2.ct⟩
    | _, _, _ => none
  | .for_ t it b, Γ => match exL it Γ with
    | some xs => aLoopX (fun Γ => aSs call b Γ) t xs Γ
    | none => match aI call it Γ with
      | some (x, p, q) => aLoop (fun Γ => aSs call b Γ) t x p q Γ
      | none => none
  | .brk, Γ => some ⟨none, .no, some Γ, none⟩
  | .cont, Γ => some ⟨none, .no, none, some Γ⟩
  | .pass, Γ => some ⟨some Γ, .no, none, none⟩
  | _, _ => none
def aSs (call : Nat → List Ty → Option Ty) : Ss → TE → Option AR
  | .nil, Γ => some ⟨some Γ, .no, none, none⟩
  | .cons s l, Γ => match aS call s Γ with
    | some r => match r.nx with
      | none => some r
      | some Γ' => match aSs call l Γ' with
        | some r2 => some ⟨r2.nx, jn r.rt r2.rt, ojoin r.bk r2.bk, ojoin r.ct r2.ct⟩
        | none => none
    | none => none
end
theorem fok_l {r r2 : AR} {k : Nat} {f : Fl} (l1 : r.long k) (l2 : r2.long k) (h : FOk Fd n m0 r f) : FOk Fd n m0 ⟨ojoin r.nx r2.nx, jn r.rt r2.rt, ojoin r.bk r2.bk, ojoin r.ct r2.ct⟩ f := by
  cases f with
  | nx e m => exact ojoin_l l1.nx l2.nx h
  | bk e m => exact ojoin_l l1.bk l2.bk h
  | ct e m => exact ojoin_l l1.ct l2.ct h
  | rt d m => exact ⟨join_l _ h.1, h.2⟩
  | exc x e m => exact h.elim
  | bad => exact h.elim
theorem fok_r {r r2 : AR} {k : Nat} {f : Fl} (l1 : r.long k) (l2 : r2.long k) (h : FOk Fd n m0 r2 f) : FOk Fd n m0 ⟨ojoin r.nx r2.nx, jn r.rt r2.rt, ojoin r.bk r2.bk, ojoin r.ct r2.ct⟩ f := by
  cases f with
  | nx e m => exact ojoin_r l1.nx l2.nx h
  | bk e m => exact ojoin_r l1.bk l2.bk h
  | ct e m => exact ojoin_r l1.ct l2.ct h
  | rt d m => exact ⟨join_r _ h.1, h.2⟩
  | exc x e m => exact h.elim
  | bad => exact h.elim
section
variable (hc : CallOk Fd n G call)
include hc
theorem aSet_ok {i : Nat} {c : C} {t : Ty} (h : aE call c Γ = some t) (g : Good Fd n m0 Γ e m) : FOk Fd n m0 ⟨some (Γ.set i (.val t)), .no, none, none⟩ (execS G (.set i c) e m) := by
  obtain ⟨d, m1, h1, h2, w⟩ := aE_ok hc h g
  rw [x_set, h1, Out.fl_ok]
  exact ⟨_, rfl, (g.go w).set (v := .val t) (fun _ => ⟨d, rfl, h2⟩) rfl⟩
mutual
theorem aS_ok : ∀ {s : S} {Γ : TE} {r : AR}, aS call s Γ = some r → r.long Γ.length ∧ ∀ {e : Env} {m : Mem}, Good Fd n m0 Γ e m → FOk Fd n m0 r (execS G s e m)
  | .drop c, Γ, r, h => by
    rw [aS] at h
    split at h
    · rename_i h1
      cases h
      refine ⟨⟨rfl, trivial, trivial⟩, fun {e m} g => ?_⟩
      obtain ⟨d, m1, h2, _, w⟩ := aE_ok hc h1 g
      rw [x_drop, h2, Out.fl_ok]
      exact ⟨_, rfl, g.go w⟩
    · cases h
  | .set i c, Γ, r, h => by
    rw [aS] at h
    split at h
    · rename_i h1
      cases h
      exact ⟨⟨List.length_set .., trivial, trivial⟩, fun {e m} g => aSet_ok hc h1 g⟩
    · cases h
  | .unp t c, Γ, r, h => by
    rw [aS] at h
    split at h
    · rename_i h1
      split at h
      · rename_i h2
        cases h
        refine ⟨⟨bindT_len h2, trivial, trivial⟩, fun {e m} g => ?_⟩
        obtain ⟨d, m1, h3, h4, w⟩ := aE_ok hc h1 g
        obtain ⟨e', h5, h6⟩ := bindT_ok h2 (g.go w) h4
        rw [x_unp, h3, Out.fl_ok]
        unfold unpD
        rw [h5]
        exact ⟨_, rfl, h6⟩
      · cases h
    · cases h
  | .unpS l c, Γ, r, h => by
    rw [aS] at h
    split at h
    · rename_i h1
      split at h
      · rename_i ts h2
        split at h
        · rename_i h3
          cases h
          refine ⟨⟨bindsT_len h3, trivial, trivial⟩, fun {e m} g => ?_⟩
          obtain ⟨d, m1, h4, h5, w⟩ := aE_ok hc h1 g
          obtain ⟨ds, h6, h7⟩ := tStar_ok h2 h5
          obtain ⟨e', h8, h9⟩ := bindsT_ok h3 (g.go w) h7
          rw [x_unpS, h4, Out.fl_ok]
          unfold unpSD
          rw [h6]
          dsimp only
          rw [h8]
          exact ⟨_, rfl, h9⟩
        · cases h
      · cases h
    · cases h
  | .nev, _, _, h => by simp [aS] at h
  | .par is cs, Γ, r, h => by
    rw [aS] at h
    split at h
    · rename_i h1
      cases h
      refine ⟨⟨setT_len, trivial, trivial⟩, fun {e m} g => ?_⟩
      obtain ⟨d, m1, h3, h4, w⟩ := aEs_ok hc h1 g
      rw [x_par, h3, Out.fl_ok]
      exact ⟨_, rfl, setT_ok h4 (g.go w)⟩
    · cases h
  | .ret c, Γ, r, h => by
    rw [aS] at h
    split at h
    · rename_i h1
      cases h
      refine ⟨⟨trivial, trivial, trivial⟩, fun {e m} g => ?_⟩
      obtain ⟨d, m1, h2, h3, w⟩ := aE_ok hc h1 g
      rw [x_ret, h2, Out.fl_ok]
      exact ⟨h3, g.ext.trans w⟩
    · cases h
  | .retN, Γ, r, h => by
    rw [aS] at h
    cases h
    refine ⟨⟨trivial, trivial, trivial⟩, fun {e m} g => ?_⟩
    rw [x_retN]
    exact ⟨by rw [Has], g.ext⟩
  | .ite t a b, Γ, r, h => by
    rw [aS] at h
    split at h
    · rename_i h1 h2 h3
      cases h
      obtain ⟨l1, f1⟩ := aSs_ok h2
      obtain ⟨l2, f2⟩ := aSs_ok h3
      rw [rfn_len] at l1 l2
      refine ⟨⟨ojoin_long l1.nx l2.nx, ojoin_long l1.bk l2.bk, ojoin_long l1.ct l2.ct⟩, fun {e m} g => ?_⟩
      obtain ⟨d, m1, h4, h5, w⟩ := aE_ok hc h1 g
      obtain ⟨k, rfl⟩ := has_bl_of h5
      rw [x_ite, evt, h4, Out.bind_ok, asBl_bl, Out.fl_ok]
      cases k with
      | true => rw [if_pos rfl]; exact fok_l l1 l2 (f1 (rfn_ok h4 (g.go w)))
      | false => rw [if_neg Bool.false_ne_true]; exact fok_r l1 l2 (f2 (rfn_ok h4 (g.go w)))
    · cases h
  | .for_ t it b, Γ, r, h => by
    rw [aS] at h
    split at h
    · rename_i h1
      obtain ⟨l1, f1⟩ := loopX_ok (b := fun e m => execSs G b e m) (fun {Γ r} h => aSs_ok h) h
      refine ⟨l1, fun {e m} g => ?_⟩
      obtain ⟨ds, e1, hp⟩ := exL_ok (G := G) h1 g
      rw [x_for, e1, Out.fl_ok]
      exact f1 hp g
    split at h
    · rename_i h1
      obtain ⟨l1, f1⟩ := loop_ok (b := fun e m => execSs G b e m) (fun {Γ r} h => aSs_ok h) h
      refine ⟨l1, fun {e m} g => ?_⟩
      obtain ⟨s, m1, e1, s1, s2, s3, s4, w1⟩ := aI_ok hc h1 g
      obtain ⟨its, at_⟩ := s
      dsimp only at s1 s2 s3 s4
      subst s1
      rw [x_for, e1, Out.fl_ok]
      exact f1 s2 s3 s4 (g.go w1)
    · cases h
  | .brk, Γ, r, h => by
    rw [aS] at h
    cases h
    exact ⟨⟨trivial, rfl, trivial⟩, fun {e m} g => by rw [x_brk]; exact ⟨_, rfl, g⟩⟩
  | .cont, Γ, r, h => by
    rw [aS] at h
    cases h
    exact ⟨⟨trivial, trivial, rfl⟩, fun {e m} g => by rw [x_cont]; exact ⟨_, rfl, g⟩⟩
  | .pass, Γ, r, h => by
    rw [aS] at h
    cases h
    exact ⟨⟨rfl, trivial, trivial⟩, fun {e m} g => by rw [x_pass]; exact ⟨_, rfl, g⟩⟩
  | .aug _ _ _, _, _, h => by simp [aS] at h
  | .app _ _, _, _, h => by simp [aS] at h
  | .meth _ _ _ _, _, _, h => by simp [aS] at h
  | .mv _ _, _, _, h => by simp [aS] at h
  | .put _ _ _, _, _, h => by simp [aS] at h
  | .while_ _ _, _, _, h => by simp [aS] at h
theorem aSs_ok : ∀ {s : Ss} {Γ : TE} {r : AR}, aSs call s Γ = some r → r.long Γ.length ∧ ∀ {e : Env} {m : Mem}, Good Fd n m0 Γ e m → FOk Fd n m0 r (execSs G s e m)
  | .nil, Γ, r, h => by
    rw [aSs] at h
    cases h
    exact ⟨⟨rfl, trivial, trivial⟩, fun {e m} g => by rw [xs_nil]; exact ⟨_, rfl, g⟩⟩
  | .cons s l, Γ, r, h => by
    rw [aSs] at h
    split at h
    · rename_i r1 h1
      obtain ⟨l1, f1⟩ := aS_ok h1
      split at h
      · rename_i h2
        cases h
        refine ⟨l1, fun {e m} g => ?_⟩
        have q := f1 g
        rw [xs_cons]
        cases hf : execS G s e m with
        | nx e m => rw [hf] at q; obtain ⟨_, z, _⟩ := q; rw [h2] at z; cases z
        | bk e m => rw [hf] at q; exact q
        | ct e m => rw [hf] at q; exact q
        | rt d m => rw [hf] at q; exact q
        | exc x e m => rw [hf] at q; exact q
        | bad => rw [hf] at q; exact q
      · rename_i Γ' h2
        split at h
        · rename_i r2 h3
          cases h
          obtain ⟨l2, f2⟩ := aSs_ok h3
          have hl : Γ'.length = Γ.length := by have := l1.nx; rw [h2] at this; exact this
          rw [hl] at l2
          refine ⟨⟨l2.nx, ojoin_long l1.bk l2.bk, ojoin_long l1.ct l2.ct⟩, fun {e m} g => ?_⟩
          have q := f1 g
          rw [xs_cons]
          cases hf : execS G s e m with
          | nx e m =>
            rw [hf] at q
            obtain ⟨_, z, g2⟩ := q
            rw [h2] at z
            cases z
            have q2 := f2 g2
            rw [Fl.andThen_nx]
            cases hf2 : execSs G l e m with
            | nx e m => rw [hf2] at q2; exact q2
            | bk e m => rw [hf2] at q2; exact ojoin_r l1.bk l2.bk q2
            | ct e m => rw [hf2] at q2; exact ojoin_r l1.ct l2.ct q2
            | rt d m => rw [hf2] at q2; exact ⟨join_r _ q2.1, q2.2⟩
            | exc x e m => rw [hf2] at q2; exact q2
            | bad => rw [hf2] at q2; exact q2
          | bk e m => rw [hf] at q; exact ojoin_l l1.bk l2.bk q
          | ct e m => rw [hf] at q; exact ojoin_l l1.ct l2.ct q
          | rt d m => rw [hf] at q; exact ⟨join_l _ q.1, q.2⟩
          | exc x e m => rw [hf] at q; exact q
          | bad => rw [hf] at q; exact q
        · cases h
    · cases h
end
end
end Z
set_option maxHeartbeats 2000000
/-! ZT: the shape of a call (plain Lean). -/
namespace Z
open PySem
variable {Fd' : MO → Prop} {n : Nat} {m m' m0 m1 m2 : Mem} {Γ Γ1 Γ2 : TE} {e : Env} {G : Sg}
/-- what a call of a def comes to: its body looked at with its arguments' shapes, k levels deep; hc: what is known of some defs from level L on -/
def callT (ds : List Fd) (hc : Nat → List Ty → Option Ty) (L : Nat) : Nat → Nat → List Ty → Option Ty
  | 0, _, _ => none
  | k + 1, f, ts => match (if L ≤ k + 1 then hc f ts else none) with
    | some t => some t
    | none => match ds[f]? with
      | some fd => if ts.length = fd.ps.length then match aSs (callT ds hc L k) fd.b (ts.map .val ++ List.replicate (fd.N.length - ts.length) .un) with
        | some r => if r.bk.isNone && r.ct.isNone then some (if r.nx.isNone then r.rt else jn r.rt .non) else none
        | none => none
        else none
      | none => none
/-- what is known of some defs holds -/
def HandOk (Fd' : MO → Prop) (ds : List Fd) (hc : Nat → List Ty → Option Ty) (L : Nat) : Prop := ∀ (k : Nat), L ≤ k → ∀ (f : Nat) (ts : List Ty) (u : Ty) (args : List D) (o : MO), hc f ts = some u → Paired (Has 0) ts args → Fd' o →
  ∃ d o', progP ds k f args [o] = .ok d [o'] ∧ Has 0 u d ∧ Fd' o'
theorem paired_get {R : α → β → Prop} {as : List α} {bs : List β} (h : Paired R as bs) : ∀ {i : Nat} {a : α}, as[i]? = some a → ∃ b, bs[i]? = some b ∧ R a b := by
  induction h with
  | nil => intro i a h; simp at h
  | cons h1 _ ih =>
    intro i a h
    cases i with
    | zero => simp at h; subst h; exact ⟨_, rfl, h1⟩
    | succ i => simpa using ih (by simpa using h)
theorem paired_len {R : α → β → Prop} {as : List α} {bs : List β} (h : Paired R as bs) : as.length = bs.length := by
  induction h with
  | nil => rfl
  | cons _ _ ih => rw [List.length_cons, List.length_cons, ih]
theorem good_args {ts : List Ty} {args : List D} {k : Nat} (h : Paired (Has n) ts args) (nl : n < m.length ∧ m.length = 1) (hf : ∃ o, m[n]? = some o ∧ Fd' o) :
    Good Fd' n m (ts.map .val ++ List.replicate (k - ts.length) .un) (args.map some ++ List.replicate (k - args.length) none) m := by
  have hl := paired_len h
  refine ⟨.refl hf, nl, by simp [hl], fun i v hv => ?_, fun i j v w hij hv hw mv mw => ?_⟩
  · by_cases hi : i < ts.length
    · rw [List.getElem?_append_left (by rw [List.length_map]; exact hi), List.getElem?_map] at hv
      obtain ⟨t, h1, rfl⟩ := Option.map_eq_some_iff.mp hv
      obtain ⟨d, h2, h3⟩ := paired_get h h1
      refine ⟨d, ?_, h3⟩
      rw [List.getD_eq_getElem?_getD, List.getElem?_append_left (by rw [List.length_map, ← hl]; exact hi), List.getElem?_map, h2]
      rfl
    · rw [List.getElem?_append_right (by rw [List.length_map]; omega)] at hv
      have := List.mem_of_getElem? hv
      rw [(List.mem_replicate.mp this).2]
      trivial
  · have : v.isMl = false := by
      rcases List.mem_append.mp (List.mem_of_getElem? hv) with z | z
      · obtain ⟨t, _, rfl⟩ := List.mem_map.mp z; rfl
      · rw [(List.mem_replicate.mp z).2]; rfl
    rw [this] at mv
    cases mv
mutual
theorem py_u : ∀ {d : D} {x : PyData}, toPy d = some x → U d
  | .non, _, _ => rfl
  | .bl _, _, _ => rfl
  | .int _, _, _ => rfl
  | .str _, _, _ => rfl
  | .scr _, _, _ => rfl
  | .fn _ _, _, _ => rfl
  | .ty _, _, _ => rfl
  | .loc _, _, h => by rw [toPy] at h <;> first | cases h | (intros; intro h; cases h)
  | .dct _ _, _, h => by rw [toPy] at h <;> first | cases h | (intros; intro h; cases h)
  | .tup l, x, h => by
    rw [toPy] at h
    split at h
    · rename_i e; exact pys_u e
    · cases h
  | .lst l, x, h => by
    rw [toPy] at h
    split at h
    · rename_i e; exact pys_u e
    · cases h
theorem pys_u : ∀ {d : List D} {x : List PyData}, toPys d = some x → Us d
  | [], _, _ => rfl
  | d :: l, x, h => by
    rw [toPys] at h
    split at h
    · rename_i e1 e2
      rw [Us, D.unders, py_u e1, pys_u e2]; rfl
    · cases h
end
theorem sm_u {w p : Nat} {d : D} (h : Sm w p d) : U d := by
  obtain ⟨x, h, _⟩ := h
  exact py_u h
mutual
theorem has_u : ∀ {t : Ty} {d : D}, Has 0 t d → U d
  | .no, _, h => by rw [Has] at h; exact h.elim
  | .non, _, h => by rw [Has] at h; subst h; rfl
  | .bl, _, h => by rw [Has] at h; obtain ⟨_, rfl⟩ := h; rfl
  | .int _ _, _, h => by rw [Has] at h; obtain ⟨_, rfl, _⟩ := h; rfl
  | .str _, _, h => by rw [Has] at h; obtain ⟨_, rfl, _⟩ := h; rfl
  | .tup l, _, h => by rw [Has] at h; obtain ⟨_, rfl, h⟩ := h; exact has_us h
  | .tups _ _ _, _, h => by rw [Has] at h; obtain ⟨_, rfl, _, _, h⟩ := h; exact us_iff.mpr fun d hd => has_u (h d hd)
  | .lst l, _, h => by rw [Has] at h; obtain ⟨_, rfl, h⟩ := h; exact has_us h
  | .lsts _ _ _, _, h => by rw [Has] at h; obtain ⟨_, rfl, _, _, h⟩ := h; exact us_iff.mpr fun d hd => has_u (h d hd)
  | .feed, _, h => by rw [Has] at h; subst h; rfl
  | .un _ _, _, h => by rw [Has] at h; exact h.elim has_u has_u
  | .dat _ _, _, h => by rw [Has] at h; exact sm_u h
theorem has_us : ∀ {t : Tys} {d : List D}, Hass 0 t d → Us d
  | .nil, _, h => by rw [Hass] at h; subst h; rfl
  | .cons t l, _, h => by
    rw [Hass] at h
    obtain ⟨x, xs, rfl, h1, h2⟩ := h
    rw [Us, D.unders, has_u h1, has_us h2]; rfl
end
theorem callT_ok {Fd' : MO → Prop} {ds : List Fd} {hc : Nat → List Ty → Option Ty} {L : Nat} (hd : HandOk Fd' ds hc L) (ho : ∀ o, Fd' o → OkO o) : ∀ k, CallOk Fd' 0 (progP ds k) (callT ds hc L k)
  | 0, f, ts, u, args, m, h, _, _, _ => by rw [callT] at h; cases h
  | k + 1, f, ts, u, args, m, h, hp, nl, hf => by
    rw [callT.eq_def] at h
    dsimp only at h
    obtain ⟨o, h0, hfo⟩ := hf
    obtain rfl : m = [o] := by
      match m, nl.2 with
      | [x], _ => simp at h0; subst h0; rfl
    split at h
    · rename_i t he
      cases h
      split at he
      · rename_i hL
        obtain ⟨d, o', h1, h2, h3⟩ := hd (k + 1) hL f ts u args o he hp hfo
        exact ⟨d, [o'], h1, h2, rfl, fun j h4 h5 => by simp at h4; omega, o', rfl, h3⟩
      · cases he
    · split at h
      · rename_i fd hfd
        split at h
        · rename_i hl
          split at h
          · rename_i r h1
            split at h
            · rename_i hn
              cases h
              rw [Bool.and_eq_true] at hn
              obtain ⟨l1, f1⟩ := aSs_ok (callT_ok hd ho k) h1
              have q := f1 (good_args hp nl ⟨o, h0, hfo⟩)
              rw [progP_at hfd (by rw [← paired_len hp]; exact hl)]
              have fin : ∀ {d : D} {m' : Mem} {t : Ty}, Wid Fd' 0 [o] m' → Has 0 t d → ∃ o', m' = [o'] ∧ chkO (.ok d m') = .ok d [o'] := fun {d m' t} w hd => by
                obtain ⟨o', q1, q2⟩ := w.feed
                obtain rfl : m' = [o'] := by
                  match m', w.len with
                  | [x], _ => simp at q1; subst q1; rfl
                refine ⟨o', rfl, ?_⟩
                have k1 := ho o' q2
                have k2 : noL o' = true := by
                  cases o' with
                  | lst l => exact k1.nl.elim
                  | _ => rfl
                unfold chkO
                dsimp only
                rw [has_u hd, k1.u, k2]
                rfl
              unfold bodyD
              cases hx : execSs (progP ds k) fd.b (args.map some ++ List.replicate (fd.N.length - args.length) none) [o] with
              | nx e m' =>
                rw [hx] at q
                obtain ⟨Γ, z, g⟩ := q
                obtain ⟨o', rfl, hc⟩ := fin (d := .non) (t := .non) g.ext (by rw [Has])
                refine ⟨.non, _, hc, ?_, g.ext⟩
                rw [z]
                exact join_r _ (by rw [Has])
              | rt d m' =>
                rw [hx] at q
                obtain ⟨o', rfl, hc⟩ := fin q.2 q.1
                refine ⟨d, _, hc, ?_, q.2⟩
                split
                · exact q.1
                · exact join_l _ q.1
              | bk e m' => rw [hx] at q; obtain ⟨Γ, z, _⟩ := q; rw [z] at hn; cases hn.1
              | ct e m' => rw [hx] at q; obtain ⟨Γ, z, _⟩ := q; rw [z] at hn; cases hn.2
              | exc x e m' => rw [hx] at q; exact q.elim
              | bad => rw [hx] at q; exact q.elim
            · cases h
          · cases h
        · cases h
      · cases h
end Z
set_option maxHeartbeats 1000000
/-! Y1: walks over typed lists; the second kind of feed (plain Lean). -/
namespace Z
open PySem
/-! ### walks over typed lists, the memory as it is -/
section
variable {α : Type} {stays : Mem → Bool} {g : Env → Mem → Out D} {p : Env → Mem → Out Bool} {t : T} {m : Mem}
theorem compGo_map (f : α → D) (c : α → Bool) (v : α → D) (h0 : stays m = true) {e : Env} : ∀ {l : List α}, (∀ a ∈ l, ∃ e', t.bind (f a) e = some e' ∧ p e' m = .ok (c a) m ∧ (c a = true → g e' m = .ok (v a) m)) →
    compGo stays g p t (l.map f) e m = .ok ((l.filter c).map v) m
  | [], _ => by unfold compGo; rw [List.map_nil]; simp only; rw [if_pos h0]; rfl
  | a :: l, h => by
    obtain ⟨e', h1, h2, h3⟩ := h a (List.mem_cons_self ..)
    have ih := compGo_map f c v h0 (e := e) (l := l) fun x hx => h x (List.mem_cons_of_mem _ hx)
    rw [List.map_cons]
    unfold compGo
    rw [if_pos h0, h1]
    dsimp only
    rw [h2, Out.bind_ok, List.filter_cons]
    cases hc : c a with
    | true => rw [if_pos rfl, if_pos rfl, h3 hc, Out.bind_ok, ih, Out.bind_ok, List.map_cons]
    | false => rw [if_neg Bool.false_ne_true, if_neg Bool.false_ne_true, ih]
theorem compGo_all (f : α → D) (v : α → D) (h0 : stays m = true) {e : Env} {l : List α} (h : ∀ a ∈ l, ∃ e', t.bind (f a) e = some e' ∧ p e' m = .ok true m ∧ g e' m = .ok (v a) m) :
    compGo stays g p t (l.map f) e m = .ok (l.map v) m := by
  have := compGo_map (g := g) (p := p) (t := t) (stays := stays) f (fun _ => true) v h0 (e := e) (l := l) fun a ha => by
    obtain ⟨e', h1, h2, h3⟩ := h a ha
    exact ⟨e', h1, h2, fun _ => h3⟩
  rw [this, List.filter_eq_self.mpr fun _ _ => rfl]
theorem compGoL_all {G : Env → Mem → Out (List D)} (f : α → D) (v : α → List D) (h0 : stays m = true) {e : Env} : ∀ {l : List α}, (∀ a ∈ l, ∃ e', t.bind (f a) e = some e' ∧ p e' m = .ok true m ∧ G e' m = .ok (v a) m) →
    compGoL stays G p t (l.map f) e m = .ok (l.flatMap v) m
  | [], _ => by unfold compGoL; rw [List.map_nil]; simp only; rw [if_pos h0]; rfl
  | a :: l, h => by
    obtain ⟨e', h1, h2, h3⟩ := h a (List.mem_cons_self ..)
    have ih := compGoL_all f v h0 (e := e) (l := l) fun x hx => h x (List.mem_cons_of_mem _ hx)
    rw [List.map_cons]
    unfold compGoL
    rw [if_pos h0, h1]
    dsimp only
    rw [h2, Out.bind_ok, if_pos rfl, h3, Out.bind_ok, ih, Out.bind_ok, List.flatMap_cons]
theorem dcGo_all {gk gv : Env → Mem → Out D} (f : α → D) (kf : α → Key) (vf : α → D) (h0 : stays m = true) {e : Env} : ∀ {l : List α} {kvs : List (Key × D)}, kvs.length + l.length ≤ 1000 → (∀ a ∈ l, ∃ e' dk, t.bind (f a) e = some e' ∧ p e' m = .ok true m ∧ gk e' m = .ok dk m ∧ keyOf dk = some (kf a) ∧ gv e' m = .ok (vf a) m) →
    dcGo stays gk gv p t (l.map f) e kvs m = .ok (l.foldl (fun kvs a => setK kvs (kf a) (vf a)) kvs) m
  | [], kvs, _, _ => by unfold dcGo; rw [List.map_nil]; simp only; rw [if_pos h0]; rfl
  | a :: l, kvs, hl, h => by
    obtain ⟨e', dk, h1, h2, h3, h4, h5⟩ := h a (List.mem_cons_self ..)
    have lk : (setK kvs (kf a) (vf a)).length ≤ kvs.length + 1 := by
      unfold setK
      split
      · rw [List.length_map]; omega
      · simp
    have ih := dcGo_all (gk := gk) (gv := gv) f kf vf h0 (e := e) (l := l) (kvs := setK kvs (kf a) (vf a)) (by simp at hl; omega) fun x hx => h x (List.mem_cons_of_mem _ hx)
    rw [List.map_cons]
    unfold dcGo
    rw [if_pos h0, h1]
    dsimp only
    rw [h2, Out.bind_ok, if_pos rfl, h3, Out.bind_ok, h5, Out.bind_ok, h4]
    dsimp only
    rw [if_pos (by rw [sizeLine_eq]; simp at hl; omega), ih, List.foldl_cons]
/-- a loop that may return on its way -/
theorem forGo_find {b : Env → Mem → Fl} (f : α → D) (I : Env → Prop) (r : α → Option D) (h0 : stays m = true) : ∀ {l : List α}, (∀ a ∈ l, ∀ e, I e → ∃ e1, t.bind (f a) e = some e1 ∧ ((r a = none ∧ ∃ e2, b e1 m = .nx e2 m ∧ I e2) ∨ ∃ d, r a = some d ∧ b e1 m = .rt d m)) →
    ∀ {e : Env}, I e → (l.findSome? r = none ∧ ∃ e2, forGo stays b t (l.map f) e m = .nx e2 m ∧ I e2) ∨ ∃ d, l.findSome? r = some d ∧ forGo stays b t (l.map f) e m = .rt d m
  | [], _, e, i => .inl ⟨rfl, e, by unfold forGo; rw [List.map_nil]; simp only; rw [if_pos h0], i⟩
  | a :: l, h, e, i => by
    obtain ⟨e1, h1, h2⟩ := h a (List.mem_cons_self ..) e i
    rcases h2 with ⟨h2, e2, h3, h4⟩ | ⟨d, h2, h3⟩
    · rcases forGo_find f I r h0 (l := l) (fun x hx => h x (List.mem_cons_of_mem _ hx)) h4 with ⟨h5, e3, h6, h7⟩ | ⟨d, h5, h6⟩
      · refine .inl ⟨by rw [List.findSome?_cons, h2]; exact h5, e3, ?_, h7⟩
        rw [List.map_cons]
        unfold forGo
        rw [if_pos h0, h1]
        dsimp only
        rw [h3]
        exact h6
      · refine .inr ⟨d, by rw [List.findSome?_cons, h2]; exact h5, ?_⟩
        rw [List.map_cons]
        unfold forGo
        rw [if_pos h0, h1]
        dsimp only
        rw [h3]
        exact h6
    · refine .inr ⟨d, by rw [List.findSome?_cons, h2], ?_⟩
      rw [List.map_cons]
      unfold forGo
      rw [if_pos h0, h1]
      dsimp only
      rw [h3]
/-- a loop that goes through, the state told by what is gone through -/
theorem forGo_steps {b : Env → Mem → Fl} (f : α → D) (I : List α → Env → Prop) (h0 : stays m = true) : ∀ {l : List α} {don : List α}, (∀ (a : α) (d1 l1 : List α), l = d1 ++ a :: l1 → ∀ e, I (don ++ d1) e → ∃ e1, t.bind (f a) e = some e1 ∧ ∃ e2, b e1 m = .nx e2 m ∧ I (don ++ d1 ++ [a]) e2) →
    ∀ {e : Env}, I don e → ∃ e2, forGo stays b t (l.map f) e m = .nx e2 m ∧ I (don ++ l) e2
  | [], don, _, e, i => ⟨e, by unfold forGo; rw [List.map_nil]; simp only; rw [if_pos h0], by rw [List.append_nil]; exact i⟩
  | a :: l, don, h, e, i => by
    obtain ⟨e1, h1, e2, h3, h4⟩ := h a [] l rfl e (by rw [List.append_nil]; exact i)
    rw [List.append_nil] at h4
    obtain ⟨e3, h5, h6⟩ := forGo_steps f I h0 (l := l) (don := don ++ [a]) (fun x d1 l1 hl e hi => by
      obtain ⟨e1, q1, e2, q2, q3⟩ := h x (a :: d1) l1 (by rw [hl]; rfl) e (by simpa using hi)
      exact ⟨e1, q1, e2, q2, by simpa using q3⟩) h4
    refine ⟨e3, ?_, by simpa using h6⟩
    rw [List.map_cons]
    unfold forGo
    rw [if_pos h0, h1]
    dsimp only
    rw [h3]
    exact h5
end
/-! ### the second kind of feed -/
def fdk2 (c a l n : D) : List (Key × D) := [(.inr "cells", c), (.inr "next", a), (.inr "rest", l), (.inr "draws", n)]
abbrev FdO2 (cs : List Int) (a l c : Int) : MO := .dk (fdk2 (.lst (cs.map D.int)) (.int a) (.int l) (.int c))
theorem n21 : ("cells" : Str) ≠ ("next" : Str) := by decide +kernel
theorem n22 : ("cells" : Str) ≠ ("rest" : Str) := by decide +kernel
theorem n23 : ("cells" : Str) ≠ ("draws" : Str) := by decide +kernel
theorem n24 : ("next" : Str) ≠ ("rest" : Str) := by decide +kernel
theorem n25 : ("next" : Str) ≠ ("draws" : Str) := by decide +kernel
theorem n26 : ("rest" : Str) ≠ ("draws" : Str) := by decide +kernel
section
variable {C A L N v : D}
theorem get2_cells : getK (fdk2 C A L N) (.inr "cells") = some C := by unfold getK fdk2; simp [n21, n22, n23, n24, n25, n26]
theorem get2_next : getK (fdk2 C A L N) (.inr "next") = some A := by unfold getK fdk2; simp [n21, n22, n23, n24, n25, n26]
theorem get2_rest : getK (fdk2 C A L N) (.inr "rest") = some L := by unfold getK fdk2; simp [n21, n22, n23, n24, n25, n26]
theorem get2_draws : getK (fdk2 C A L N) (.inr "draws") = some N := by unfold getK fdk2; simp [n21, n22, n23, n24, n25, n26]
theorem set2_next : setK (fdk2 C A L N) (.inr "next") v = fdk2 C v L N := by unfold setK fdk2; simp [n21, Ne.symm n24, Ne.symm n25]
theorem set2_rest : setK (fdk2 C A L N) (.inr "rest") v = fdk2 C A v N := by unfold setK fdk2; simp [n22, n24, Ne.symm n26]
theorem set2_draws : setK (fdk2 C A L N) (.inr "draws") v = fdk2 C A L v := by unfold setK fdk2; simp [n23, n25, n26]
@[simp] theorem rd2 (kvs : List (Key × D)) (x : Str) : subD [.dk kvs] (.loc 0) (.str x) = getK kvs (.inr x) := rfl
theorem wr2 (e : Env) (kvs : List (Key × D)) (x : Str) (h : kvs.length < 100) : putF (.loc 0) (.str x) v e [.dk kvs] = .nx e [.dk (setK kvs (.inr x) v)] := by
  unfold putF putD
  have hz : kvs.length < sizeLine := by rw [sizeLine_eq]; omega
  simp only [List.getElem?_cons_zero, hz, if_true, List.set_cons_zero]
theorem wr2_next (e : Env) : putF (.loc 0) (.str "next") v e [.dk (fdk2 C A L N)] = .nx e [.dk (fdk2 C v L N)] := by rw [wr2 e (fdk2 C A L N) "next" (by show (4 : Nat) < 100; decide), set2_next]
theorem wr2_rest (e : Env) : putF (.loc 0) (.str "rest") v e [.dk (fdk2 C A L N)] = .nx e [.dk (fdk2 C A v N)] := by rw [wr2 e (fdk2 C A L N) "rest" (by show (4 : Nat) < 100; decide), set2_rest]
theorem wr2_draws (e : Env) : putF (.loc 0) (.str "draws") v e [.dk (fdk2 C A L N)] = .nx e [.dk (fdk2 C A L v)] := by rw [wr2 e (fdk2 C A L N) "draws" (by show (4 : Nat) < 100; decide), set2_draws]
end
/-- the code that draws a figure -/
def drawB2 (d0 p k1 k2 p2 k3 k4 p3 k5 p4 : Int) : Ss := (.cons (.put (.var 0) (.con (.str "draws")) (.bin .Add (.sub (.var 0) (.con (.str "draws"))) (.con (.int 1))))
    (.cons (.ite (.cmp .Gt (.sub (.var 0) (.con (.str "rest"))) (.con (.int 0))) (.cons (.set 2 (.bin .Mod (.sub (.var 0) (.con (.str "rest"))) (.var 1)))
    (.cons (.put (.var 0) (.con (.str "rest")) (.bin .FloorDiv (.sub (.var 0) (.con (.str "rest"))) (.var 1)))
    (.cons (.ret (.var 2))
    .nil))) .nil)
    (.cons (.set 3 (.sub (.var 0) (.con (.str "next"))))
    (.cons (.put (.var 0) (.con (.str "next")) (.bin .Add (.var 3) (.con (.int 1))))
    (.cons (.set 4 (.ite (.cmp .NotEq (.sub (.var 0) (.con (.str "cells"))) (.lst .nil)) (.sub (.sub (.var 0) (.con (.str "cells"))) (.bin .Mod (.var 3) (.bi .len (.cons (.sub (.var 0) (.con (.str "cells"))) .nil)))) (.con (.int d0))))
    (.cons (.ite (.and (.cmp .GtE (.var 4) (.bin .Pow (.con (.int 10)) (.con (.int 18)))) (.cmp .Lt (.var 3) (.bi .len (.cons (.sub (.var 0) (.con (.str "cells"))) .nil)))) (.cons (.put (.var 0) (.con (.str "rest")) (.bin .FloorDiv (.var 4) (.var 1)))
    (.cons (.ret (.bin .Mod (.var 4) (.var 1)))
    .nil)) .nil)
    (.cons (.set 5 (.bin .Mod (.bin .Add (.bin .Add (.bin .Mod (.var 4) (.con (.int p))) (.bin .Mult (.con (.int k1)) (.sub (.var 0) (.con (.str "draws"))))) (.con (.int k2))) (.con (.int p2))))
    (.cons (.set 5 (.bin .Mod (.bin .Add (.bin .Add (.bin .Pow (.var 5) (.con (.int 3))) (.bin .Mult (.con (.int k3)) (.sub (.var 0) (.con (.str "draws"))))) (.con (.int k4))) (.con (.int p3))))
    (.cons (.ret (.bin .Mod (.bin .FloorDiv (.bin .Mod (.bin .Add (.bin .Pow (.var 5) (.con (.int 3))) (.bin .Mult (.con (.int k5)) (.var 5))) (.con (.int p4))) (.con (.int 32))) (.var 1)))
    .nil)))))))))
def mixD2 (p k1 k2 p2 k3 k4 p3 k5 p4 cell cnt : Int) : Int :=
  (((((cell % p + k1 * cnt + k2) % p2) ^ 3 + k3 * cnt + k4) % p3) ^ 3 + k5 * ((((cell % p + k1 * cnt + k2) % p2) ^ 3 + k3 * cnt + k4) % p3)) % p4 / 32
def small2 (p : Int) : Bool := decide (0 < p) && decide (p < 2147483648)
theorem draw2 {G : Sg} {d0 p k1 k2 p2 k3 k4 p3 k5 p4 : Int} (hp : small2 p = true) (hp2 : small2 p2 = true) (hp3 : small2 p3 = true) (hp4 : small2 p4 = true) (h1 : small2 k1 = true) (h3 : small2 k3 = true) (h5 : small2 k5 = true) (cs : List Int) (a l c : Int) (ha : 0 ≤ a) {many : Int} (h0 : 0 < many) (hm : many < 1073741824) :
    ∃ r a' l', bodyD G 6 (drawB2 d0 p k1 k2 p2 k3 k4 p3 k5 p4) [.loc 0, .int many] [FdO2 cs a l c] = .ok (.int r) [FdO2 cs a' l' (c + 1)] ∧ 0 ≤ r ∧ r < many ∧ 0 ≤ a' := by
  simp only [small2, Bool.and_eq_true, decide_eq_true_eq] at hp hp2 hp3 hp4 h1 h3 h5
  have m0 : ∀ x : Int, 0 ≤ x % many ∧ x % many < many := fun x => ⟨Int.emod_nonneg _ (by omega), Int.emod_lt_of_pos _ h0⟩
  have km : ∀ (k : Int), 0 < k ∧ k < 2147483648 → ∀ (m : Mem) (x : Int), binD .Mult m (.int k) (.int x) = some (.int (k * x)) := fun k hk m x => binD_mul (small_left (by omega) (by omega))
  have k1m := km k1 h1
  have k3m := km k3 h3
  have k5m := km k5 h5
  have md : ∀ (q : Int), 0 < q ∧ q < 2147483648 → ∀ (m : Mem) (x : Int), binD .Mod m (.int x) (.int q) = some (.int (x % q)) := fun q hq m x => binD_mod hq.1
  have mp := md p hp
  have q1 := md p2 hp2
  have q2 := md p3 hp3
  have q3 := md p4 hp4
  have mm : ∀ (m : Mem) (x : Int), binD .Mod m (.int x) (.int many) = some (.int (x % many)) := fun m x => binD_mod h0
  have dm : ∀ (m : Mem) (x : Int), binD .FloorDiv m (.int x) (.int many) = some (.int (x / many)) := fun m x => binD_div h0 hm
  have q4 : ∀ (m : Mem) (x : Int), binD .FloorDiv m (.int x) (.int 32) = some (.int (x / 32)) := fun m x => binD_div (by decide) (by decide)
  have pw : ∀ (q : Int), 0 < q ∧ q < 2147483648 → ∀ (m : Mem) (x : Int), binD .Pow m (.int (x % q)) (.int 3) = some (.int ((x % q) ^ 3)) := fun q hq m x => by
    have b1 := Int.emod_nonneg x (show q ≠ 0 by omega)
    have b2 := Int.emod_lt_of_pos x hq.1
    unfold binD
    dsimp only
    rw [if_pos ⟨by decide, by decide, by omega⟩]
    rfl
  have s1 := pw p2 hp2
  have s2 := pw p3 hp3
  have pow18' : ∀ m : Mem, binD .Pow m (.int 10) (.int 18) = some (.int 1000000000000000000) := fun m => rfl
  by_cases hl : 0 < l
  · refine ⟨l % many, a, l / many, ?_, (m0 l).1, (m0 l).2, ha⟩
    simp [bodyD, drawB2, get2_draws, get2_rest, wr2_draws, wr2_rest, hl, mm, dm]
  · by_cases hc : cs = []
    · have ec : ∀ m : Mem, eqD m (.lst (cs.map D.int)) (.lst []) = some true := fun m => by rw [eqD_cells, decide_eq_true hc]
      have el : (cs.length : Int) = 0 := by rw [hc]; rfl
      have na : ¬ a < 0 := by omega
      refine ⟨mixD2 p k1 k2 p2 k3 k4 p3 k5 p4 d0 (c + 1) % many, a + 1, l, ?_, (m0 _).1, (m0 _).2, by omega⟩
      by_cases hb : (1000000000000000000 : Int) ≤ d0
      · simp [bodyD, drawB2, get2_draws, get2_rest, get2_next, get2_cells, wr2_draws, wr2_rest, wr2_next, hl, mm, dm, ec, pow18', hb, mp, k1m, k3m, k5m, q1, q2, q3, q4, s1, s2, el, na, mixD2]
      · simp [bodyD, drawB2, get2_draws, get2_rest, get2_next, get2_cells, wr2_draws, wr2_rest, wr2_next, hl, mm, dm, ec, pow18', hb, mp, k1m, k3m, k5m, q1, q2, q3, q4, s1, s2, mixD2]
    · have ec : ∀ m : Mem, eqD m (.lst (cs.map D.int)) (.lst []) = some false := fun m => by rw [eqD_cells, decide_eq_false hc]
      have hlen : 0 < cs.length := List.length_pos_iff.mpr hc
      have ix : ∀ m : Mem, binD .Mod m (.int a) (.int (cs.length : Int)) = some (.int (a % (cs.length : Int))) := fun m => binD_mod (by omega)
      have ix2 : ∀ m : Mem, subD m (.lst (cs.map D.int)) (.int (a % (cs.length : Int))) = some (.int (cs[(a % (cs.length : Int)).toNat]?.getD 0)) := fun m => by
        have b1 := Int.emod_nonneg a (show (cs.length : Int) ≠ 0 by omega)
        have b2 := Int.emod_lt_of_pos a (show (0 : Int) < cs.length by omega)
        have e : a % (cs.length : Int) = (((a % (cs.length : Int)).toNat : Nat) : Int) := by omega
        rw [e, sub_lst_int (by omega)]
        rfl
      generalize cs[(a % (cs.length : Int)).toNat]?.getD 0 = cell at ix2
      by_cases hb : (1000000000000000000 : Int) ≤ cell
      · by_cases ha2 : a < cs.length
        · refine ⟨cell % many, a + 1, cell / many, ?_, (m0 _).1, (m0 _).2, by omega⟩
          simp [bodyD, drawB2, get2_draws, get2_rest, get2_next, get2_cells, wr2_draws, wr2_rest, wr2_next, hl, mm, dm, ec, ix, ix2, pow18', hb, ha2]
        · refine ⟨mixD2 p k1 k2 p2 k3 k4 p3 k5 p4 cell (c + 1) % many, a + 1, l, ?_, (m0 _).1, (m0 _).2, by omega⟩
          simp [bodyD, drawB2, get2_draws, get2_rest, get2_next, get2_cells, wr2_draws, wr2_rest, wr2_next, hl, mm, dm, ec, ix, ix2, pow18', hb, ha2, mp, k1m, k3m, k5m, q1, q2, q3, q4, s1, s2, mixD2]
      · refine ⟨mixD2 p k1 k2 p2 k3 k4 p3 k5 p4 cell (c + 1) % many, a + 1, l, ?_, (m0 _).1, (m0 _).2, by omega⟩
        simp [bodyD, drawB2, get2_draws, get2_rest, get2_next, get2_cells, wr2_draws, wr2_rest, wr2_next, hl, mm, dm, ec, ix, ix2, pow18', hb, mp, k1m, k3m, k5m, q1, q2, q3, q4, s1, s2, mixD2]
/-- such a feed -/
def Feed2 (o : MO) : Prop := ∃ (cs : List Int) (a l c : Int), 0 ≤ a ∧ o = FdO2 cs a l c
theorem Feed2.ok {o : MO} (h : Feed2 o) : OkO o := by
  obtain ⟨cs, a, l, c, _, rfl⟩ := h
  refine ⟨trivial, ?_⟩
  show D.unders 1 [.lst (cs.map D.int), .int a, .int l, .int c] = true
  simp only [D.unders, D.under, Bool.and_true]
  exact us_ints cs
end Z
set_option maxHeartbeats 1000000
/-! Y2: steps of walks that every law needs; the first kind of feed as the one cell; while loops. -/
namespace Z
open PySem
theorem chk_val {d : D} {o : MO} (u : U d) (ok : OkO o) : chkO (.ok d [o]) = .ok d [o] := by
  have k2 : noL o = true := by
    cases o with
    | lst l => exact ok.nl.elim
    | _ => rfl
  unfold chkO
  dsimp only
  rw [u, ok.u, k2]
  rfl
theorem call_at {ds : List Fd} {k n : Nat} {f : Fd} {args : List D} {d : D} {o o' : MO} (h : ds[n]? = some f) (hl : args.length = f.ps.length) (hb : bodyD (progP ds k) f.N.length f.b args [o] = .ok d [o']) (u : U d) (ok : OkO o') : progP ds (k + 1) n args [o] = .ok d [o'] := by
  rw [progP_at h hl, hb, chk_val u ok]
@[simp] theorem s0 {m : Mem} {a : D} {l : List D} : subD m (.tup (a :: l)) (.int 0) = some a := sub_tup (i := 0) rfl
@[simp] theorem s1 {m : Mem} {a b : D} {l : List D} : subD m (.tup (a :: b :: l)) (.int 1) = some b := sub_tup (i := 1) rfl
@[simp] theorem s2 {m : Mem} {a b c : D} {l : List D} : subD m (.tup (a :: b :: c :: l)) (.int 2) = some c := sub_tup (i := 2) rfl
@[simp] theorem s3 {m : Mem} {a b c d : D} {l : List D} : subD m (.tup (a :: b :: c :: d :: l)) (.int 3) = some d := sub_tup (i := 3) rfl
theorem subI {m : Mem} {l : List Int} {i : Nat} (h : i < l.length) : subD m (.tup (l.map D.int)) (.int (i : Int)) = some (.int (l.getD i 0)) := by
  rw [sub_tup_int h, List.getD_eq_getElem?_getD]
theorem getD_mem {l : List Int} {i : Nat} (h : i < l.length) : l.getD i 0 ∈ l := by
  rw [List.getD_eq_getElem?_getD, List.getElem?_eq_getElem h]; exact List.getElem_mem h
@[simp] theorem unpD_eq (t : T) (e : Env) (d : D) (m : Mem) : unpD t e d m = (match t.bind d e with | some e => Fl.nx e m | none => Fl.bad) := rfl
@[simp] theorem bodyD_eq (G : Sg) (n : Nat) (b : Ss) (args : List D) (m : Mem) : bodyD G n b args m = (execSs G b (args.map some ++ List.replicate (n - args.length) none) m).out := rfl
@[simp] theorem loopF_eq (G : Sg) (b : Ss) (t : T) (s : Src) (e : Env) (m : Mem) : loopF G b t s e m = forGo s.stays (fun e m => execSs G b e m) t s.items e m := rfl
@[simp] theorem stays0 (l : List D) : (Src.mk l none).stays = fun _ => true := rfl
theorem comp_all {α : Type} {G : Sg} {own : List Nat} {elt : C} {t : T} {m : Mem} {e : Env} (f : α → D) (v : α → D) {l : List α} (h : ∀ a ∈ l, ∃ e', t.bind (f a) (wipe e own) = some e' ∧ evalC G elt e' m = .ok (v a) m) :
    compD G own elt t .nil ⟨l.map f, none⟩ e m = .ok (l.map v) m := by
  unfold compD
  rw [compGo_all f v rfl fun a ha => ?_]
  · rfl
  · obtain ⟨e', h1, h2⟩ := h a ha
    exact ⟨e', h1, by rw [evf_nil], h2⟩
theorem comp_flt {α : Type} {G : Sg} {own : List Nat} {elt : C} {ifs : Cs} {t : T} {m : Mem} {e : Env} (f : α → D) (c : α → Bool) (v : α → D) {l : List α} (h : ∀ a ∈ l, ∃ e', t.bind (f a) (wipe e own) = some e' ∧ evalIfs G ifs e' m = .ok (c a) m ∧ (c a = true → evalC G elt e' m = .ok (v a) m)) :
    compD G own elt t ifs ⟨l.map f, none⟩ e m = .ok ((l.filter c).map v) m := by
  unfold compD
  rw [compGo_map f c v rfl fun a ha => h a ha]
  rfl
/-! ### own lists as values -/
theorem mtV_app {xs : List D} {v : D} (h : xs.length < sizeLine) : mtV .append xs [v] = some (.non, xs ++ [v]) := by
  unfold mtV mtD
  simp [h]
theorem mtV_ext {xs ys : List D} (h : xs.length + ys.length ≤ sizeLine) : mtV .extend xs [.lst ys] = some (.non, xs ++ ys) := by
  unfold mtV mtD
  simp [h, rdL]
theorem mtV_rem {ns : List Int} {k : Int} (h : k ∈ ns) : mtV .remove (ns.map D.int) [.int k] = some (.non, (ns.erase k).map D.int) := by
  unfold mtV mtD
  simp only [List.getElem?_cons_succ, List.getElem?_cons_zero, asInts_map, if_pos h]
  rfl
theorem sub_last {m : Mem} {l : List D} {d : D} : subD m (.lst (l ++ [d])) (.int (-1)) = some d := by
  have h := last_loc (m := [.lst (l ++ [d])]) (n := 0) (l := l) (d := d) rfl
  exact h
theorem sub_last_t {m : Mem} {l : List D} {d : D} : subD m (.tup (l ++ [d])) (.int (-1)) = some d := by
  have h := last_loc (m := [.lst (l ++ [d])]) (n := 0) (l := l) (d := d) rfl
  exact h
theorem srtR_lst {m : Mem} (ns : List Int) : srtRD m (.lst (ns.map D.int)) = some (.lst ((srt ns).reverse.map D.int)) := by
  unfold srtRD
  simp only [rdS, asInts_map, Option.map_some]
  rfl
/-! ### while -/
theorem whileF_of {c : Env → Mem → Out Bool} {b : Env → Mem → Fl} {e : Env} {m : Mem} {n : Nat} {f : Fl} (h : whileN c b n e m = some f) : whileF c b e m = f := by
  have ex : ∃ n, (whileN c b n e m).isSome = true := ⟨n, by rw [h]; rfl⟩
  unfold whileF
  rw [dif_pos ex]
  obtain ⟨g, hg⟩ := Option.isSome_iff_exists.mp ex.choose_spec
  rw [hg]
  exact (whileN_det h hg).symm
/-- a loop that gets less each time -/
theorem whileF_ind {c : Env → Mem → Out Bool} {b : Env → Mem → Fl} (R : Nat → Env → Mem → Prop) (Q : Fl → Prop) (step : ∀ n e m, R n e m → (c e m = .ok false m ∧ Q (.nx e m)) ∨ ∃ e' m' k, c e m = .ok true m ∧ b e m = .nx e' m' ∧ k < n ∧ R k e' m') :
    ∀ n e m, R n e m → Q (whileF c b e m) := by
  have main : ∀ n e m, R n e m → ∃ k f, whileN c b k e m = some f ∧ Q f := by
    intro n
    induction n using Nat.strongRecOn with
    | ind n ih =>
      intro e m r
      rcases step n e m r with ⟨h1, h2⟩ | ⟨e', m', k, h1, h2, h3, h4⟩
      · exact ⟨1, _, by rw [whileN, h1], h2⟩
      · obtain ⟨j, f, h5, h6⟩ := ih k h3 e' m' h4
        exact ⟨j + 1, f, by rw [whileN, h1]; dsimp only; rw [h2]; exact h5, h6⟩
  intro n e m r
  obtain ⟨k, f, h1, h2⟩ := main n e m r
  rw [whileF_of h1]
  exact h2
/-! ### the first kind of feed -/
def Feed1 (o : MO) : Prop := ∃ (cs : List Int) (a l c : Int), 0 ≤ a ∧ o = FdO cs a l c
theorem Feed1.ok {o : MO} (h : Feed1 o) : OkO o := by
  obtain ⟨cs, a, l, c, _, rfl⟩ := h
  refine ⟨trivial, ?_⟩
  show D.unders 1 [.lst (cs.map D.int), .int a, .int l, .int c] = true
  simp only [D.unders, D.under, Bool.and_true]
  exact us_ints cs
theorem draw1 {G : Sg} {d0 p k1 k2 k3 k4 k5 : Int} (hp : 0 < p) (h1 : -(2 ^ 64) < k1 ∧ k1 < 2 ^ 64) (h3 : -(2 ^ 64) < k3 ∧ k3 < 2 ^ 64) (h5 : -(2 ^ 64) < k5 ∧ k5 < 2 ^ 64) {o : MO} (F : Feed1 o) {many : Int} (h0 : 0 < many) (hm : many < 1073741824) :
    ∃ r o', bodyD G 6 (drawB d0 p k1 k2 k3 k4 k5) [.loc 0, .int many] [o] = .ok (.int r) [o'] ∧ 0 ≤ r ∧ r < many ∧ Feed1 o' := by
  obtain ⟨cs, a, l, c, ha, rfl⟩ := F
  obtain ⟨r, m', q1, q2, q3, q4, q5⟩ := draw_ok (G := G) (d0 := d0) (p := p) (k1 := k1) (k2 := k2) (k3 := k3) (k4 := k4) (k5 := k5) hp h1 h3 h5 (m := [FdO cs a l c]) (n := 0) ⟨cs, a, l, c, ha, rfl⟩ h0 hm
  obtain ⟨cs', a', l', c', ha', q6⟩ := q4
  have q7 := q5.len
  match m', q7, q6 with
  | [x], _, q6 =>
    simp at q6
    subst q6
    exact ⟨r, _, q1, q2, q3, cs', a', l', c', ha', rfl⟩
end Z
namespace K34
open PySem PySem.Spec PyProof.Rows L2 Z
def top (i : Nat) : Stmt := PySem.Challenge.pw_handsmade_k34_whole_copied_out.main.body.getD i (.Pass ⟨0, 0, 0, 0⟩)
def b_is_number : Ss := (.cons (.ret (.and (.bi .isinst (.cons (.var 0) (.cons (.con (.ty "int")) .nil))) (.and (.not (.bi .isinst (.cons (.var 0) (.cons (.con (.ty "bool")) .nil)))) (.cmp .GtE (.var 0) (.con (.int 0))))))
    .nil)
def f_is_number : Fd := ⟨"is_number", top 5, ["thing"], ["thing"], [], b_is_number, true⟩ -- 0
def b_is_bunch : Ss := (.cons (.ite (.or (.not (.bi .isinst (.cons (.var 0) (.cons (.con (.ty "tuple")) .nil)))) (.not (.bi .all (.cons (.comp [1, 2] (.call 0 (.cons (.var 2) .nil)) (.nm 2) (.var 0) .nil) .nil)))) (.cons (.ret (.con (.bl false)))
    .nil) .nil)
    (.cons (.ret (.bi .all (.cons (.comp [1, 2, 3] (.cmp .GtE (.var 2) (.var 3)) (.tp (.cons (.nm 2) (.cons (.nm 3) .nil))) (.zip (.var 0) (.cut (.var 0) (.some (.con (.int 1))) .none)) .nil) .nil)))
    .nil))
def f_is_bunch : Fd := ⟨"is_bunch", top 7, ["thing", ".0", "light", "dimmer"], ["thing"], [], b_is_bunch, true⟩ -- 1
def b_dark_ones : Ss := (.cons (.set 1 (.con (.int 1)))
    (.cons (.for_ (.nm 2) (.rng (.var 0)) (.cons (.aug .Mult 1 (.con (.int 2)))
    .nil))
    (.cons (.ret (.var 1))
    .nil)))
def f_dark_ones : Fd := ⟨"dark_ones", top 8, ["light", "glow", "lesser"], ["light"], [], b_dark_ones, true⟩ -- 2
def b_glow_of : Ss := (.cons (.ret (.bi .sum (.cons (.comp [1, 2] (.call 2 (.cons (.var 2) .nil)) (.nm 2) (.var 0) .nil) .nil)))
    .nil)
def f_glow_of : Fd := ⟨"glow_of", top 9, ["lights", ".0", "light"], ["lights"], [], b_glow_of, true⟩ -- 3
def b_as_bunch : Ss := (.cons (.ret (.bi .tuple (.cons (.srtR (.var 0)) .nil)))
    .nil)
def f_as_bunch : Fd := ⟨"as_bunch", top 11, ["lights"], ["lights"], [], b_as_bunch, true⟩ -- 4
def b_bunch_without : Ss := (.cons (.set 2 (.new (.bi .list (.cons (.var 0) .nil))))
    (.cons (.for_ (.nm 3) (.var 1) (.cons (.ite (.cmp .NotIn (.var 3) (.var 2)) (.cons (.ret (.con .non))
    .nil) .nil)
    (.cons (.drop (.mt .remove (.var 2) (.cons (.var 3) .nil)))
    .nil)))
    (.cons (.ret (.bi .tuple (.cons (.var 2) .nil)))
    .nil)))
def f_bunch_without : Fd := ⟨"bunch_without", top 12, ["lights", "gone", "left", "light"], ["lights", "gone"], [2], b_bunch_without, true⟩ -- 5
def b_agreed_picks : Ss := (.cons (.ite (.cmp .Eq (.var 1) (.con (.int 0))) (.cons (.ret (.lst (.cons (.tup .nil) .nil)))
    .nil) .nil)
    (.cons (.set 2 (.new (.lst .nil)))
    (.cons (.for_ (.tp (.cons (.nm 3) (.cons (.nm 4) .nil))) (.enum (.var 0)) (.cons (.ite (.or (.cmp .Eq (.var 3) (.con (.int 0))) (.cmp .NotEq (.sub (.var 0) (.bin .Sub (.var 3) (.con (.int 1)))) (.var 4))) (.cons (.drop (.mt .extend (.var 2) (.cons (.comp [5, 6] (.bin .Add (.tup (.cons (.var 4) .nil)) (.var 6)) (.nm 6) (.call 6 (.cons (.cut (.var 0) (.some (.bin .Add (.var 3) (.con (.int 1)))) .none) (.cons (.bin .Sub (.var 1) (.con (.int 1))) .nil))) .nil) .nil)))
    .nil) .nil)
    .nil))
    (.cons (.ret (.var 2))
    .nil))))
def f_agreed_picks : Fd := ⟨"agreed_picks", top 13, ["lights", "many", "found", "place", "light", ".0", "rest"], ["lights", "many"], [2], b_agreed_picks, true⟩ -- 6
def b_bunch_deeds : Ss := (.cons (.set 3 (.new (.comp [5, 6] (.tup (.cons (.con (.str "agree")) (.cons (.var 6) .nil))) (.nm 6) (.call 6 (.cons (.var 0) (.cons (.var 1) .nil))) .nil)))
    (.cons (.for_ (.nm 4) (.srtc [5, 4] (.var 4) (.nm 4) (.var 0) (.cons (.cmp .Gt (.var 4) (.con (.int 0))) .nil)) (.cons (.drop (.mt .extend (.var 3) (.cons (.lst (.cons (.tup (.cons (.con (.str "copy")) (.cons (.var 4) .nil))) (.cons (.tup (.cons (.con (.str "make")) (.cons (.var 4) .nil))) .nil))) .nil)))
    .nil))
    (.cons (.ret (.bi .tuple (.cons (.bi .sorted (.cons (.var 3) .nil)) .nil)))
    .nil)))
def f_bunch_deeds : Fd := ⟨"bunch_deeds", top 14, ["lights", "many", "bright", "found", "light", ".0", "some"], ["lights", "many", "bright"], [3], b_bunch_deeds, false⟩ -- 7
def b_bunch_done : Ss := (.cons (.unp (.tp (.cons (.nm 4) (.cons (.nm 5) .nil))) (.var 1))
    (.cons (.ite (.cmp .Eq (.var 4) (.con (.str "agree"))) (.cons (.set 6 (.ite (.and (.call 1 (.cons (.var 5) .nil)) (.cmp .Eq (.bi .len (.cons (.var 5) .nil)) (.var 2))) (.call 5 (.cons (.var 0) (.cons (.var 5) .nil))) (.con .non)))
    (.cons (.ret (.ite (.cmp .Is (.var 6) (.con .non)) (.con .non) (.call 4 (.cons (.bin .Add (.var 6) (.tup (.cons (.var 3) .nil))) .nil))))
    .nil)) .nil)
    (.cons (.ite (.or (.cmp .Eq (.var 5) (.con (.int 0))) (.cmp .NotIn (.var 5) (.var 0))) (.cons (.ret (.con .non))
    .nil) .nil)
    (.cons (.set 6 (.call 5 (.cons (.var 0) (.cons (.tup (.cons (.var 5) .nil)) .nil))))
    (.cons (.ret (.call 4 (.cons (.bin .Add (.var 6) (.bin .Mult (.tup (.cons (.bin .Sub (.var 5) (.con (.int 1))) .nil)) (.ite (.cmp .Eq (.var 4) (.con (.str "copy"))) (.con (.int 2)) (.con (.int 1))))) .nil)))
    .nil)))))
def f_bunch_done : Fd := ⟨"bunch_done", top 15, ["lights", "deed", "many", "bright", "act", "what", "left"], ["lights", "deed", "many", "bright"], [], b_bunch_done, false⟩ -- 8
-- NOT SERVED bunch_run: [raise]
def b_bunch_run : Ss := (.cons (.set 4 (.new (.lst (.cons (.var 0) .nil))))
    (.cons (.for_ (.tp (.cons (.nm 5) (.cons (.nm 6) .nil))) (.enum (.var 1)) (.cons (.set 7 (.callk 8 4 (.cons (.sub (.var 4) (.neg (.con (.int 1)))) (.cons (.var 6) .nil)) [2, 3] (.cons (.var 2) (.cons (.var 3) .nil)) []))
    (.cons (.ite (.cmp .Is (.var 7) (.con .non)) (.cons .nev
    .nil) .nil)
    (.cons (.app 4 (.var 7))
    .nil))))
    (.cons (.ret (.bi .tuple (.cons (.var 4) .nil)))
    .nil)))
def f_bunch_run : Fd := ⟨"bunch_run", top 16, ["lights", "row", "many", "bright", "found", "place", "deed", "later"], ["lights", "row", "many", "bright"], [4], b_bunch_run, false⟩ -- 9
def b_copied_out : Ss := (.cons (.par [1, 2] (.cons (.new (.lst .nil)) (.cons (.call 4 (.cons (.var 0) .nil)) .nil)))
    (.cons (.while_ (.and (.cmp .NotEq (.var 2) (.tup .nil)) (.cmp .Gt (.sub (.var 2) (.con (.int 0))) (.con (.int 0)))) (.cons (.unpS (.cons (.nm 3) (.cons (.nm 4) .nil)) (.var 2))
    (.cons (.app 1 (.tup (.cons (.con (.str "copy")) (.cons (.var 3) .nil))))
    (.cons (.set 2 (.call 4 (.cons (.bin .Add (.var 4) (.lst (.cons (.bin .Sub (.var 3) (.con (.int 1))) (.cons (.bin .Sub (.var 3) (.con (.int 1))) .nil)))) .nil)))
    .nil))))
    (.cons (.ret (.bi .tuple (.cons (.var 1) .nil)))
    .nil)))
def f_copied_out : Fd := ⟨"copied_out", top 17, ["lights", "row", "left", "light", "rest"], ["lights"], [1], b_copied_out, true⟩ -- 10
def b__law_feed : Ss := (.cons (.ret (.dict ["cells", "at", "left", "count"] (.cons (.bi .list (.cons (.cut (.var 0) .none (.some (.con (.int 63)))) .nil)) (.cons (.con (.int 0)) (.cons (.con (.int 0)) (.cons (.con (.int 0)) .nil))))))
    .nil)
def f__law_feed : Fd := ⟨"_law_feed", top 19, ["_law_script"], ["_law_script"], [], b__law_feed, true⟩ -- 11
def b__law_draw : Ss := (.cons (.put (.var 0) (.con (.str "count")) (.bin .Add (.sub (.var 0) (.con (.str "count"))) (.con (.int 1))))
    (.cons (.ite (.cmp .Gt (.sub (.var 0) (.con (.str "left"))) (.con (.int 0))) (.cons (.set 2 (.bin .Mod (.sub (.var 0) (.con (.str "left"))) (.var 1)))
    (.cons (.put (.var 0) (.con (.str "left")) (.bin .FloorDiv (.sub (.var 0) (.con (.str "left"))) (.var 1)))
    (.cons (.ret (.var 2))
    .nil))) .nil)
    (.cons (.set 3 (.sub (.var 0) (.con (.str "at"))))
    (.cons (.put (.var 0) (.con (.str "at")) (.bin .Add (.var 3) (.con (.int 1))))
    (.cons (.set 4 (.ite (.cmp .NotEq (.sub (.var 0) (.con (.str "cells"))) (.lst .nil)) (.sub (.sub (.var 0) (.con (.str "cells"))) (.bin .Mod (.var 3) (.bi .len (.cons (.sub (.var 0) (.con (.str "cells"))) .nil)))) (.con (.int 23))))
    (.cons (.ite (.and (.cmp .GtE (.var 4) (.bin .Pow (.con (.int 10)) (.con (.int 18)))) (.cmp .Lt (.var 3) (.bi .len (.cons (.sub (.var 0) (.con (.str "cells"))) .nil)))) (.cons (.put (.var 0) (.con (.str "left")) (.bin .FloorDiv (.var 4) (.var 1)))
    (.cons (.ret (.bin .Mod (.var 4) (.var 1)))
    .nil)) .nil)
    (.cons (.set 5 (.bin .Mod (.bin .Add (.bin .Add (.bin .Mod (.var 4) (.con (.int 1000003643))) (.bin .Mult (.con (.int 65065)) (.sub (.var 0) (.con (.str "count"))))) (.con (.int 67))) (.con (.int 2147483579))))
    (.cons (.set 5 (.bin .Mod (.bin .Add (.bin .Add (.bin .Mult (.var 5) (.var 5)) (.bin .Mult (.con (.int 7088847)) (.sub (.var 0) (.con (.str "count"))))) (.con (.int 37))) (.con (.int 2147483549))))
    (.cons (.ret (.bin .Mod (.bin .FloorDiv (.bin .Mod (.bin .Add (.bin .Mult (.var 5) (.var 5)) (.bin .Mult (.con (.int 49)) (.var 5))) (.con (.int 2147483543))) (.con (.int 16))) (.var 1)))
    .nil)))))))))
def f__law_draw : Fd := ⟨"_law_draw", top 20, ["_law_feed_here", "_law_lot", "_law_figure", "_law_at", "_law_cell", "_law_mixed"], ["_law_feed_here", "_law_lot"], [], b__law_draw, true⟩ -- 12
def b__law_falling : Ss := (.cons (.ret (.bi .tuple (.cons (.rev (.bi .sorted (.cons (.var 0) .nil))) .nil)))
    .nil)
def f__law_falling : Fd := ⟨"_law_falling", top 21, ["_law_lamps"], ["_law_lamps"], [], b__law_falling, true⟩ -- 13
def b__law_power : Ss := (.cons (.ret (.sub (.lst (.cons (.con (.int 1)) (.cons (.con (.int 2)) (.cons (.con (.int 4)) (.cons (.con (.int 8)) .nil))))) (.var 0)))
    .nil)
def f__law_power : Fd := ⟨"_law_power", top 22, ["_law_light"], ["_law_light"], [], b__law_power, true⟩ -- 14
def b__law_lights : Ss := (.cons (.ret (.call 13 (.cons (.comp [3, 4] (.call 12 (.cons (.var 0) (.cons (.bin .Add (.var 1) (.con (.int 1))) .nil))) (.nm 4) (.rng (.call 12 (.cons (.var 0) (.cons (.bin .Add (.var 2) (.con (.int 1))) .nil)))) .nil) .nil)))
    .nil)
def f__law_lights : Fd := ⟨"_law_lights", top 23, ["_law_feed_here", "_law_glare", "_law_most", ".0", "_law_k"], ["_law_feed_here", "_law_glare", "_law_most"], [], b__law_lights, true⟩ -- 15
def b__law_glow_of : Ss := (.cons (.ite (.cmp .Eq (.sub (.var 1) (.con (.int 0))) (.con (.str "copy"))) (.cons (.ret (.var 0))
    .nil) .nil)
    (.cons (.ite (.cmp .Eq (.sub (.var 1) (.con (.int 0))) (.con (.str "make"))) (.cons (.ret (.bin .Sub (.var 0) (.call 14 (.cons (.bin .Sub (.sub (.var 1) (.con (.int 1))) (.con (.int 1))) .nil))))
    .nil) .nil)
    (.cons (.ret (.bin .Add (.bin .Sub (.var 0) (.bi .sum (.cons (.comp [3, 4] (.call 14 (.cons (.var 4) .nil)) (.nm 4) (.sub (.var 1) (.con (.int 1))) .nil) .nil))) (.call 14 (.cons (.var 2) .nil))))
    .nil)))
def f__law_glow_of : Fd := ⟨"_law_glow_of", top 24, ["_law_before", "_law_deed", "_law_glare", ".0", "_law_light"], ["_law_before", "_law_deed", "_law_glare"], [], b__law_glow_of, true⟩ -- 16
def b__law_is_out : Ss := (.cons (.ite (.or (.cmp .NotEq (.comp [5, 6] (.var 6) (.nm 6) (.var 1) (.cons (.cmp .NotEq (.sub (.var 6) (.con (.int 0))) (.con (.str "copy"))) .nil)) (.lst .nil)) (.cmp .NotEq (.bi .len (.cons (.var 1) .nil)) (.bin .Sub (.call 3 (.cons (.var 0) .nil)) (.bi .len (.cons (.var 0) .nil))))) (.cons (.ret (.con (.bl false)))
    .nil) .nil)
    (.cons (.set 4 (.sub (.callk 9 4 (.cons (.var 0) (.cons (.var 1) .nil)) [2, 3] (.cons (.var 2) (.cons (.var 3) .nil)) []) (.neg (.con (.int 1)))))
    (.cons (.ret (.cmp .Eq (.var 4) (.bin .Mult (.tup (.cons (.con (.int 0)) .nil)) (.call 3 (.cons (.var 0) .nil)))))
    .nil)))
def f__law_is_out : Fd := ⟨"_law_is_out", top 25, ["_law_lamps", "_law_row", "_law_lot", "_law_glare", "_law_last", ".0", "_law_deed"], ["_law_lamps", "_law_row", "_law_lot", "_law_glare"], [], b__law_is_out, true⟩ -- 17
def b_law : Ss := (.cons (.set 1 (.call 11 (.cons (.var 0) .nil)))
    (.cons (.for_ (.nm 2) (.rng (.con (.int 5))) (.cons (.par [3, 4] (.cons (.bin .Add (.con (.int 2)) (.call 12 (.cons (.var 1) (.cons (.con (.int 3)) .nil)))) (.cons (.bin .Add (.con (.int 1)) (.call 12 (.cons (.var 1) (.cons (.con (.int 3)) .nil)))) .nil)))
    (.cons (.set 5 (.call 15 (.cons (.var 1) (.cons (.var 4) (.cons (.con (.int 5)) .nil)))))
    (.cons (.ite (.not (.call 17 (.cons (.var 5) (.cons (.call 10 (.cons (.var 5) .nil)) (.cons (.var 3) (.cons (.var 4) .nil)))))) (.cons (.ret (.con (.bl false)))
    .nil) .nil)
    (.cons (.ite (.not (.call 17 (.cons (.var 5) (.cons (.callk 10 1 .nil [0] (.cons (.var 5) .nil) []) (.cons (.var 3) (.cons (.var 4) .nil)))))) (.cons (.ret (.con (.bl false)))
    .nil) .nil)
    (.cons (.par [6, 7] (.cons (.new (.lst .nil)) (.cons (.var 5) .nil)))
    (.cons (.while_ (.and (.cmp .NotEq (.var 7) (.tup .nil)) (.cmp .Gt (.sub (.var 7) (.con (.int 0))) (.con (.int 0)))) (.cons (.set 9 (.comp [12, 8] (.var 8) (.nm 8) (.callk 7 3 (.cons (.var 7) .nil) [1, 2] (.cons (.var 3) (.cons (.var 4) .nil)) []) (.cons (.cmp .Eq (.sub (.var 8) (.con (.int 0))) (.con (.str "copy"))) .nil)))
    (.cons (.app 6 (.sub (.var 9) (.call 12 (.cons (.var 1) (.cons (.bi .len (.cons (.var 9) .nil)) .nil)))))
    (.cons (.set 7 (.callk 8 4 (.cons (.var 7) (.cons (.sub (.var 6) (.neg (.con (.int 1)))) .nil)) [2, 3] (.cons (.var 3) (.cons (.var 4) .nil)) []))
    (.cons (.ite (.cmp .NotEq (.call 3 (.cons (.var 7) .nil)) (.call 3 (.cons (.var 5) .nil))) (.cons (.ret (.con (.bl false)))
    .nil) .nil)
    .nil)))))
    (.cons (.ite (.not (.call 17 (.cons (.var 5) (.cons (.bi .tuple (.cons (.var 6) .nil)) (.cons (.var 3) (.cons (.var 4) .nil)))))) (.cons (.ret (.con (.bl false)))
    .nil) .nil)
    (.cons (.for_ (.nm 10) (.rng (.con (.int 5))) (.cons (.set 9 (.callk 7 3 (.cons (.var 5) .nil) [1, 2] (.cons (.var 3) (.cons (.var 4) .nil)) []))
    (.cons (.ite (.and (.cmp .NotEq (.var 9) (.tup .nil)) (.cmp .Lt (.bi .len (.cons (.var 5) .nil)) (.con (.int 6)))) (.cons (.set 8 (.sub (.var 9) (.call 12 (.cons (.var 1) (.cons (.bi .len (.cons (.var 9) .nil)) .nil)))))
    (.cons (.set 11 (.callk 8 4 (.cons (.var 5) (.cons (.var 8) .nil)) [2, 3] (.cons (.var 3) (.cons (.var 4) .nil)) []))
    (.cons (.ite (.cmp .NotEq (.call 3 (.cons (.var 11) .nil)) (.call 16 (.cons (.call 3 (.cons (.var 5) .nil)) (.cons (.var 8) (.cons (.var 4) .nil))))) (.cons (.ret (.con (.bl false)))
    .nil) .nil)
    (.cons (.set 5 (.var 11))
    .nil)))) .nil)
    .nil)))
    (.cons (.ite (.and (.cmp .Lt (.bi .len (.cons (.var 5) .nil)) (.con (.int 6))) (.not (.call 17 (.cons (.var 5) (.cons (.call 10 (.cons (.var 5) .nil)) (.cons (.var 3) (.cons (.var 4) .nil))))))) (.cons (.ret (.con (.bl false)))
    .nil) .nil)
    .nil))))))))))
    (.cons (.ret (.con (.bl true)))
    .nil)))
def f_law : Fd := ⟨"law", top 26, ["_law_script", "_law_feed_here", "_law_lap", "_law_lot", "_law_glare", "_law_here", "_law_row", "_law_on", "_law_deed", "_law_some", "_law_k", "_law_later", ".0"], ["_law_script"], [6], b_law, true⟩ -- 18
def defs : List Fd := [f_is_number, f_is_bunch, f_dark_ones, f_glow_of, f_as_bunch, f_bunch_without, f_agreed_picks, f_bunch_deeds, f_bunch_done, f_bunch_run, f_copied_out, f__law_feed, f__law_draw, f__law_falling, f__law_power, f__law_lights, f__law_glow_of, f__law_is_out, f_law]
def blts : List Str := ["isinstance", "int", "bool", "tuple", "all", "zip", "range", "sum", "sorted", "list", "enumerate", "len"]
def shps : List Shp := [⟨8, 4, 2, ["many", "bright"], [2, 3], []⟩, ⟨9, 4, 2, ["many", "bright"], [2, 3], []⟩, ⟨10, 1, 0, ["lights"], [0], []⟩, ⟨7, 3, 1, ["many", "bright"], [1, 2], []⟩]
def gcons : List (Str × D) := []
end K34
set_option maxHeartbeats 0
namespace K34
open PySem PySem.Spec PyProof.Rows L2 Z
abbrev KK : Nat := 20
theorem code_all : ∀ f ∈ defs, FnScope f.N f.ps (defScope f.st) ∧ ∃ r, trBody (gmOf defs blts shps gcons f) (defBody f.st) = some r ∧ r.b = f.b := by
  intro f hf
  unfold defs at hf
  rcases List.mem_cons.mp hf with rfl | hf
  · exact ⟨⟨rfl, rfl, rfl, by decide +kernel, rfl, by decide +kernel, by decide +kernel⟩, code_is (by kernel_rfl)⟩
  rcases List.mem_cons.mp hf with rfl | hf
  · exact ⟨⟨rfl, rfl, rfl, by decide +kernel, rfl, by decide +kernel, by decide +kernel⟩, code_is (by kernel_rfl)⟩
  rcases List.mem_cons.mp hf with rfl | hf
  · exact ⟨⟨rfl, rfl, rfl, by decide +kernel, rfl, by decide +kernel, by decide +kernel⟩, code_is (by kernel_rfl)⟩
  rcases List.mem_cons.mp hf with rfl | hf
  · exact ⟨⟨rfl, rfl, rfl, by decide +kernel, rfl, by decide +kernel, by decide +kernel⟩, code_is (by kernel_rfl)⟩
  rcases List.mem_cons.mp hf with rfl | hf
  · exact ⟨⟨rfl, rfl, rfl, by decide +kernel, rfl, by decide +kernel, by decide +kernel⟩, code_is (by kernel_rfl)⟩
  rcases List.mem_cons.mp hf with rfl | hf
  · exact ⟨⟨rfl, rfl, rfl, by decide +kernel, rfl, by decide +kernel, by decide +kernel⟩, code_is (by kernel_rfl)⟩
  rcases List.mem_cons.mp hf with rfl | hf
  · exact ⟨⟨rfl, rfl, rfl, by decide +kernel, rfl, by decide +kernel, by decide +kernel⟩, code_is (by kernel_rfl)⟩
  rcases List.mem_cons.mp hf with rfl | hf
  · exact ⟨⟨rfl, rfl, rfl, by decide +kernel, rfl, by decide +kernel, by decide +kernel⟩, code_is (by kernel_rfl)⟩
  rcases List.mem_cons.mp hf with rfl | hf
  · exact ⟨⟨rfl, rfl, rfl, by decide +kernel, rfl, by decide +kernel, by decide +kernel⟩, code_is (by kernel_rfl)⟩
  rcases List.mem_cons.mp hf with rfl | hf
  · exact ⟨⟨rfl, rfl, rfl, by decide +kernel, rfl, by decide +kernel, by decide +kernel⟩, code_is (by kernel_rfl)⟩
  rcases List.mem_cons.mp hf with rfl | hf
  · exact ⟨⟨rfl, rfl, rfl, by decide +kernel, rfl, by decide +kernel, by decide +kernel⟩, code_is (by kernel_rfl)⟩
  rcases List.mem_cons.mp hf with rfl | hf
  · exact ⟨⟨rfl, rfl, rfl, by decide +kernel, rfl, by decide +kernel, by decide +kernel⟩, code_is (by kernel_rfl)⟩
  rcases List.mem_cons.mp hf with rfl | hf
  · exact ⟨⟨rfl, rfl, rfl, by decide +kernel, rfl, by decide +kernel, by decide +kernel⟩, code_is (by kernel_rfl)⟩
  rcases List.mem_cons.mp hf with rfl | hf
  · exact ⟨⟨rfl, rfl, rfl, by decide +kernel, rfl, by decide +kernel, by decide +kernel⟩, code_is (by kernel_rfl)⟩
  rcases List.mem_cons.mp hf with rfl | hf
  · exact ⟨⟨rfl, rfl, rfl, by decide +kernel, rfl, by decide +kernel, by decide +kernel⟩, code_is (by kernel_rfl)⟩
  rcases List.mem_cons.mp hf with rfl | hf
  · exact ⟨⟨rfl, rfl, rfl, by decide +kernel, rfl, by decide +kernel, by decide +kernel⟩, code_is (by kernel_rfl)⟩
  rcases List.mem_cons.mp hf with rfl | hf
  · exact ⟨⟨rfl, rfl, rfl, by decide +kernel, rfl, by decide +kernel, by decide +kernel⟩, code_is (by kernel_rfl)⟩
  rcases List.mem_cons.mp hf with rfl | hf
  · exact ⟨⟨rfl, rfl, rfl, by decide +kernel, rfl, by decide +kernel, by decide +kernel⟩, code_is (by kernel_rfl)⟩
  rcases List.mem_cons.mp hf with rfl | hf
  · exact ⟨⟨rfl, rfl, rfl, by decide +kernel, rfl, by decide +kernel, by decide +kernel⟩, code_is (by kernel_rfl)⟩
  cases hf
section
variable {K : PySem.W.Frag} {mg : Str → Option Value}
theorem at_is_number {a : Addr} {oc : Value} {od an : Option Addr} {osl : Array (Option Value)} {kV : Value} {doc pm cdv ct : Value} (g : mg "is_number" = some (.ref a)) (l : K.lookup a = some ⟨oc, od, .func (PySem.W.fnOf "is_number" "is_number" (defArgs (top 5)) (defBody (top 5)) (defScope (top 5)) .none kV doc pm an cdv ct), osl⟩) (c : PySem.W.codeIn K cdv "is_number" = true) (k : PySem.W.keepIn K (.ref a) = true)  {B : Bs} (eB : B.K = K) : Stands B mg shps 0 f_is_number a := by
  subst eB
  have F := fun_mk (st := top 5) l c k
  refine ⟨g, k, _, F, fun _ => F.binds fun _ _ _ _ _ _ us hl => (match us, hl with | [_], _ => rfl), fun s hs h1 => ?_⟩
  unfold shps at hs
  rcases List.mem_cons.mp hs with rfl | hs
  · exact absurd h1 (by decide)
  rcases List.mem_cons.mp hs with rfl | hs
  · exact absurd h1 (by decide)
  rcases List.mem_cons.mp hs with rfl | hs
  · exact absurd h1 (by decide)
  rcases List.mem_cons.mp hs with rfl | hs
  · exact absurd h1 (by decide)
  cases hs
theorem at_is_bunch {a : Addr} {oc : Value} {od an : Option Addr} {osl : Array (Option Value)} {kV : Value} {doc pm cdv ct : Value} (g : mg "is_bunch" = some (.ref a)) (l : K.lookup a = some ⟨oc, od, .func (PySem.W.fnOf "is_bunch" "is_bunch" (defArgs (top 7)) (defBody (top 7)) (defScope (top 7)) .none kV doc pm an cdv ct), osl⟩) (c : PySem.W.codeIn K cdv "is_bunch" = true) (k : PySem.W.keepIn K (.ref a) = true)  {B : Bs} (eB : B.K = K) : Stands B mg shps 1 f_is_bunch a := by
  subst eB
  have F := fun_mk (st := top 7) l c k
  refine ⟨g, k, _, F, fun _ => F.binds fun _ _ _ _ _ _ us hl => (match us, hl with | [_], _ => rfl), fun s hs h1 => ?_⟩
  unfold shps at hs
  rcases List.mem_cons.mp hs with rfl | hs
  · exact absurd h1 (by decide)
  rcases List.mem_cons.mp hs with rfl | hs
  · exact absurd h1 (by decide)
  rcases List.mem_cons.mp hs with rfl | hs
  · exact absurd h1 (by decide)
  rcases List.mem_cons.mp hs with rfl | hs
  · exact absurd h1 (by decide)
  cases hs
theorem at_dark_ones {a : Addr} {oc : Value} {od an : Option Addr} {osl : Array (Option Value)} {kV : Value} {doc pm cdv ct : Value} (g : mg "dark_ones" = some (.ref a)) (l : K.lookup a = some ⟨oc, od, .func (PySem.W.fnOf "dark_ones" "dark_ones" (defArgs (top 8)) (defBody (top 8)) (defScope (top 8)) .none kV doc pm an cdv ct), osl⟩) (c : PySem.W.codeIn K cdv "dark_ones" = true) (k : PySem.W.keepIn K (.ref a) = true)  {B : Bs} (eB : B.K = K) : Stands B mg shps 2 f_dark_ones a := by
  subst eB
  have F := fun_mk (st := top 8) l c k
  refine ⟨g, k, _, F, fun _ => F.binds fun _ _ _ _ _ _ us hl => (match us, hl with | [_], _ => rfl), fun s hs h1 => ?_⟩
  unfold shps at hs
  rcases List.mem_cons.mp hs with rfl | hs
  · exact absurd h1 (by decide)
  rcases List.mem_cons.mp hs with rfl | hs
  · exact absurd h1 (by decide)
  rcases List.mem_cons.mp hs with rfl | hs
  · exact absurd h1 (by decide)
  rcases List.mem_cons.mp hs with rfl | hs
  · exact absurd h1 (by decide)
  cases hs
theorem at_glow_of {a : Addr} {oc : Value} {od an : Option Addr} {osl : Array (Option Value)} {kV : Value} {doc pm cdv ct : Value} (g : mg "glow_of" = some (.ref a)) (l : K.lookup a = some ⟨oc, od, .func (PySem.W.fnOf "glow_of" "glow_of" (defArgs (top 9)) (defBody (top 9)) (defScope (top 9)) .none kV doc pm an cdv ct), osl⟩) (c : PySem.W.codeIn K cdv "glow_of" = true) (k : PySem.W.keepIn K (.ref a) = true)  {B : Bs} (eB : B.K = K) : Stands B mg shps 3 f_glow_of a := by
  subst eB
  have F := fun_mk (st := top 9) l c k
  refine ⟨g, k, _, F, fun _ => F.binds fun _ _ _ _ _ _ us hl => (match us, hl with | [_], _ => rfl), fun s hs h1 => ?_⟩
  unfold shps at hs
  rcases List.mem_cons.mp hs with rfl | hs
  · exact absurd h1 (by decide)
  rcases List.mem_cons.mp hs with rfl | hs
  · exact absurd h1 (by decide)
  rcases List.mem_cons.mp hs with rfl | hs
  · exact absurd h1 (by decide)
  rcases List.mem_cons.mp hs with rfl | hs
  · exact absurd h1 (by decide)
  cases hs
theorem at_as_bunch {a : Addr} {oc : Value} {od an : Option Addr} {osl : Array (Option Value)} {kV : Value} {doc pm cdv ct : Value} (g : mg "as_bunch" = some (.ref a)) (l : K.lookup a = some ⟨oc, od, .func (PySem.W.fnOf "as_bunch" "as_bunch" (defArgs (top 11)) (defBody (top 11)) (defScope (top 11)) .none kV doc pm an cdv ct), osl⟩) (c : PySem.W.codeIn K cdv "as_bunch" = true) (k : PySem.W.keepIn K (.ref a) = true)  {B : Bs} (eB : B.K = K) : Stands B mg shps 4 f_as_bunch a := by
  subst eB
  have F := fun_mk (st := top 11) l c k
  refine ⟨g, k, _, F, fun _ => F.binds fun _ _ _ _ _ _ us hl => (match us, hl with | [_], _ => rfl), fun s hs h1 => ?_⟩
  unfold shps at hs
  rcases List.mem_cons.mp hs with rfl | hs
  · exact absurd h1 (by decide)
  rcases List.mem_cons.mp hs with rfl | hs
  · exact absurd h1 (by decide)
  rcases List.mem_cons.mp hs with rfl | hs
  · exact absurd h1 (by decide)
  rcases List.mem_cons.mp hs with rfl | hs
  · exact absurd h1 (by decide)
  cases hs
theorem at_bunch_without {a : Addr} {oc : Value} {od an : Option Addr} {osl : Array (Option Value)} {kV : Value} {doc pm cdv ct : Value} (g : mg "bunch_without" = some (.ref a)) (l : K.lookup a = some ⟨oc, od, .func (PySem.W.fnOf "bunch_without" "bunch_without" (defArgs (top 12)) (defBody (top 12)) (defScope (top 12)) .none kV doc pm an cdv ct), osl⟩) (c : PySem.W.codeIn K cdv "bunch_without" = true) (k : PySem.W.keepIn K (.ref a) = true)  {B : Bs} (eB : B.K = K) : Stands B mg shps 5 f_bunch_without a := by
  subst eB
  have F := fun_mk (st := top 12) l c k
  refine ⟨g, k, _, F, fun _ => F.binds fun _ _ _ _ _ _ us hl => (match us, hl with | [_, _], _ => rfl), fun s hs h1 => ?_⟩
  unfold shps at hs
  rcases List.mem_cons.mp hs with rfl | hs
  · exact absurd h1 (by decide)
  rcases List.mem_cons.mp hs with rfl | hs
  · exact absurd h1 (by decide)
  rcases List.mem_cons.mp hs with rfl | hs
  · exact absurd h1 (by decide)
  rcases List.mem_cons.mp hs with rfl | hs
  · exact absurd h1 (by decide)
  cases hs
theorem at_agreed_picks {a : Addr} {oc : Value} {od an : Option Addr} {osl : Array (Option Value)} {kV : Value} {doc pm cdv ct : Value} (g : mg "agreed_picks" = some (.ref a)) (l : K.lookup a = some ⟨oc, od, .func (PySem.W.fnOf "agreed_picks" "agreed_picks" (defArgs (top 13)) (defBody (top 13)) (defScope (top 13)) .none kV doc pm an cdv ct), osl⟩) (c : PySem.W.codeIn K cdv "agreed_picks" = true) (k : PySem.W.keepIn K (.ref a) = true)  {B : Bs} (eB : B.K = K) : Stands B mg shps 6 f_agreed_picks a := by
  subst eB
  have F := fun_mk (st := top 13) l c k
  refine ⟨g, k, _, F, fun _ => F.binds fun _ _ _ _ _ _ us hl => (match us, hl with | [_, _], _ => rfl), fun s hs h1 => ?_⟩
  unfold shps at hs
  rcases List.mem_cons.mp hs with rfl | hs
  · exact absurd h1 (by decide)
  rcases List.mem_cons.mp hs with rfl | hs
  · exact absurd h1 (by decide)
  rcases List.mem_cons.mp hs with rfl | hs
  · exact absurd h1 (by decide)
  rcases List.mem_cons.mp hs with rfl | hs
  · exact absurd h1 (by decide)
  cases hs
theorem at_bunch_deeds {a : Addr} {oc : Value} {od an : Option Addr} {osl : Array (Option Value)} {kV : Value} {doc pm cdv ct : Value} (g : mg "bunch_deeds" = some (.ref a)) (l : K.lookup a = some ⟨oc, od, .func (PySem.W.fnOf "bunch_deeds" "bunch_deeds" (defArgs (top 14)) (defBody (top 14)) (defScope (top 14)) .none kV doc pm an cdv ct), osl⟩) (c : PySem.W.codeIn K cdv "bunch_deeds" = true) (k : PySem.W.keepIn K (.ref a) = true)  {B : Bs} (eB : B.K = K) : Stands B mg shps 7 f_bunch_deeds a := by
  subst eB
  have F := fun_mk (st := top 14) l c k
  refine ⟨g, k, _, F, fun h => Bool.noConfusion (show false = true from h), fun s hs h1 => ?_⟩
  unfold shps at hs
  rcases List.mem_cons.mp hs with rfl | hs
  · exact absurd h1 (by decide)
  rcases List.mem_cons.mp hs with rfl | hs
  · exact absurd h1 (by decide)
  rcases List.mem_cons.mp hs with rfl | hs
  · exact absurd h1 (by decide)
  rcases List.mem_cons.mp hs with rfl | hs
  · exact ⟨rfl, [], [], ⟨.nil, .nil⟩, fun st us ws _ h3 h4 => (match us, ws, h3, h4 with | [_], [_, _], _, _ => .of_eq rfl)⟩
  cases hs
theorem at_bunch_done {a : Addr} {oc : Value} {od an : Option Addr} {osl : Array (Option Value)} {kV : Value} {doc pm cdv ct : Value} (g : mg "bunch_done" = some (.ref a)) (l : K.lookup a = some ⟨oc, od, .func (PySem.W.fnOf "bunch_done" "bunch_done" (defArgs (top 15)) (defBody (top 15)) (defScope (top 15)) .none kV doc pm an cdv ct), osl⟩) (c : PySem.W.codeIn K cdv "bunch_done" = true) (k : PySem.W.keepIn K (.ref a) = true)  {B : Bs} (eB : B.K = K) : Stands B mg shps 8 f_bunch_done a := by
  subst eB
  have F := fun_mk (st := top 15) l c k
  refine ⟨g, k, _, F, fun h => Bool.noConfusion (show false = true from h), fun s hs h1 => ?_⟩
  unfold shps at hs
  rcases List.mem_cons.mp hs with rfl | hs
  · exact ⟨rfl, [], [], ⟨.nil, .nil⟩, fun st us ws _ h3 h4 => (match us, ws, h3, h4 with | [_, _], [_, _], _, _ => .of_eq rfl)⟩
  rcases List.mem_cons.mp hs with rfl | hs
  · exact absurd h1 (by decide)
  rcases List.mem_cons.mp hs with rfl | hs
  · exact absurd h1 (by decide)
  rcases List.mem_cons.mp hs with rfl | hs
  · exact absurd h1 (by decide)
  cases hs
theorem at_bunch_run {a : Addr} {oc : Value} {od an : Option Addr} {osl : Array (Option Value)} {kV : Value} {doc pm cdv ct : Value} (g : mg "bunch_run" = some (.ref a)) (l : K.lookup a = some ⟨oc, od, .func (PySem.W.fnOf "bunch_run" "bunch_run" (defArgs (top 16)) (defBody (top 16)) (defScope (top 16)) .none kV doc pm an cdv ct), osl⟩) (c : PySem.W.codeIn K cdv "bunch_run" = true) (k : PySem.W.keepIn K (.ref a) = true)  {B : Bs} (eB : B.K = K) : Stands B mg shps 9 f_bunch_run a := by
  subst eB
  have F := fun_mk (st := top 16) l c k
  refine ⟨g, k, _, F, fun h => Bool.noConfusion (show false = true from h), fun s hs h1 => ?_⟩
  unfold shps at hs
  rcases List.mem_cons.mp hs with rfl | hs
  · exact absurd h1 (by decide)
  rcases List.mem_cons.mp hs with rfl | hs
  · exact ⟨rfl, [], [], ⟨.nil, .nil⟩, fun st us ws _ h3 h4 => (match us, ws, h3, h4 with | [_, _], [_, _], _, _ => .of_eq rfl)⟩
  rcases List.mem_cons.mp hs with rfl | hs
  · exact absurd h1 (by decide)
  rcases List.mem_cons.mp hs with rfl | hs
  · exact absurd h1 (by decide)
  cases hs
theorem at_copied_out {a : Addr} {oc : Value} {od an : Option Addr} {osl : Array (Option Value)} {kV : Value} {doc pm cdv ct : Value} (g : mg "copied_out" = some (.ref a)) (l : K.lookup a = some ⟨oc, od, .func (PySem.W.fnOf "copied_out" "copied_out" (defArgs (top 17)) (defBody (top 17)) (defScope (top 17)) .none kV doc pm an cdv ct), osl⟩) (c : PySem.W.codeIn K cdv "copied_out" = true) (k : PySem.W.keepIn K (.ref a) = true)  {B : Bs} (eB : B.K = K) : Stands B mg shps 10 f_copied_out a := by
  subst eB
  have F := fun_mk (st := top 17) l c k
  refine ⟨g, k, _, F, fun _ => F.binds fun _ _ _ _ _ _ us hl => (match us, hl with | [_], _ => rfl), fun s hs h1 => ?_⟩
  unfold shps at hs
  rcases List.mem_cons.mp hs with rfl | hs
  · exact absurd h1 (by decide)
  rcases List.mem_cons.mp hs with rfl | hs
  · exact absurd h1 (by decide)
  rcases List.mem_cons.mp hs with rfl | hs
  · exact ⟨rfl, [], [], ⟨.nil, .nil⟩, fun st us ws _ h3 h4 => (match us, ws, h3, h4 with | [], [_], _, _ => .of_eq rfl)⟩
  rcases List.mem_cons.mp hs with rfl | hs
  · exact absurd h1 (by decide)
  cases hs
theorem at__law_feed {a : Addr} {oc : Value} {od an : Option Addr} {osl : Array (Option Value)} {kV : Value} {doc pm cdv ct : Value} (g : mg "_law_feed" = some (.ref a)) (l : K.lookup a = some ⟨oc, od, .func (PySem.W.fnOf "_law_feed" "_law_feed" (defArgs (top 19)) (defBody (top 19)) (defScope (top 19)) .none kV doc pm an cdv ct), osl⟩) (c : PySem.W.codeIn K cdv "_law_feed" = true) (k : PySem.W.keepIn K (.ref a) = true)  {B : Bs} (eB : B.K = K) : Stands B mg shps 11 f__law_feed a := by
  subst eB
  have F := fun_mk (st := top 19) l c k
  refine ⟨g, k, _, F, fun _ => F.binds fun _ _ _ _ _ _ us hl => (match us, hl with | [_], _ => rfl), fun s hs h1 => ?_⟩
  unfold shps at hs
  rcases List.mem_cons.mp hs with rfl | hs
  · exact absurd h1 (by decide)
  rcases List.mem_cons.mp hs with rfl | hs
  · exact absurd h1 (by decide)
  rcases List.mem_cons.mp hs with rfl | hs
  · exact absurd h1 (by decide)
  rcases List.mem_cons.mp hs with rfl | hs
  · exact absurd h1 (by decide)
  cases hs
theorem at__law_draw {a : Addr} {oc : Value} {od an : Option Addr} {osl : Array (Option Value)} {kV : Value} {doc pm cdv ct : Value} (g : mg "_law_draw" = some (.ref a)) (l : K.lookup a = some ⟨oc, od, .func (PySem.W.fnOf "_law_draw" "_law_draw" (defArgs (top 20)) (defBody (top 20)) (defScope (top 20)) .none kV doc pm an cdv ct), osl⟩) (c : PySem.W.codeIn K cdv "_law_draw" = true) (k : PySem.W.keepIn K (.ref a) = true)  {B : Bs} (eB : B.K = K) : Stands B mg shps 12 f__law_draw a := by
  subst eB
  have F := fun_mk (st := top 20) l c k
  refine ⟨g, k, _, F, fun _ => F.binds fun _ _ _ _ _ _ us hl => (match us, hl with | [_, _], _ => rfl), fun s hs h1 => ?_⟩
  unfold shps at hs
  rcases List.mem_cons.mp hs with rfl | hs
  · exact absurd h1 (by decide)
  rcases List.mem_cons.mp hs with rfl | hs
  · exact absurd h1 (by decide)
  rcases List.mem_cons.mp hs with rfl | hs
  · exact absurd h1 (by decide)
  rcases List.mem_cons.mp hs with rfl | hs
  · exact absurd h1 (by decide)
  cases hs
theorem at__law_falling {a : Addr} {oc : Value} {od an : Option Addr} {osl : Array (Option Value)} {kV : Value} {doc pm cdv ct : Value} (g : mg "_law_falling" = some (.ref a)) (l : K.lookup a = some ⟨oc, od, .func (PySem.W.fnOf "_law_falling" "_law_falling" (defArgs (top 21)) (defBody (top 21)) (defScope (top 21)) .none kV doc pm an cdv ct), osl⟩) (c : PySem.W.codeIn K cdv "_law_falling" = true) (k : PySem.W.keepIn K (.ref a) = true)  {B : Bs} (eB : B.K = K) : Stands B mg shps 13 f__law_falling a := by
  subst eB
  have F := fun_mk (st := top 21) l c k
  refine ⟨g, k, _, F, fun _ => F.binds fun _ _ _ _ _ _ us hl => (match us, hl with | [_], _ => rfl), fun s hs h1 => ?_⟩
  unfold shps at hs
  rcases List.mem_cons.mp hs with rfl | hs
  · exact absurd h1 (by decide)
  rcases List.mem_cons.mp hs with rfl | hs
  · exact absurd h1 (by decide)
  rcases List.mem_cons.mp hs with rfl | hs
  · exact absurd h1 (by decide)
  rcases List.mem_cons.mp hs with rfl | hs
  · exact absurd h1 (by decide)
  cases hs
theorem at__law_power {a : Addr} {oc : Value} {od an : Option Addr} {osl : Array (Option Value)} {kV : Value} {doc pm cdv ct : Value} (g : mg "_law_power" = some (.ref a)) (l : K.lookup a = some ⟨oc, od, .func (PySem.W.fnOf "_law_power" "_law_power" (defArgs (top 22)) (defBody (top 22)) (defScope (top 22)) .none kV doc pm an cdv ct), osl⟩) (c : PySem.W.codeIn K cdv "_law_power" = true) (k : PySem.W.keepIn K (.ref a) = true)  {B : Bs} (eB : B.K = K) : Stands B mg shps 14 f__law_power a := by
  subst eB
  have F := fun_mk (st := top 22) l c k
  refine ⟨g, k, _, F, fun _ => F.binds fun _ _ _ _ _ _ us hl => (match us, hl with | [_], _ => rfl), fun s hs h1 => ?_⟩
  unfold shps at hs
  rcases List.mem_cons.mp hs with rfl | hs
  · exact absurd h1 (by decide)
  rcases List.mem_cons.mp hs with rfl | hs
  · exact absurd h1 (by decide)
  rcases List.mem_cons.mp hs with rfl | hs
  · exact absurd h1 (by decide)
  rcases List.mem_cons.mp hs with rfl | hs
  · exact absurd h1 (by decide)
  cases hs
theorem at__law_lights {a : Addr} {oc : Value} {od an : Option Addr} {osl : Array (Option Value)} {kV : Value} {doc pm cdv ct : Value} (g : mg "_law_lights" = some (.ref a)) (l : K.lookup a = some ⟨oc, od, .func (PySem.W.fnOf "_law_lights" "_law_lights" (defArgs (top 23)) (defBody (top 23)) (defScope (top 23)) .none kV doc pm an cdv ct), osl⟩) (c : PySem.W.codeIn K cdv "_law_lights" = true) (k : PySem.W.keepIn K (.ref a) = true)  {B : Bs} (eB : B.K = K) : Stands B mg shps 15 f__law_lights a := by
  subst eB
  have F := fun_mk (st := top 23) l c k
  refine ⟨g, k, _, F, fun _ => F.binds fun _ _ _ _ _ _ us hl => (match us, hl with | [_, _, _], _ => rfl), fun s hs h1 => ?_⟩
  unfold shps at hs
  rcases List.mem_cons.mp hs with rfl | hs
  · exact absurd h1 (by decide)
  rcases List.mem_cons.mp hs with rfl | hs
  · exact absurd h1 (by decide)
  rcases List.mem_cons.mp hs with rfl | hs
  · exact absurd h1 (by decide)
  rcases List.mem_cons.mp hs with rfl | hs
  · exact absurd h1 (by decide)
  cases hs
theorem at__law_glow_of {a : Addr} {oc : Value} {od an : Option Addr} {osl : Array (Option Value)} {kV : Value} {doc pm cdv ct : Value} (g : mg "_law_glow_of" = some (.ref a)) (l : K.lookup a = some ⟨oc, od, .func (PySem.W.fnOf "_law_glow_of" "_law_glow_of" (defArgs (top 24)) (defBody (top 24)) (defScope (top 24)) .none kV doc pm an cdv ct), osl⟩) (c : PySem.W.codeIn K cdv "_law_glow_of" = true) (k : PySem.W.keepIn K (.ref a) = true)  {B : Bs} (eB : B.K = K) : Stands B mg shps 16 f__law_glow_of a := by
  subst eB
  have F := fun_mk (st := top 24) l c k
  refine ⟨g, k, _, F, fun _ => F.binds fun _ _ _ _ _ _ us hl => (match us, hl with | [_, _, _], _ => rfl), fun s hs h1 => ?_⟩
  unfold shps at hs
  rcases List.mem_cons.mp hs with rfl | hs
  · exact absurd h1 (by decide)
  rcases List.mem_cons.mp hs with rfl | hs
  · exact absurd h1 (by decide)
  rcases List.mem_cons.mp hs with rfl | hs
  · exact absurd h1 (by decide)
  rcases List.mem_cons.mp hs with rfl | hs
  · exact absurd h1 (by decide)
  cases hs
theorem at__law_is_out {a : Addr} {oc : Value} {od an : Option Addr} {osl : Array (Option Value)} {kV : Value} {doc pm cdv ct : Value} (g : mg "_law_is_out" = some (.ref a)) (l : K.lookup a = some ⟨oc, od, .func (PySem.W.fnOf "_law_is_out" "_law_is_out" (defArgs (top 25)) (defBody (top 25)) (defScope (top 25)) .none kV doc pm an cdv ct), osl⟩) (c : PySem.W.codeIn K cdv "_law_is_out" = true) (k : PySem.W.keepIn K (.ref a) = true)  {B : Bs} (eB : B.K = K) : Stands B mg shps 17 f__law_is_out a := by
  subst eB
  have F := fun_mk (st := top 25) l c k
  refine ⟨g, k, _, F, fun _ => F.binds fun _ _ _ _ _ _ us hl => (match us, hl with | [_, _, _, _], _ => rfl), fun s hs h1 => ?_⟩
  unfold shps at hs
  rcases List.mem_cons.mp hs with rfl | hs
  · exact absurd h1 (by decide)
  rcases List.mem_cons.mp hs with rfl | hs
  · exact absurd h1 (by decide)
  rcases List.mem_cons.mp hs with rfl | hs
  · exact absurd h1 (by decide)
  rcases List.mem_cons.mp hs with rfl | hs
  · exact absurd h1 (by decide)
  cases hs
theorem at_law {a : Addr} {oc : Value} {od an : Option Addr} {osl : Array (Option Value)} {kV : Value} {doc pm cdv ct : Value} (g : mg "law" = some (.ref a)) (l : K.lookup a = some ⟨oc, od, .func (PySem.W.fnOf "law" "law" (defArgs (top 26)) (defBody (top 26)) (defScope (top 26)) .none kV doc pm an cdv ct), osl⟩) (c : PySem.W.codeIn K cdv "law" = true) (k : PySem.W.keepIn K (.ref a) = true)  {B : Bs} (eB : B.K = K) : Stands B mg shps 18 f_law a := by
  subst eB
  have F := fun_mk (st := top 26) l c k
  refine ⟨g, k, _, F, fun _ => F.binds fun _ _ _ _ _ _ us hl => (match us, hl with | [_], _ => rfl), fun s hs h1 => ?_⟩
  unfold shps at hs
  rcases List.mem_cons.mp hs with rfl | hs
  · exact absurd h1 (by decide)
  rcases List.mem_cons.mp hs with rfl | hs
  · exact absurd h1 (by decide)
  rcases List.mem_cons.mp hs with rfl | hs
  · exact absurd h1 (by decide)
  rcases List.mem_cons.mp hs with rfl | hs
  · exact absurd h1 (by decide)
  cases hs
theorem known {h : Heap} (X : K.In h) (G : h.Ns mainGlobals mg)
    {a0 : Addr} {kV0 : Value} {oc0 dc0 pm0 cd0 ct0 : Value} {od0 an0 : Option Addr} {sl0 : Array (Option Value)} (n0 : PySem.W.nsIn K mainGlobals "is_number" = some (some (.ref a0))) (l0 : K.lookup a0 = some ⟨oc0, od0, .func (PySem.W.fnOf "is_number" "is_number" (defArgs (top 5)) (defBody (top 5)) (defScope (top 5)) .none kV0 dc0 pm0 an0 cd0 ct0), sl0⟩) (c0 : PySem.W.codeIn K cd0 "is_number" = true) (k0 : PySem.W.keepIn K (.ref a0) = true)
    {a1 : Addr} {kV1 : Value} {oc1 dc1 pm1 cd1 ct1 : Value} {od1 an1 : Option Addr} {sl1 : Array (Option Value)} (n1 : PySem.W.nsIn K mainGlobals "is_bunch" = some (some (.ref a1))) (l1 : K.lookup a1 = some ⟨oc1, od1, .func (PySem.W.fnOf "is_bunch" "is_bunch" (defArgs (top 7)) (defBody (top 7)) (defScope (top 7)) .none kV1 dc1 pm1 an1 cd1 ct1), sl1⟩) (c1 : PySem.W.codeIn K cd1 "is_bunch" = true) (k1 : PySem.W.keepIn K (.ref a1) = true)
    {a2 : Addr} {kV2 : Value} {oc2 dc2 pm2 cd2 ct2 : Value} {od2 an2 : Option Addr} {sl2 : Array (Option Value)} (n2 : PySem.W.nsIn K mainGlobals "dark_ones" = some (some (.ref a2))) (l2 : K.lookup a2 = some ⟨oc2, od2, .func (PySem.W.fnOf "dark_ones" "dark_ones" (defArgs (top 8)) (defBody (top 8)) (defScope (top 8)) .none kV2 dc2 pm2 an2 cd2 ct2), sl2⟩) (c2 : PySem.W.codeIn K cd2 "dark_ones" = true) (k2 : PySem.W.keepIn K (.ref a2) = true)
    {a3 : Addr} {kV3 : Value} {oc3 dc3 pm3 cd3 ct3 : Value} {od3 an3 : Option Addr} {sl3 : Array (Option Value)} (n3 : PySem.W.nsIn K mainGlobals "glow_of" = some (some (.ref a3))) (l3 : K.lookup a3 = some ⟨oc3, od3, .func (PySem.W.fnOf "glow_of" "glow_of" (defArgs (top 9)) (defBody (top 9)) (defScope (top 9)) .none kV3 dc3 pm3 an3 cd3 ct3), sl3⟩) (c3 : PySem.W.codeIn K cd3 "glow_of" = true) (k3 : PySem.W.keepIn K (.ref a3) = true)
    {a4 : Addr} {kV4 : Value} {oc4 dc4 pm4 cd4 ct4 : Value} {od4 an4 : Option Addr} {sl4 : Array (Option Value)} (n4 : PySem.W.nsIn K mainGlobals "as_bunch" = some (some (.ref a4))) (l4 : K.lookup a4 = some ⟨oc4, od4, .func (PySem.W.fnOf "as_bunch" "as_bunch" (defArgs (top 11)) (defBody (top 11)) (defScope (top 11)) .none kV4 dc4 pm4 an4 cd4 ct4), sl4⟩) (c4 : PySem.W.codeIn K cd4 "as_bunch" = true) (k4 : PySem.W.keepIn K (.ref a4) = true)
    {a5 : Addr} {kV5 : Value} {oc5 dc5 pm5 cd5 ct5 : Value} {od5 an5 : Option Addr} {sl5 : Array (Option Value)} (n5 : PySem.W.nsIn K mainGlobals "bunch_without" = some (some (.ref a5))) (l5 : K.lookup a5 = some ⟨oc5, od5, .func (PySem.W.fnOf "bunch_without" "bunch_without" (defArgs (top 12)) (defBody (top 12)) (defScope (top 12)) .none kV5 dc5 pm5 an5 cd5 ct5), sl5⟩) (c5 : PySem.W.codeIn K cd5 "bunch_without" = true) (k5 : PySem.W.keepIn K (.ref a5) = true)
    {a6 : Addr} {kV6 : Value} {oc6 dc6 pm6 cd6 ct6 : Value} {od6 an6 : Option Addr} {sl6 : Array (Option Value)} (n6 : PySem.W.nsIn K mainGlobals "agreed_picks" = some (some (.ref a6))) (l6 : K.lookup a6 = some ⟨oc6, od6, .func (PySem.W.fnOf "agreed_picks" "agreed_picks" (defArgs (top 13)) (defBody (top 13)) (defScope (top 13)) .none kV6 dc6 pm6 an6 cd6 ct6), sl6⟩) (c6 : PySem.W.codeIn K cd6 "agreed_picks" = true) (k6 : PySem.W.keepIn K (.ref a6) = true)
    {a7 : Addr} {kV7 : Value} {oc7 dc7 pm7 cd7 ct7 : Value} {od7 an7 : Option Addr} {sl7 : Array (Option Value)} (n7 : PySem.W.nsIn K mainGlobals "bunch_deeds" = some (some (.ref a7))) (l7 : K.lookup a7 = some ⟨oc7, od7, .func (PySem.W.fnOf "bunch_deeds" "bunch_deeds" (defArgs (top 14)) (defBody (top 14)) (defScope (top 14)) .none kV7 dc7 pm7 an7 cd7 ct7), sl7⟩) (c7 : PySem.W.codeIn K cd7 "bunch_deeds" = true) (k7 : PySem.W.keepIn K (.ref a7) = true)
    {a8 : Addr} {kV8 : Value} {oc8 dc8 pm8 cd8 ct8 : Value} {od8 an8 : Option Addr} {sl8 : Array (Option Value)} (n8 : PySem.W.nsIn K mainGlobals "bunch_done" = some (some (.ref a8))) (l8 : K.lookup a8 = some ⟨oc8, od8, .func (PySem.W.fnOf "bunch_done" "bunch_done" (defArgs (top 15)) (defBody (top 15)) (defScope (top 15)) .none kV8 dc8 pm8 an8 cd8 ct8), sl8⟩) (c8 : PySem.W.codeIn K cd8 "bunch_done" = true) (k8 : PySem.W.keepIn K (.ref a8) = true)
    {a9 : Addr} {kV9 : Value} {oc9 dc9 pm9 cd9 ct9 : Value} {od9 an9 : Option Addr} {sl9 : Array (Option Value)} (n9 : PySem.W.nsIn K mainGlobals "bunch_run" = some (some (.ref a9))) (l9 : K.lookup a9 = some ⟨oc9, od9, .func (PySem.W.fnOf "bunch_run" "bunch_run" (defArgs (top 16)) (defBody (top 16)) (defScope (top 16)) .none kV9 dc9 pm9 an9 cd9 ct9), sl9⟩) (c9 : PySem.W.codeIn K cd9 "bunch_run" = true) (k9 : PySem.W.keepIn K (.ref a9) = true)
    {a10 : Addr} {kV10 : Value} {oc10 dc10 pm10 cd10 ct10 : Value} {od10 an10 : Option Addr} {sl10 : Array (Option Value)} (n10 : PySem.W.nsIn K mainGlobals "copied_out" = some (some (.ref a10))) (l10 : K.lookup a10 = some ⟨oc10, od10, .func (PySem.W.fnOf "copied_out" "copied_out" (defArgs (top 17)) (defBody (top 17)) (defScope (top 17)) .none kV10 dc10 pm10 an10 cd10 ct10), sl10⟩) (c10 : PySem.W.codeIn K cd10 "copied_out" = true) (k10 : PySem.W.keepIn K (.ref a10) = true)
    {a11 : Addr} {kV11 : Value} {oc11 dc11 pm11 cd11 ct11 : Value} {od11 an11 : Option Addr} {sl11 : Array (Option Value)} (n11 : PySem.W.nsIn K mainGlobals "_law_feed" = some (some (.ref a11))) (l11 : K.lookup a11 = some ⟨oc11, od11, .func (PySem.W.fnOf "_law_feed" "_law_feed" (defArgs (top 19)) (defBody (top 19)) (defScope (top 19)) .none kV11 dc11 pm11 an11 cd11 ct11), sl11⟩) (c11 : PySem.W.codeIn K cd11 "_law_feed" = true) (k11 : PySem.W.keepIn K (.ref a11) = true)
    {a12 : Addr} {kV12 : Value} {oc12 dc12 pm12 cd12 ct12 : Value} {od12 an12 : Option Addr} {sl12 : Array (Option Value)} (n12 : PySem.W.nsIn K mainGlobals "_law_draw" = some (some (.ref a12))) (l12 : K.lookup a12 = some ⟨oc12, od12, .func (PySem.W.fnOf "_law_draw" "_law_draw" (defArgs (top 20)) (defBody (top 20)) (defScope (top 20)) .none kV12 dc12 pm12 an12 cd12 ct12), sl12⟩) (c12 : PySem.W.codeIn K cd12 "_law_draw" = true) (k12 : PySem.W.keepIn K (.ref a12) = true)
    {a13 : Addr} {kV13 : Value} {oc13 dc13 pm13 cd13 ct13 : Value} {od13 an13 : Option Addr} {sl13 : Array (Option Value)} (n13 : PySem.W.nsIn K mainGlobals "_law_falling" = some (some (.ref a13))) (l13 : K.lookup a13 = some ⟨oc13, od13, .func (PySem.W.fnOf "_law_falling" "_law_falling" (defArgs (top 21)) (defBody (top 21)) (defScope (top 21)) .none kV13 dc13 pm13 an13 cd13 ct13), sl13⟩) (c13 : PySem.W.codeIn K cd13 "_law_falling" = true) (k13 : PySem.W.keepIn K (.ref a13) = true)
    {a14 : Addr} {kV14 : Value} {oc14 dc14 pm14 cd14 ct14 : Value} {od14 an14 : Option Addr} {sl14 : Array (Option Value)} (n14 : PySem.W.nsIn K mainGlobals "_law_power" = some (some (.ref a14))) (l14 : K.lookup a14 = some ⟨oc14, od14, .func (PySem.W.fnOf "_law_power" "_law_power" (defArgs (top 22)) (defBody (top 22)) (defScope (top 22)) .none kV14 dc14 pm14 an14 cd14 ct14), sl14⟩) (c14 : PySem.W.codeIn K cd14 "_law_power" = true) (k14 : PySem.W.keepIn K (.ref a14) = true)
    {a15 : Addr} {kV15 : Value} {oc15 dc15 pm15 cd15 ct15 : Value} {od15 an15 : Option Addr} {sl15 : Array (Option Value)} (n15 : PySem.W.nsIn K mainGlobals "_law_lights" = some (some (.ref a15))) (l15 : K.lookup a15 = some ⟨oc15, od15, .func (PySem.W.fnOf "_law_lights" "_law_lights" (defArgs (top 23)) (defBody (top 23)) (defScope (top 23)) .none kV15 dc15 pm15 an15 cd15 ct15), sl15⟩) (c15 : PySem.W.codeIn K cd15 "_law_lights" = true) (k15 : PySem.W.keepIn K (.ref a15) = true)
    {a16 : Addr} {kV16 : Value} {oc16 dc16 pm16 cd16 ct16 : Value} {od16 an16 : Option Addr} {sl16 : Array (Option Value)} (n16 : PySem.W.nsIn K mainGlobals "_law_glow_of" = some (some (.ref a16))) (l16 : K.lookup a16 = some ⟨oc16, od16, .func (PySem.W.fnOf "_law_glow_of" "_law_glow_of" (defArgs (top 24)) (defBody (top 24)) (defScope (top 24)) .none kV16 dc16 pm16 an16 cd16 ct16), sl16⟩) (c16 : PySem.W.codeIn K cd16 "_law_glow_of" = true) (k16 : PySem.W.keepIn K (.ref a16) = true)
    {a17 : Addr} {kV17 : Value} {oc17 dc17 pm17 cd17 ct17 : Value} {od17 an17 : Option Addr} {sl17 : Array (Option Value)} (n17 : PySem.W.nsIn K mainGlobals "_law_is_out" = some (some (.ref a17))) (l17 : K.lookup a17 = some ⟨oc17, od17, .func (PySem.W.fnOf "_law_is_out" "_law_is_out" (defArgs (top 25)) (defBody (top 25)) (defScope (top 25)) .none kV17 dc17 pm17 an17 cd17 ct17), sl17⟩) (c17 : PySem.W.codeIn K cd17 "_law_is_out" = true) (k17 : PySem.W.keepIn K (.ref a17) = true)
    {a18 : Addr} {kV18 : Value} {oc18 dc18 pm18 cd18 ct18 : Value} {od18 an18 : Option Addr} {sl18 : Array (Option Value)} (n18 : PySem.W.nsIn K mainGlobals "law" = some (some (.ref a18))) (l18 : K.lookup a18 = some ⟨oc18, od18, .func (PySem.W.fnOf "law" "law" (defArgs (top 26)) (defBody (top 26)) (defScope (top 26)) .none kV18 dc18 pm18 an18 cd18 ct18), sl18⟩) (c18 : PySem.W.codeIn K cd18 "law" = true) (k18 : PySem.W.keepIn K (.ref a18) = true)
    (z0 : PySem.W.nsIn K mainGlobals "isinstance" = some none)
    (z1 : PySem.W.nsIn K mainGlobals "int" = some none)
    (z2 : PySem.W.nsIn K mainGlobals "bool" = some none)
    (z3 : PySem.W.nsIn K mainGlobals "tuple" = some none)
    (z4 : PySem.W.nsIn K mainGlobals "all" = some none)
    (z5 : PySem.W.nsIn K mainGlobals "zip" = some none)
    (z6 : PySem.W.nsIn K mainGlobals "range" = some none)
    (z7 : PySem.W.nsIn K mainGlobals "sum" = some none)
    (z8 : PySem.W.nsIn K mainGlobals "sorted" = some none)
    (z9 : PySem.W.nsIn K mainGlobals "list" = some none)
    (z10 : PySem.W.nsIn K mainGlobals "enumerate" = some none)
    (z11 : PySem.W.nsIn K mainGlobals "len" = some none)
    : Known ⟨K, fun n => [a0, a1, a2, a3, a4, a5, a6, a7, a8, a9, a10, a11, a12, a13, a14, a15, a16, a17, a18][n]?, npOf defs, fun _ => none⟩ mg defs blts shps gcons := by
  refine ⟨fun n f hf => ?_, rfl, fun x hx => ?_, by decide +kernel, fun x d h => ?_, code_all⟩
  · unfold defs at hf
    rcases n with _ | n
    · cases hf; exact ⟨a0, rfl, at_is_number (PySem.W.mg_of X G n0) l0 c0 k0  rfl⟩
    rcases n with _ | n
    · cases hf; exact ⟨a1, rfl, at_is_bunch (PySem.W.mg_of X G n1) l1 c1 k1  rfl⟩
    rcases n with _ | n
    · cases hf; exact ⟨a2, rfl, at_dark_ones (PySem.W.mg_of X G n2) l2 c2 k2  rfl⟩
    rcases n with _ | n
    · cases hf; exact ⟨a3, rfl, at_glow_of (PySem.W.mg_of X G n3) l3 c3 k3  rfl⟩
    rcases n with _ | n
    · cases hf; exact ⟨a4, rfl, at_as_bunch (PySem.W.mg_of X G n4) l4 c4 k4  rfl⟩
    rcases n with _ | n
    · cases hf; exact ⟨a5, rfl, at_bunch_without (PySem.W.mg_of X G n5) l5 c5 k5  rfl⟩
    rcases n with _ | n
    · cases hf; exact ⟨a6, rfl, at_agreed_picks (PySem.W.mg_of X G n6) l6 c6 k6  rfl⟩
    rcases n with _ | n
    · cases hf; exact ⟨a7, rfl, at_bunch_deeds (PySem.W.mg_of X G n7) l7 c7 k7  rfl⟩
    rcases n with _ | n
    · cases hf; exact ⟨a8, rfl, at_bunch_done (PySem.W.mg_of X G n8) l8 c8 k8  rfl⟩
    rcases n with _ | n
    · cases hf; exact ⟨a9, rfl, at_bunch_run (PySem.W.mg_of X G n9) l9 c9 k9  rfl⟩
    rcases n with _ | n
    · cases hf; exact ⟨a10, rfl, at_copied_out (PySem.W.mg_of X G n10) l10 c10 k10  rfl⟩
    rcases n with _ | n
    · cases hf; exact ⟨a11, rfl, at__law_feed (PySem.W.mg_of X G n11) l11 c11 k11  rfl⟩
    rcases n with _ | n
    · cases hf; exact ⟨a12, rfl, at__law_draw (PySem.W.mg_of X G n12) l12 c12 k12  rfl⟩
    rcases n with _ | n
    · cases hf; exact ⟨a13, rfl, at__law_falling (PySem.W.mg_of X G n13) l13 c13 k13  rfl⟩
    rcases n with _ | n
    · cases hf; exact ⟨a14, rfl, at__law_power (PySem.W.mg_of X G n14) l14 c14 k14  rfl⟩
    rcases n with _ | n
    · cases hf; exact ⟨a15, rfl, at__law_lights (PySem.W.mg_of X G n15) l15 c15 k15  rfl⟩
    rcases n with _ | n
    · cases hf; exact ⟨a16, rfl, at__law_glow_of (PySem.W.mg_of X G n16) l16 c16 k16  rfl⟩
    rcases n with _ | n
    · cases hf; exact ⟨a17, rfl, at__law_is_out (PySem.W.mg_of X G n17) l17 c17 k17  rfl⟩
    rcases n with _ | n
    · cases hf; exact ⟨a18, rfl, at_law (PySem.W.mg_of X G n18) l18 c18 k18  rfl⟩
    cases hf
  · unfold blts at hx
    rcases List.mem_cons.mp hx with rfl | hx
    · exact PySem.W.mg_none_of X G z0
    rcases List.mem_cons.mp hx with rfl | hx
    · exact PySem.W.mg_none_of X G z1
    rcases List.mem_cons.mp hx with rfl | hx
    · exact PySem.W.mg_none_of X G z2
    rcases List.mem_cons.mp hx with rfl | hx
    · exact PySem.W.mg_none_of X G z3
    rcases List.mem_cons.mp hx with rfl | hx
    · exact PySem.W.mg_none_of X G z4
    rcases List.mem_cons.mp hx with rfl | hx
    · exact PySem.W.mg_none_of X G z5
    rcases List.mem_cons.mp hx with rfl | hx
    · exact PySem.W.mg_none_of X G z6
    rcases List.mem_cons.mp hx with rfl | hx
    · exact PySem.W.mg_none_of X G z7
    rcases List.mem_cons.mp hx with rfl | hx
    · exact PySem.W.mg_none_of X G z8
    rcases List.mem_cons.mp hx with rfl | hx
    · exact PySem.W.mg_none_of X G z9
    rcases List.mem_cons.mp hx with rfl | hx
    · exact PySem.W.mg_none_of X G z10
    rcases List.mem_cons.mp hx with rfl | hx
    · exact PySem.W.mg_none_of X G z11
    cases hx
  · have h := PySem.mem_of_lookup h
    unfold gcons at h
    cases h
theorem law_at {P : Program} {w : World} {fa : Addr} {h : Heap} (X : K.In h) (G : h.Ns mainGlobals mg) (hfa : mg "law" = some (.ref fa))
    {a0 : Addr} {kV0 : Value} {oc0 dc0 pm0 cd0 ct0 : Value} {od0 an0 : Option Addr} {sl0 : Array (Option Value)} (n0 : PySem.W.nsIn K mainGlobals "is_number" = some (some (.ref a0))) (l0 : K.lookup a0 = some ⟨oc0, od0, .func (PySem.W.fnOf "is_number" "is_number" (defArgs (top 5)) (defBody (top 5)) (defScope (top 5)) .none kV0 dc0 pm0 an0 cd0 ct0), sl0⟩) (c0 : PySem.W.codeIn K cd0 "is_number" = true) (k0 : PySem.W.keepIn K (.ref a0) = true)
    {a1 : Addr} {kV1 : Value} {oc1 dc1 pm1 cd1 ct1 : Value} {od1 an1 : Option Addr} {sl1 : Array (Option Value)} (n1 : PySem.W.nsIn K mainGlobals "is_bunch" = some (some (.ref a1))) (l1 : K.lookup a1 = some ⟨oc1, od1, .func (PySem.W.fnOf "is_bunch" "is_bunch" (defArgs (top 7)) (defBody (top 7)) (defScope (top 7)) .none kV1 dc1 pm1 an1 cd1 ct1), sl1⟩) (c1 : PySem.W.codeIn K cd1 "is_bunch" = true) (k1 : PySem.W.keepIn K (.ref a1) = true)
    {a2 : Addr} {kV2 : Value} {oc2 dc2 pm2 cd2 ct2 : Value} {od2 an2 : Option Addr} {sl2 : Array (Option Value)} (n2 : PySem.W.nsIn K mainGlobals "dark_ones" = some (some (.ref a2))) (l2 : K.lookup a2 = some ⟨oc2, od2, .func (PySem.W.fnOf "dark_ones" "dark_ones" (defArgs (top 8)) (defBody (top 8)) (defScope (top 8)) .none kV2 dc2 pm2 an2 cd2 ct2), sl2⟩) (c2 : PySem.W.codeIn K cd2 "dark_ones" = true) (k2 : PySem.W.keepIn K (.ref a2) = true)
    {a3 : Addr} {kV3 : Value} {oc3 dc3 pm3 cd3 ct3 : Value} {od3 an3 : Option Addr} {sl3 : Array (Option Value)} (n3 : PySem.W.nsIn K mainGlobals "glow_of" = some (some (.ref a3))) (l3 : K.lookup a3 = some ⟨oc3, od3, .func (PySem.W.fnOf "glow_of" "glow_of" (defArgs (top 9)) (defBody (top 9)) (defScope (top 9)) .none kV3 dc3 pm3 an3 cd3 ct3), sl3⟩) (c3 : PySem.W.codeIn K cd3 "glow_of" = true) (k3 : PySem.W.keepIn K (.ref a3) = true)
    {a4 : Addr} {kV4 : Value} {oc4 dc4 pm4 cd4 ct4 : Value} {od4 an4 : Option Addr} {sl4 : Array (Option Value)} (n4 : PySem.W.nsIn K mainGlobals "as_bunch" = some (some (.ref a4))) (l4 : K.lookup a4 = some ⟨oc4, od4, .func (PySem.W.fnOf "as_bunch" "as_bunch" (defArgs (top 11)) (defBody (top 11)) (defScope (top 11)) .none kV4 dc4 pm4 an4 cd4 ct4), sl4⟩) (c4 : PySem.W.codeIn K cd4 "as_bunch" = true) (k4 : PySem.W.keepIn K (.ref a4) = true)
    {a5 : Addr} {kV5 : Value} {oc5 dc5 pm5 cd5 ct5 : Value} {od5 an5 : Option Addr} {sl5 : Array (Option Value)} (n5 : PySem.W.nsIn K mainGlobals "bunch_without" = some (some (.ref a5))) (l5 : K.lookup a5 = some ⟨oc5, od5, .func (PySem.W.fnOf "bunch_without" "bunch_without" (defArgs (top 12)) (defBody (top 12)) (defScope (top 12)) .none kV5 dc5 pm5 an5 cd5 ct5), sl5⟩) (c5 : PySem.W.codeIn K cd5 "bunch_without" = true) (k5 : PySem.W.keepIn K (.ref a5) = true)
    {a6 : Addr} {kV6 : Value} {oc6 dc6 pm6 cd6 ct6 : Value} {od6 an6 : Option Addr} {sl6 : Array (Option Value)} (n6 : PySem.W.nsIn K mainGlobals "agreed_picks" = some (some (.ref a6))) (l6 : K.lookup a6 = some ⟨oc6, od6, .func (PySem.W.fnOf "agreed_picks" "agreed_picks" (defArgs (top 13)) (defBody (top 13)) (defScope (top 13)) .none kV6 dc6 pm6 an6 cd6 ct6), sl6⟩) (c6 : PySem.W.codeIn K cd6 "agreed_picks" = true) (k6 : PySem.W.keepIn K (.ref a6) = true)
    {a7 : Addr} {kV7 : Value} {oc7 dc7 pm7 cd7 ct7 : Value} {od7 an7 : Option Addr} {sl7 : Array (Option Value)} (n7 : PySem.W.nsIn K mainGlobals "bunch_deeds" = some (some (.ref a7))) (l7 : K.lookup a7 = some ⟨oc7, od7, .func (PySem.W.fnOf "bunch_deeds" "bunch_deeds" (defArgs (top 14)) (defBody (top 14)) (defScope (top 14)) .none kV7 dc7 pm7 an7 cd7 ct7), sl7⟩) (c7 : PySem.W.codeIn K cd7 "bunch_deeds" = true) (k7 : PySem.W.keepIn K (.ref a7) = true)
    {a8 : Addr} {kV8 : Value} {oc8 dc8 pm8 cd8 ct8 : Value} {od8 an8 : Option Addr} {sl8 : Array (Option Value)} (n8 : PySem.W.nsIn K mainGlobals "bunch_done" = some (some (.ref a8))) (l8 : K.lookup a8 = some ⟨oc8, od8, .func (PySem.W.fnOf "bunch_done" "bunch_done" (defArgs (top 15)) (defBody (top 15)) (defScope (top 15)) .none kV8 dc8 pm8 an8 cd8 ct8), sl8⟩) (c8 : PySem.W.codeIn K cd8 "bunch_done" = true) (k8 : PySem.W.keepIn K (.ref a8) = true)
    {a9 : Addr} {kV9 : Value} {oc9 dc9 pm9 cd9 ct9 : Value} {od9 an9 : Option Addr} {sl9 : Array (Option Value)} (n9 : PySem.W.nsIn K mainGlobals "bunch_run" = some (some (.ref a9))) (l9 : K.lookup a9 = some ⟨oc9, od9, .func (PySem.W.fnOf "bunch_run" "bunch_run" (defArgs (top 16)) (defBody (top 16)) (defScope (top 16)) .none kV9 dc9 pm9 an9 cd9 ct9), sl9⟩) (c9 : PySem.W.codeIn K cd9 "bunch_run" = true) (k9 : PySem.W.keepIn K (.ref a9) = true)
    {a10 : Addr} {kV10 : Value} {oc10 dc10 pm10 cd10 ct10 : Value} {od10 an10 : Option Addr} {sl10 : Array (Option Value)} (n10 : PySem.W.nsIn K mainGlobals "copied_out" = some (some (.ref a10))) (l10 : K.lookup a10 = some ⟨oc10, od10, .func (PySem.W.fnOf "copied_out" "copied_out" (defArgs (top 17)) (defBody (top 17)) (defScope (top 17)) .none kV10 dc10 pm10 an10 cd10 ct10), sl10⟩) (c10 : PySem.W.codeIn K cd10 "copied_out" = true) (k10 : PySem.W.keepIn K (.ref a10) = true)
    {a11 : Addr} {kV11 : Value} {oc11 dc11 pm11 cd11 ct11 : Value} {od11 an11 : Option Addr} {sl11 : Array (Option Value)} (n11 : PySem.W.nsIn K mainGlobals "_law_feed" = some (some (.ref a11))) (l11 : K.lookup a11 = some ⟨oc11, od11, .func (PySem.W.fnOf "_law_feed" "_law_feed" (defArgs (top 19)) (defBody (top 19)) (defScope (top 19)) .none kV11 dc11 pm11 an11 cd11 ct11), sl11⟩) (c11 : PySem.W.codeIn K cd11 "_law_feed" = true) (k11 : PySem.W.keepIn K (.ref a11) = true)
    {a12 : Addr} {kV12 : Value} {oc12 dc12 pm12 cd12 ct12 : Value} {od12 an12 : Option Addr} {sl12 : Array (Option Value)} (n12 : PySem.W.nsIn K mainGlobals "_law_draw" = some (some (.ref a12))) (l12 : K.lookup a12 = some ⟨oc12, od12, .func (PySem.W.fnOf "_law_draw" "_law_draw" (defArgs (top 20)) (defBody (top 20)) (defScope (top 20)) .none kV12 dc12 pm12 an12 cd12 ct12), sl12⟩) (c12 : PySem.W.codeIn K cd12 "_law_draw" = true) (k12 : PySem.W.keepIn K (.ref a12) = true)
    {a13 : Addr} {kV13 : Value} {oc13 dc13 pm13 cd13 ct13 : Value} {od13 an13 : Option Addr} {sl13 : Array (Option Value)} (n13 : PySem.W.nsIn K mainGlobals "_law_falling" = some (some (.ref a13))) (l13 : K.lookup a13 = some ⟨oc13, od13, .func (PySem.W.fnOf "_law_falling" "_law_falling" (defArgs (top 21)) (defBody (top 21)) (defScope (top 21)) .none kV13 dc13 pm13 an13 cd13 ct13), sl13⟩) (c13 : PySem.W.codeIn K cd13 "_law_falling" = true) (k13 : PySem.W.keepIn K (.ref a13) = true)
    {a14 : Addr} {kV14 : Value} {oc14 dc14 pm14 cd14 ct14 : Value} {od14 an14 : Option Addr} {sl14 : Array (Option Value)} (n14 : PySem.W.nsIn K mainGlobals "_law_power" = some (some (.ref a14))) (l14 : K.lookup a14 = some ⟨oc14, od14, .func (PySem.W.fnOf "_law_power" "_law_power" (defArgs (top 22)) (defBody (top 22)) (defScope (top 22)) .none kV14 dc14 pm14 an14 cd14 ct14), sl14⟩) (c14 : PySem.W.codeIn K cd14 "_law_power" = true) (k14 : PySem.W.keepIn K (.ref a14) = true)
    {a15 : Addr} {kV15 : Value} {oc15 dc15 pm15 cd15 ct15 : Value} {od15 an15 : Option Addr} {sl15 : Array (Option Value)} (n15 : PySem.W.nsIn K mainGlobals "_law_lights" = some (some (.ref a15))) (l15 : K.lookup a15 = some ⟨oc15, od15, .func (PySem.W.fnOf "_law_lights" "_law_lights" (defArgs (top 23)) (defBody (top 23)) (defScope (top 23)) .none kV15 dc15 pm15 an15 cd15 ct15), sl15⟩) (c15 : PySem.W.codeIn K cd15 "_law_lights" = true) (k15 : PySem.W.keepIn K (.ref a15) = true)
    {a16 : Addr} {kV16 : Value} {oc16 dc16 pm16 cd16 ct16 : Value} {od16 an16 : Option Addr} {sl16 : Array (Option Value)} (n16 : PySem.W.nsIn K mainGlobals "_law_glow_of" = some (some (.ref a16))) (l16 : K.lookup a16 = some ⟨oc16, od16, .func (PySem.W.fnOf "_law_glow_of" "_law_glow_of" (defArgs (top 24)) (defBody (top 24)) (defScope (top 24)) .none kV16 dc16 pm16 an16 cd16 ct16), sl16⟩) (c16 : PySem.W.codeIn K cd16 "_law_glow_of" = true) (k16 : PySem.W.keepIn K (.ref a16) = true)
    {a17 : Addr} {kV17 : Value} {oc17 dc17 pm17 cd17 ct17 : Value} {od17 an17 : Option Addr} {sl17 : Array (Option Value)} (n17 : PySem.W.nsIn K mainGlobals "_law_is_out" = some (some (.ref a17))) (l17 : K.lookup a17 = some ⟨oc17, od17, .func (PySem.W.fnOf "_law_is_out" "_law_is_out" (defArgs (top 25)) (defBody (top 25)) (defScope (top 25)) .none kV17 dc17 pm17 an17 cd17 ct17), sl17⟩) (c17 : PySem.W.codeIn K cd17 "_law_is_out" = true) (k17 : PySem.W.keepIn K (.ref a17) = true)
    {a18 : Addr} {kV18 : Value} {oc18 dc18 pm18 cd18 ct18 : Value} {od18 an18 : Option Addr} {sl18 : Array (Option Value)} (n18 : PySem.W.nsIn K mainGlobals "law" = some (some (.ref a18))) (l18 : K.lookup a18 = some ⟨oc18, od18, .func (PySem.W.fnOf "law" "law" (defArgs (top 26)) (defBody (top 26)) (defScope (top 26)) .none kV18 dc18 pm18 an18 cd18 ct18), sl18⟩) (c18 : PySem.W.codeIn K cd18 "law" = true) (k18 : PySem.W.keepIn K (.ref a18) = true)
    (z0 : PySem.W.nsIn K mainGlobals "isinstance" = some none)
    (z1 : PySem.W.nsIn K mainGlobals "int" = some none)
    (z2 : PySem.W.nsIn K mainGlobals "bool" = some none)
    (z3 : PySem.W.nsIn K mainGlobals "tuple" = some none)
    (z4 : PySem.W.nsIn K mainGlobals "all" = some none)
    (z5 : PySem.W.nsIn K mainGlobals "zip" = some none)
    (z6 : PySem.W.nsIn K mainGlobals "range" = some none)
    (z7 : PySem.W.nsIn K mainGlobals "sum" = some none)
    (z8 : PySem.W.nsIn K mainGlobals "sorted" = some none)
    (z9 : PySem.W.nsIn K mainGlobals "list" = some none)
    (z10 : PySem.W.nsIn K mainGlobals "enumerate" = some none)
    (z11 : PySem.W.nsIn K mainGlobals "len" = some none)
    : ∃ (B : Bs) (fd : FuncData), B.K = K ∧ Binds K fd ["_law_script"] [] ∧ ∀ base : Heap, K.In base → base.Ns mainGlobals mg → FnG P w K mg base KK fa fd ["_law_script"] (spOf B 1 (progG defs KK 18)) := by
  have kn := known X G n0 l0 c0 k0 n1 l1 c1 k1 n2 l2 c2 k2 n3 l3 c3 k3 n4 l4 c4 k4 n5 l5 c5 k5 n6 l6 c6 k6 n7 l7 c7 k7 n8 l8 c8 k8 n9 l9 c9 k9 n10 l10 c10 k10 n11 l11 c11 k11 n12 l12 c12 k12 n13 l13 c13 k13 n14 l14 c14 k14 n15 l15 c15 k15 n16 l16 c16 k16 n17 l17 c17 k17 n18 l18 c18 k18 z0 z1 z2 z3 z4 z5 z6 z7 z8 z9 z10 z11
  have e := hfa.symm.trans (PySem.W.mg_of X G n18)
  cases e
  have F := fun_mk (st := top 26) l18 c18 k18
  exact ⟨_, _, rfl, F.binds fun _ _ _ _ _ _ us hl => (match us, hl with | [_], _ => rfl), fun base _ _ => fng_at kn KK 18 f_law _ _ rfl rfl F⟩
end
end K34
set_option maxHeartbeats 2000000
/-! M34: bunches as lists of ints (plain Lean). -/
namespace K34
open PySem Z
abbrev tI (l : List Int) : D := .tup (l.map D.int)
def fall (l : List Int) : List Int := (srt l).reverse
theorem fall_perm (l : List Int) : (fall l).Perm l := (List.reverse_perm _).trans (srt_perm l)
theorem fall_desc (l : List Int) : (fall l).Pairwise (fun a b => b ≤ a) := by
  unfold fall
  rw [List.pairwise_reverse]
  exact srt_sorted l
def Li (l : List Int) : Prop := ∀ x ∈ l, 0 ≤ x ∧ x < 4
def pw (n : Int) : Int := 2 ^ n.toNat
def glow (ns : List Int) : Int := (ns.map pw).sum
theorem sum_perm {a b : List Int} (h : a.Perm b) : a.sum = b.sum := by
  induction h with
  | nil => rfl
  | cons x _ ih => rw [List.sum_cons, List.sum_cons, ih]
  | swap x y l => rw [List.sum_cons, List.sum_cons, List.sum_cons, List.sum_cons]; omega
  | trans _ _ h1 h2 => exact h1.trans h2
theorem glow_perm {a b : List Int} (h : a.Perm b) : glow a = glow b := sum_perm (h.map _)
theorem glow_app (a b : List Int) : glow (a ++ b) = glow a + glow b := by
  unfold glow
  rw [List.map_append, List.sum_append]
theorem glow_cons (x : Int) (l : List Int) : glow (x :: l) = pw x + glow l := by
  unfold glow
  rw [List.map_cons, List.sum_cons]
theorem glow_nil : glow [] = 0 := rfl
theorem glow_erase {l : List Int} {x : Int} (h : x ∈ l) : glow l = pw x + glow (l.erase x) := by
  rw [glow_perm (List.perm_cons_erase h), glow_cons]
theorem pw_pos (x : Int) : 1 ≤ pw x := by
  unfold pw
  have : 0 < (2 : Int) ^ x.toNat := Int.pow_pos (by decide)
  omega
theorem pw_half {x : Int} (h : 0 < x) : pw x = pw (x - 1) + pw (x - 1) := by
  unfold pw
  obtain ⟨n, rfl⟩ : ∃ n : Nat, x = (n : Int) + 1 := ⟨(x - 1).toNat, by omega⟩
  rw [show ((n : Int) + 1).toNat = n + 1 by omega, show ((n : Int) + 1 - 1).toNat = n by omega, Int.pow_succ]
  omega
theorem pw_le {x : Int} (h0 : 0 ≤ x) (h : x < 4) : pw x ≤ 8 := by
  have : x = 0 ∨ x = 1 ∨ x = 2 ∨ x = 3 := by omega
  rcases this with rfl | rfl | rfl | rfl <;> decide
theorem len_glow : ∀ l : List Int, (l.length : Int) ≤ glow l
  | [] => Int.le_refl _
  | x :: l => by
    have := len_glow l
    have := pw_pos x
    rw [glow_cons, List.length_cons]
    omega
theorem glow_le : ∀ {l : List Int}, Li l → glow l ≤ 8 * l.length
  | [], _ => Int.le_refl _
  | x :: l, h => by
    have := glow_le (l := l) fun y hy => h y (List.mem_cons_of_mem _ hy)
    have := pw_le (h x (List.mem_cons_self ..)).1 (h x (List.mem_cons_self ..)).2
    rw [glow_cons, List.length_cons]
    omega
/-! ### what goes -/
def rem (l gs : List Int) : List Int := gs.foldl List.erase l
def Sub : List Int → List Int → Prop
  | [], _ => True
  | g :: gs, l => g ∈ l ∧ Sub gs (l.erase g)
theorem sub_of : ∀ {gs l : List Int}, gs.Sublist l → Sub gs l
  | [], _, _ => trivial
  | g :: gs, l, h => ⟨h.subset (List.mem_cons_self ..), sub_of (by have := h.erase g; rwa [List.erase_cons_head] at this)⟩
theorem rem_cons (l : List Int) (g : Int) (gs : List Int) : rem l (g :: gs) = rem (l.erase g) gs := rfl
theorem rem_glow : ∀ {gs l : List Int}, Sub gs l → glow l = glow gs + glow (rem l gs)
  | [], l, _ => by rw [glow_nil, Int.zero_add]; rfl
  | g :: gs, l, h => by rw [rem_cons, glow_erase h.1, glow_cons, rem_glow h.2, Int.add_assoc]
theorem rem_len : ∀ {gs l : List Int}, Sub gs l → (rem l gs).length + gs.length = l.length
  | [], l, _ => rfl
  | g :: gs, l, h => by
    have h1 := rem_len h.2
    have h2 := List.length_erase_of_mem h.1
    have h3 := List.length_pos_of_mem h.1
    rw [rem_cons, List.length_cons]
    omega
theorem rem_sub : ∀ {gs l : List Int} {x : Int}, x ∈ rem l gs → x ∈ l
  | [], _, _, h => h
  | g :: gs, l, x, h => List.mem_of_mem_erase (rem_sub (gs := gs) h)
/-! ### deeds -/
def cp (l : List Int) (x : Int) : List Int := fall (rem l [x] ++ [x - 1, x - 1])
def mk (l : List Int) (x : Int) : List Int := fall (rem l [x] ++ [x - 1])
def ag (l s : List Int) (b : Int) : List Int := fall (rem l s ++ [b])
theorem sub_one {l : List Int} {x : Int} (h : x ∈ l) : Sub [x] l := ⟨h, trivial⟩
theorem cp_glow {l : List Int} {x : Int} (h : x ∈ l) (h0 : 0 < x) : glow (cp l x) = glow l := by
  unfold cp
  rw [glow_perm (fall_perm _), glow_app, rem_glow (sub_one h), glow_cons, glow_cons, glow_cons, glow_nil, pw_half h0]
  omega
theorem cp_len {l : List Int} {x : Int} (h : x ∈ l) : (cp l x).length = l.length + 1 := by
  have := rem_len (sub_one h)
  unfold cp
  rw [(fall_perm _).length_eq, List.length_append]
  simp at this ⊢
  omega
theorem li_fall {l : List Int} (h : Li l) : Li (fall l) := fun x hx => h x ((fall_perm l).mem_iff.mp hx)
theorem li_app {a b : List Int} (ha : Li a) (hb : Li b) : Li (a ++ b) := fun x hx => by
  rcases List.mem_append.mp hx with h | h
  · exact ha x h
  · exact hb x h
theorem li_rem {l gs : List Int} (h : Li l) : Li (rem l gs) := fun x hx => h x (rem_sub hx)
theorem cp_li {l : List Int} {x : Int} (hl : Li l) (h : x ∈ l) (h0 : 0 < x) : Li (cp l x) := li_fall (li_app (li_rem hl) fun y hy => by
  have := hl x h
  simp at hy
  omega)
theorem mk_li {l : List Int} {x : Int} (hl : Li l) (h : x ∈ l) (h0 : 0 < x) : Li (mk l x) := li_fall (li_app (li_rem hl) fun y hy => by
  have := hl x h
  simp at hy
  omega)
theorem mk_glow {l : List Int} {x : Int} (h : x ∈ l) (h0 : 0 < x) : glow (mk l x) = glow l - pw (x - 1) := by
  unfold mk
  rw [glow_perm (fall_perm _), glow_app, rem_glow (sub_one h), glow_cons, glow_cons, glow_nil, pw_half h0]
  omega
theorem mk_len {l : List Int} {x : Int} (h : x ∈ l) : (mk l x).length = l.length := by
  have := rem_len (sub_one h)
  unfold mk
  rw [(fall_perm _).length_eq, List.length_append]
  simp at this ⊢
  omega
theorem ag_li {l s : List Int} {b : Int} (hl : Li l) (hb : 0 ≤ b ∧ b < 4) : Li (ag l s b) := li_fall (li_app (li_rem hl) fun y hy => by
  simp at hy
  omega)
theorem ag_glow {l s : List Int} {b : Int} (h : s.Sublist l) : glow (ag l s b) = glow l - glow s + pw b := by
  unfold ag
  rw [glow_perm (fall_perm _), glow_app, rem_glow (sub_of h), glow_cons, glow_nil]
  omega
theorem ag_len {l s : List Int} {b : Int} (h : s.Sublist l) : (ag l s b).length ≤ l.length + 1 := by
  have := rem_len (sub_of h)
  unfold ag
  rw [(fall_perm _).length_eq, List.length_append, List.length_singleton]
  omega
/-! ### rows of copies -/
def run : List Int → List Int → List Int
  | l, [] => l
  | l, x :: r => run (cp l x) r
def okRun : List Int → List Int → Prop
  | _, [] => True
  | l, x :: r => x ∈ l ∧ 0 < x ∧ okRun (cp l x) r
theorem run_snoc : ∀ (l r : List Int) (x : Int), run l (r ++ [x]) = cp (run l r) x
  | l, [], x => rfl
  | l, y :: r, x => run_snoc (cp l y) r x
theorem ok_snoc : ∀ {l r : List Int} {x : Int}, okRun l r → x ∈ run l r → 0 < x → okRun l (r ++ [x])
  | l, [], x, _, h1, h2 => ⟨h1, h2, trivial⟩
  | l, y :: r, x, h, h1, h2 => ⟨h.1, h.2.1, ok_snoc h.2.2 h1 h2⟩
theorem run_glow : ∀ {l r : List Int}, okRun l r → glow (run l r) = glow l
  | l, [], _ => rfl
  | l, y :: r, h => (run_glow (r := r) h.2.2).trans (cp_glow h.1 h.2.1)
theorem run_len : ∀ {l r : List Int}, okRun l r → (run l r).length = l.length + r.length
  | l, [], _ => rfl
  | l, y :: r, h => by
    have h1 := run_len (r := r) h.2.2
    rw [cp_len h.1] at h1
    show (run (cp l y) r).length = _
    rw [h1, List.length_cons]
    omega
theorem run_li : ∀ {l r : List Int}, Li l → okRun l r → Li (run l r)
  | l, [], h, _ => h
  | l, y :: r, hl, h => run_li (r := r) (cp_li hl h.1 h.2.1) h.2.2
def dark (l : List Int) : Prop := ∀ x ∈ l, x = 0
theorem dark_rep : ∀ {l : List Int}, dark l → l = List.replicate l.length 0
  | [], _ => rfl
  | x :: l, h => by
    rw [List.length_cons, List.replicate_succ, ← dark_rep (l := l) fun y hy => h y (List.mem_cons_of_mem _ hy), h x (List.mem_cons_self ..)]
theorem dark_glow : ∀ {l : List Int}, dark l → glow l = l.length
  | [], _ => rfl
  | x :: l, h => by
    rw [glow_cons, dark_glow (l := l) fun y hy => h y (List.mem_cons_of_mem _ hy), h x (List.mem_cons_self ..), List.length_cons]
    show (1 : Int) + _ = _
    omega
/-- the first is the most: dark if it is -/
theorem dark_of {x : Int} {l : List Int} (hl : Li (x :: l)) (hp : (x :: l).Pairwise (fun a b => b ≤ a)) (h : ¬ 0 < x) : dark (x :: l) := fun y hy => by
  have h1 := (hl y hy).1
  rcases List.mem_cons.mp hy with rfl | hy
  · omega
  · have := (List.pairwise_cons.mp hp).1 y hy
    omega
/-- the row is out: as many copies as lack -/
theorem out_len {l r : List Int} (h : okRun l r) (hd : dark (run l r)) : (r.length : Int) = glow l - l.length ∧ run l r = List.replicate (glow l).toNat 0 := by
  have h1 := run_glow h
  have h2 := run_len h
  have h3 := dark_glow hd
  have h4 := dark_rep hd
  have h5 : glow l = ((l.length + r.length : Nat) : Int) := by rw [← h1, h3, h2]
  refine ⟨by omega, ?_⟩
  rw [h4, h5, h2]
  rfl
theorem run_room {l r : List Int} (hl : Li l) (h : okRun l r) (h6 : l.length ≤ 6) : (run l r).length ≤ 48 := by
  have h1 := len_glow (run l r)
  rw [run_glow h] at h1
  have h2 := glow_le hl
  omega
theorem row_room {l r : List Int} (hl : Li l) (h : okRun l r) (h6 : l.length ≤ 6) : r.length ≤ 48 := by
  have := run_room hl h h6
  have := run_len h
  omega
/-- data made of what a function gives -/
theorem of_map {α : Type} {P : α → Prop} {f : α → D} : ∀ {l : List D}, (∀ z ∈ l, ∃ a, P a ∧ z = f a) → ∃ as : List α, l = as.map f ∧ ∀ a ∈ as, P a
  | [], _ => ⟨[], rfl, by simp⟩
  | z :: l, h => by
    obtain ⟨a, h1, rfl⟩ := h z (List.mem_cons_self ..)
    obtain ⟨as, rfl, h2⟩ := of_map (l := l) fun y hy => h y (List.mem_cons_of_mem _ hy)
    exact ⟨a :: as, rfl, fun b hb => by
      rcases List.mem_cons.mp hb with rfl | hb
      · exact h1
      · exact h2 b hb⟩
end K34
set_option maxHeartbeats 2000000
/-! N34: what k34's defs compute, the small ones. -/
namespace K34
open PySem Z
variable {o : MO} {k : Nat}
abbrev pds : List Fd := defs.map purFd
theorem u_ints (l : List Int) : U (tI l) := us_ints l
theorem is_number (ok : OkO o) {n : Int} (h : 0 ≤ n) : progP pds (k + 1) 0 [.int n] [o] = .ok (.bl true) [o] := by
  refine call_at (f := f_is_number) rfl rfl ?_ rfl ok
  simp [f_is_number, b_is_number, h]
theorem falls_all : ∀ {l : List Int}, l.Pairwise (fun a b => b ≤ a) → ∀ p ∈ l.zip (l.drop 1), p.2 ≤ p.1
  | [], _, p, hp => by simp at hp
  | [x], _, p, hp => by simp at hp
  | x :: y :: r, h, p, hp => by
    rw [List.drop_succ_cons, List.drop_zero, List.zip_cons_cons] at hp
    have hc := List.pairwise_cons.mp h
    rcases List.mem_cons.mp hp with rfl | hp
    · exact hc.1 y (List.mem_cons_self ..)
    · exact falls_all (l := y :: r) hc.2 p (by rw [List.drop_succ_cons, List.drop_zero]; exact hp)
theorem is_bunch (ok : OkO o) {ns : List Int} (h0 : ∀ n ∈ ns, 0 ≤ n) (h : ns.Pairwise (fun a b => b ≤ a)) : progP pds (k + 2) 1 [tI ns] [o] = .ok (.bl true) [o] := by
  refine call_at (f := f_is_bunch) rfl rfl ?_ rfl ok
  have c1 : compD (progP pds (k + 1)) [1, 2] (.call 0 (.cons (.var 2) .nil)) (.nm 2) .nil ⟨ns.map D.int, none⟩ [some (tI ns), none, none, none] [o] = .ok (ns.map fun _ => .bl true) [o] :=
    comp_all D.int (fun _ => .bl true) fun n hn => ⟨_, rfl, by simp [wipe, is_number ok (h0 n hn)]⟩
  have c2 : compD (progP pds (k + 1)) [1, 2, 3] (.cmp .GtE (.var 2) (.var 3)) (.tp (.cons (.nm 2) (.cons (.nm 3) .nil))) .nil ⟨(ns.zip (ns.drop 1)).map fun p => D.tup [.int p.1, .int p.2], none⟩ [some (tI ns), none, none, none] [o] = .ok ((ns.zip (ns.drop 1)).map fun _ => .bl true) [o] :=
    comp_all (fun p : Int × Int => D.tup [.int p.1, .int p.2]) (fun _ => .bl true) fun p hp => ⟨[some (tI ns), none, some (.int p.1), some (.int p.2)], by simp [wipe], by simp [falls_all h p hp]⟩
  have e1 : cutD [o] (tI ns) (some 1) none = some (tI (ns.drop 1)) := by
    show cutD [o] (.tup (ns.map D.int)) (some 1) none = some (.tup ((ns.drop 1).map D.int))
    rw [show (1 : Int) = ((1 : Nat) : Int) from rfl, cut_from, List.map_drop]
  have tr : ∀ {α : Type} (l : List α), (l.map fun _ => true).all id = true := fun l => by simp
  simp [-List.map_map, -List.drop_one, -List.map_drop, f_is_bunch, b_is_bunch, c1, e1, zip_ints, c2]
theorem dark_ones (ok : OkO o) {n : Int} (h0 : 0 ≤ n) (h4 : n < 4) : progP pds (k + 1) 2 [.int n] [o] = .ok (.int (pw n)) [o] := by
  refine call_at (f := f_dark_ones) rfl rfl ?_ rfl ok
  have cases : n = 0 ∨ n = 1 ∨ n = 2 ∨ n = 3 := by omega
  have h63 : ∀ j : Int, 0 ≤ j → j < 4 → rngS (.int j) [o] = .ok ⟨(List.range j.toNat).map fun (k : Nat) => D.int (k : Int), none⟩ [o] := fun j a b => rng_small a (by omega)
  have au : ∀ (a : Int) (e : Z.Env), a < 2 ^ 60 → -(2 ^ 60) < a → augF .Mult 1 (.int a) e (.int 2) [o] = .nx (e.set 1 (some (.int (a * 2)))) [o] := fun a e h1 h2 => by
    unfold augF augD
    have : smallMul a 2 = true := by unfold smallMul; simp
    simp only [this, if_true]
  rcases cases with rfl | rfl | rfl | rfl
  · simp [f_dark_ones, b_dark_ones, h63, forGo, pw]
  · simp [f_dark_ones, b_dark_ones, h63, forGo, List.range_succ, x_aug, au, pw]
  · simp [f_dark_ones, b_dark_ones, h63, forGo, List.range_succ, x_aug, au, pw]
  · simp [f_dark_ones, b_dark_ones, h63, forGo, List.range_succ, x_aug, au, pw]
theorem glow_of (ok : OkO o) {ns : List Int} (h : Li ns) : progP pds (k + 2) 3 [tI ns] [o] = .ok (.int (glow ns)) [o] := by
  refine call_at (f := f_glow_of) rfl rfl ?_ rfl ok
  have c1 : compD (progP pds (k + 1)) [1, 2] (.call 2 (.cons (.var 2) .nil)) (.nm 2) .nil ⟨ns.map D.int, none⟩ [some (tI ns), none, none] [o] = .ok (ns.map fun n => .int (pw n)) [o] :=
    comp_all D.int (fun n => .int (pw n)) fun n hn => ⟨_, rfl, by simp [wipe, dark_ones ok (h n hn).1 (h n hn).2]⟩
  simp [-List.map_map, f_glow_of, b_glow_of, c1, glow]
theorem srtR_tup {m : Mem} (ns : List Int) : srtRD m (tI ns) = some (.lst ((fall ns).map D.int)) := by
  unfold srtRD
  simp only [rdS, asInts_map, Option.map_some]
  rfl
theorem as_bunch_t (ok : OkO o) (ns : List Int) : progP pds (k + 1) 4 [tI ns] [o] = .ok (tI (fall ns)) [o] := by
  refine call_at (f := f_as_bunch) rfl rfl ?_ (u_ints _) ok
  simp [-List.map_reverse, f_as_bunch, b_as_bunch, srtR_tup]
theorem as_bunch_l (ok : OkO o) (ns : List Int) : progP pds (k + 1) 4 [.lst (ns.map D.int)] [o] = .ok (tI (fall ns)) [o] := by
  refine call_at (f := f_as_bunch) rfl rfl ?_ (u_ints _) ok
  have e := srtR_lst (m := [o]) ns
  simp [-List.map_reverse, f_as_bunch, b_as_bunch, e, fall]
/-! ### without some -/
theorem any_eqv (x : Int) : ∀ l : List Int, ((l.map PyData.int).any fun z => PyData.eqv z (.int x)) = decide (x ∈ l)
  | [] => by simp
  | y :: l => by
    rw [List.map_cons, List.any_cons, any_eqv x l]
    have : PyData.eqv (.int y) (.int x) = decide (y = x) := by
      rw [Bool.eq_iff_iff]
      simp [PyData.eqv]
    rw [this, Bool.eq_iff_iff, Bool.or_eq_true, decide_eq_true_eq, decide_eq_true_eq, decide_eq_true_eq, List.mem_cons]
    exact ⟨fun h => h.imp Eq.symm id, fun h => h.imp Eq.symm id⟩
theorem in_lst {m : Mem} (x : Int) (l : List Int) : inD m (.int x) (.lst (l.map D.int)) = some (decide (x ∈ l)) := by
  show (match pyOf m (.int x), pyOf m (.lst (l.map D.int)) with | some x, some (.list ys) => _ | some x, some (.tuple ys) => _ | _, _ => _) = _
  have e1 : pyOf m (.int x) = some (.int x) := rfl
  have e2 : pyOf m (.lst (l.map D.int)) = some (.list (l.map PyData.int)) := by
    show toPy (.lst (l.map D.int)) = _
    rw [toPy, toPys_ints]
  rw [e1, e2]
  dsimp only
  rw [any_eqv]
  unfold SeqAt.shaped
  simp only [PyData.canLay0, lay_ints, PyData.depth, dep_ints]
  rfl
theorem in_tup {m : Mem} (x : Int) (l : List Int) : inD m (.int x) (tI l) = some (decide (x ∈ l)) := by
  show (match pyOf m (.int x), pyOf m (.tup (l.map D.int)) with | some x, some (.list ys) => _ | some x, some (.tuple ys) => _ | _, _ => _) = _
  have e1 : pyOf m (.int x) = some (.int x) := rfl
  have e2 : pyOf m (.tup (l.map D.int)) = some (.tuple (l.map PyData.int)) := by
    show toPy (.tup (l.map D.int)) = _
    rw [toPy, toPys_ints]
  rw [e1, e2]
  dsimp only
  rw [any_eqv]
  unfold SeqAt.shaped
  simp only [PyData.canLay0, lay_ints, PyData.depth, dep_ints]
  rfl
def bWo : Ss := .cons (.ite (.cmp .NotIn (.var 3) (.var 2)) (.cons (.ret (.con .non)) .nil) .nil) (.cons (.meth none 2 .remove (.cons (.var 3) .nil)) .nil)
def bW : Ss := .cons (.set 2 (.bi .list (.cons (.var 0) .nil))) (.cons (.for_ (.nm 3) (.var 1) bWo) (.cons (.ret (.bi .tuple (.cons (.var 2) .nil))) .nil))
def fW : Fd := { f_bunch_without with b := bW }
theorem fW_eq : pds[5]? = some fW := rfl
theorem wo_loop {G : Sg} (a b : Option D) : ∀ (gs l : List Int) (c : Option D), Sub gs l → ∃ c', forGo (fun _ => true) (fun e m => execSs G bWo e m) (.nm 3) (gs.map D.int) [a, b, some (.lst (l.map D.int)), c] [o] = .nx [a, b, some (.lst ((rem l gs).map D.int)), c'] [o]
  | [], l, c, _ => ⟨c, by rw [List.map_nil]; unfold forGo; exact if_pos rfl⟩
  | g :: gs, l, c, h => by
    obtain ⟨c', ih⟩ := wo_loop (G := G) a b gs (l.erase g) (some (.int g)) h.2
    refine ⟨c', ?_⟩
    rw [List.map_cons]
    unfold forGo
    rw [if_pos rfl, bind_nm]
    dsimp only
    have ni : ∀ m : Mem, cmpD .NotIn m (.int g) (.lst (l.map D.int)) = some false := fun m => by
      show (inD m _ _).map _ = _
      rw [in_lst, decide_eq_true h.1]; rfl
    have one : execSs G bWo [a, b, some (.lst (l.map D.int)), some (.int g)] [o] = .nx [a, b, some (.lst ((l.erase g).map D.int)), some (.int g)] [o] := by
      unfold bWo
      rw [xs_cons, x_ite, evt, ev_cmp]
      simp only [ev_var, List.getD_cons_succ, List.getD_cons_zero, lift_some, Out.bind_ok, ni, Option.map_some, asBl_bl, Out.fl_ok, Bool.false_eq_true, if_false, xs_nil, Fl.andThen_nx]
      rw [xs_cons, x_meth none 2 .remove _ (xs := l.map D.int) rfl]
      simp only [evs_cons, evs_nil, ev_var, List.getD_cons_succ, List.getD_cons_zero, lift_some, Out.bind_ok, Out.fl_ok, methF, mtV_rem h.1, setO, List.set_cons_succ, List.set_cons_zero, xs_nil, Fl.andThen_nx]
    rw [show ([a, b, some (D.lst (l.map D.int)), c] : Z.Env).set 3 (some (.int g)) = [a, b, some (.lst (l.map D.int)), some (.int g)] from rfl, one]
    exact ih
theorem without (ok : OkO o) {l gs : List Int} (h : Sub gs l) : progP pds (k + 1) 5 [tI l, tI gs] [o] = .ok (tI (rem l gs)) [o] := by
  refine call_at (f := fW) fW_eq rfl ?_ (u_ints _) ok
  obtain ⟨c', lp⟩ := wo_loop (o := o) (G := progP pds k) (some (tI l)) (some (tI gs)) gs l none h
  show (execSs (progP pds k) bW [some (tI l), some (tI gs), none, none] [o]).out = _
  simp [bW, lp]
end K34
set_option maxHeartbeats 2000000
/-! O34: picks and deeds. -/
namespace K34
open PySem Z
variable {o : MO} {k : Nat}
theorem enum_ints (l : List Int) : enumS (tI l) = some ⟨(List.range l.length).map fun (i : Nat) => D.tup [.int (i : Int), .int (l.getD i 0)], none⟩ := by
  show some (Src.mk (((l.map D.int).zipIdx).map fun p => D.tup [.int (p.2 : Int), p.1]) none) = _
  congr 2
  apply List.ext_getElem
  · simp
  · intro i h1 h2
    have hi : i < l.length := by simpa using h1
    simp [List.getD_eq_getElem?_getD, List.getElem?_eq_getElem hi]
def cA : C := .comp [5, 6] (.bin .Add (.tup (.cons (.var 4) .nil)) (.var 6)) (.nm 6) (.call 6 (.cons (.cut (.var 0) (.some (.bin .Add (.var 3) (.con (.int 1)))) .none) (.cons (.bin .Sub (.var 1) (.con (.int 1))) .nil))) .nil
def tA : C := .or (.cmp .Eq (.var 3) (.con (.int 0))) (.cmp .NotEq (.sub (.var 0) (.bin .Sub (.var 3) (.con (.int 1)))) (.var 4))
def bPl : Ss := .cons (.ite tA (.cons (.meth none 2 .extend (.cons cA .nil)) .nil) .nil) .nil
def bP : Ss := .cons (.ite (.cmp .Eq (.var 1) (.con (.int 0))) (.cons (.ret (.lst (.cons (.tup .nil) .nil))) .nil) .nil) (.cons (.set 2 (.lst .nil)) (.cons (.for_ (.tp (.cons (.nm 3) (.cons (.nm 4) .nil))) (.enum (.var 0)) bPl) (.cons (.ret (.var 2)) .nil)))
def fP : Fd := { f_agreed_picks with b := bP }
theorem fP_eq : pds[6]? = some fP := rfl
theorem test_ok {G : Sg} (l : List Int) (b c : Option D) {i : Nat} {x : Int} (hi : i < l.length) (f g : Option D) : ∃ q, evalC G tA [some (tI l), b, c, some (.int (i : Int)), some (.int x), f, g] [o] = .ok (.bl q) [o] := by
  cases i with
  | zero => exact ⟨true, by simp [tA]⟩
  | succ i =>
    refine ⟨!decide (l.getD i 0 = x), ?_⟩
    have e := subI (m := [o]) (l := l) (i := i) (by omega)
    have e0 : ¬ ((i : Int) + 1 = 0) := by omega
    have e1 : ((i : Int) + 1 - 1) = (i : Int) := by omega
    simp [tA, e0, e1, e]
structure PickOk (l : List Int) (n : Nat) (F : List (List Int)) : Prop where
  each : ∀ s ∈ F, s.Sublist l ∧ s.length = n
def tL (F : List (List Int)) : D := .lst (F.map tI)
theorem pick_loop {G : Sg} (l : List Int) (n : Nat) (hr : ∀ j, ∃ L, G 6 [tI (l.drop j), .int (n : Int)] [o] = .ok (tL L) [o] ∧ PickOk (l.drop j) n L ∧ L.length ≤ 48 ^ n) (hl : l.length ≤ 48) : ∀ (is : List Nat) (F : List (List Int)) (a b : Option D), (∀ i ∈ is, i < l.length) → PickOk l (n + 1) F → F.length + is.length * 48 ^ n ≤ 8000000 →
    ∃ F' a' b', forGo (fun _ => true) (fun e m => execSs G bPl e m) (.tp (.cons (.nm 3) (.cons (.nm 4) .nil))) (is.map fun (i : Nat) => D.tup [.int (i : Int), .int (l.getD i 0)]) [some (tI l), some (.int ((n : Int) + 1)), some (tL F), a, b, none, none] [o] = .nx [some (tI l), some (.int ((n : Int) + 1)), some (tL F'), a', b', none, none] [o] ∧ PickOk l (n + 1) F' ∧ F'.length ≤ F.length + is.length * 48 ^ n
  | [], F, a, b, _, h, _ => ⟨F, a, b, by rw [List.map_nil]; unfold forGo; exact if_pos rfl, h, by omega⟩
  | i :: is, F, a, b, hi, h, hz => by
    have h0 := hi i (List.mem_cons_self ..)
    obtain ⟨q, ht⟩ := test_ok (o := o) (G := G) l (some (.int ((n : Int) + 1))) (some (tL F)) (x := l.getD i 0) h0 none none
    obtain ⟨L, e1, p1, z1⟩ := hr (i + 1)
    have hc : cutD [o] (tI l) (some ((i : Int) + 1)) none = some (tI (l.drop (i + 1))) := by
      show cutD [o] (.tup (l.map D.int)) (some ((i : Int) + 1)) none = some (.tup ((l.drop (i + 1)).map D.int))
      rw [show (i : Int) + 1 = ((i + 1 : Nat) : Int) by omega, cut_from, List.map_drop]
    have hn : ((n : Int) + 1 - 1) = (n : Int) := by omega
    have cc : compD G [5, 6] (.bin .Add (.tup (.cons (.var 4) .nil)) (.var 6)) (.nm 6) .nil ⟨L.map tI, none⟩ [some (tI l), some (.int ((n : Int) + 1)), some (tL F), some (.int (i : Int)), some (.int (l.getD i 0)), none, none] [o] = .ok (L.map fun s => tI (l.getD i 0 :: s)) [o] :=
      comp_all tI (fun s => tI (l.getD i 0 :: s)) fun s hs => ⟨[some (tI l), some (.int ((n : Int) + 1)), some (tL F), some (.int (i : Int)), some (.int (l.getD i 0)), none, some (tI s)], by simp [wipe], by
        have hsl := (p1.each s hs).1.length_le
        have ha : binD .Add [o] (.tup [.int (l.getD i 0)]) (.tup (s.map D.int)) = some (.tup ([.int (l.getD i 0)] ++ s.map D.int)) := binD_tup (by rw [sizeLine_eq, List.length_map]; rw [List.length_drop] at hsl; simp; omega)
        simp only [ev_bin, ev_tup, evs_cons, evs_nil, ev_var, List.getD_cons_succ, List.getD_cons_zero, lift_some, Out.bind_ok, ha]
        rfl⟩
    have sl : srcOf [o] (tL L) = some ⟨L.map tI, none⟩ := rfl
    have ec : evalC G cA [some (tI l), some (.int ((n : Int) + 1)), some (tL F), some (.int (i : Int)), some (.int (l.getD i 0)), none, none] [o] = .ok (tL (L.map fun s => l.getD i 0 :: s)) [o] := by
      unfold cA
      simp only [ev_comp, evi_call, ev_call, evs_cons, evs_nil, ev_cut, ev_var, ev_bin, ev_con, evo_some, evo_none, List.getD_cons_zero, List.getD_cons_succ, lift_some, Out.bind_ok, binD_add, binD_sub, asIx_int, hc, hn, e1, sl, cc]
      unfold tL
      rw [List.map_map]; rfl
    have hd : l.drop i = l.getD i 0 :: l.drop (i + 1) := by
      rw [List.drop_eq_getElem_cons h0, List.getD_eq_getElem?_getD, List.getElem?_eq_getElem h0]; rfl
    have p2 : PickOk l (n + 1) (F ++ L.map fun s => l.getD i 0 :: s) := ⟨fun s hs => by
      rcases List.mem_append.mp hs with hs | hs
      · exact h.each s hs
      · obtain ⟨s', h1, rfl⟩ := List.mem_map.mp hs
        have h2 := p1.each s' h1
        exact ⟨(h2.1.cons₂ (l.getD i 0)).trans (by rw [← hd]; exact List.drop_sublist ..), by rw [List.length_cons, h2.2]⟩⟩
    have ez : (i :: is).length * 48 ^ n = is.length * 48 ^ n + 48 ^ n := by rw [List.length_cons, Nat.add_mul, Nat.one_mul]
    rw [ez] at hz ⊢
    have bd : T.bind (.tp (.cons (.nm 3) (.cons (.nm 4) .nil))) (.tup [.int (i : Int), .int (l.getD i 0)]) [some (tI l), some (.int ((n : Int) + 1)), some (tL F), a, b, none, none] = some [some (tI l), some (.int ((n : Int) + 1)), some (tL F), some (.int (i : Int)), some (.int (l.getD i 0)), none, none] := by
      simp
    rw [List.map_cons]
    cases q with
    | false =>
      obtain ⟨F', a', b', r1, r2, r3⟩ := pick_loop l n hr hl is F (some (.int (i : Int))) (some (.int (l.getD i 0))) (fun j hj => hi j (List.mem_cons_of_mem _ hj)) h (by omega)
      refine ⟨F', a', b', ?_, r2, by omega⟩
      unfold forGo
      rw [if_pos rfl, bd]
      dsimp only
      have one : execSs G bPl [some (tI l), some (.int ((n : Int) + 1)), some (tL F), some (.int (i : Int)), some (.int (l.getD i 0)), none, none] [o] = .nx [some (tI l), some (.int ((n : Int) + 1)), some (tL F), some (.int (i : Int)), some (.int (l.getD i 0)), none, none] [o] := by
        unfold bPl
        rw [xs_cons, x_ite, evt, ht, Out.bind_ok, asBl_bl, Out.fl_ok, if_neg Bool.false_ne_true, xs_nil, Fl.andThen_nx, xs_nil]
      rw [one]
      exact r1
    | true =>
      obtain ⟨F', a', b', r1, r2, r3⟩ := pick_loop l n hr hl is (F ++ L.map fun s => l.getD i 0 :: s) (some (.int (i : Int))) (some (.int (l.getD i 0))) (fun j hj => hi j (List.mem_cons_of_mem _ hj)) p2 (by rw [List.length_append, List.length_map]; omega)
      refine ⟨F', a', b', ?_, r2, by rw [List.length_append, List.length_map] at r3; omega⟩
      unfold forGo
      rw [if_pos rfl, bd]
      dsimp only
      have one : execSs G bPl [some (tI l), some (.int ((n : Int) + 1)), some (tL F), some (.int (i : Int)), some (.int (l.getD i 0)), none, none] [o] = .nx [some (tI l), some (.int ((n : Int) + 1)), some (tL (F ++ L.map fun s => l.getD i 0 :: s)), some (.int (i : Int)), some (.int (l.getD i 0)), none, none] [o] := by
        have hx : mtV .extend (F.map tI) [tL (L.map fun s => l.getD i 0 :: s)] = some (.non, (F ++ L.map fun s => l.getD i 0 :: s).map tI) := by
          unfold tL
          rw [mtV_ext (by rw [sizeLine_eq, List.length_map, List.length_map, List.length_map]; omega), List.map_append]
        unfold bPl
        rw [xs_cons, x_ite, evt, ht, Out.bind_ok, asBl_bl, Out.fl_ok, if_pos rfl, xs_cons, x_meth none 2 .extend _ (xs := F.map tI) rfl, evs_cons, ec, Out.bind_ok, evs_nil, Out.bind_ok, Out.fl_ok]
        simp only [methF, hx, setO, List.set_cons_succ, List.set_cons_zero, xs_nil, Fl.andThen_nx]
        rfl
      rw [one]
      exact r1
theorem u_tL (F : List (List Int)) : U (tL F) := us_iff.mpr fun d hd => by
  obtain ⟨s, _, rfl⟩ := List.mem_map.mp hd
  exact u_ints s
theorem picks (ok : OkO o) : ∀ (n : Nat) (k : Nat) (l : List Int), n ≤ 4 → l.length ≤ 48 → ∃ L, progP pds (k + n + 1) 6 [tI l, .int (n : Int)] [o] = .ok (tL L) [o] ∧ PickOk l n L ∧ L.length ≤ 48 ^ n
  | 0, k, l, _, _ => by
    refine ⟨[[]], call_at (f := fP) fP_eq rfl ?_ (u_tL _) ok, ⟨fun s hs => by rw [List.mem_singleton.mp hs]; exact ⟨List.nil_sublist _, rfl⟩⟩, by decide⟩
    show (execSs (progP pds k) bP [some (tI l), some (.int 0), none, none, none, none, none] [o]).out = _
    simp [bP, tL]
  | n + 1, k, l, hn, hl => by
    have hp : 48 ^ n ≤ 48 ^ 3 := Nat.pow_le_pow_right (by decide) (by omega)
    obtain ⟨F', a', b', r1, r2, r3⟩ := pick_loop (o := o) (G := progP pds (k + n + 1)) l n (fun j => picks ok n k (l.drop j) (by omega) (by rw [List.length_drop]; omega)) hl (List.range l.length) [] none none (fun i hi => List.mem_range.mp hi) ⟨by simp⟩ (by
      rw [List.length_range, List.length_nil]
      have := Nat.mul_le_mul hl hp
      omega)
    rw [List.length_range, List.length_nil, Nat.zero_add] at r3
    refine ⟨F', ?_, r2, Nat.le_trans r3 (by rw [Nat.pow_succ, Nat.mul_comm (48 ^ n)]; exact Nat.mul_le_mul_right _ hl)⟩
    refine call_at (k := k + n + 1) (f := fP) fP_eq rfl ?_ (u_tL _) ok
    show (execSs (progP pds (k + n + 1)) bP [some (tI l), some (.int ((n + 1 : Nat) : Int)), none, none, none, none, none] [o]).out = _
    have en : ((n + 1 : Nat) : Int) = (n : Int) + 1 := by omega
    have ne : ¬ ((n : Int) + 1 = 0) := by omega
    have hnil : tL [] = .lst [] := rfl
    rw [hnil] at r1
    rw [en]
    unfold bP
    simp only [xs_cons, x_ite, evt, ev_cmp, ev_var, ev_con, List.getD_cons_zero, List.getD_cons_succ, lift_some, Out.bind_ok, cmpD_eq, eqD_int, decide_eq_false ne, Option.map_some, asBl_bl, Out.fl_ok, Bool.false_eq_true, if_false, xs_nil, Fl.andThen_nx, x_set, ev_lst, evs_nil, List.set_cons_succ, List.set_cons_zero, x_for, evi_enum, enum_ints, loopF_eq, stays0, r1, x_ret, Fl.andThen_rt, out_rt]
end K34
set_option maxHeartbeats 2000000
/-! P34: all deeds at a bunch, a deed done. -/
namespace K34
open PySem Z
variable {o : MO} {k : Nat}
inductive Dd where
  | ag (s : List Int) | cp (x : Int) | mk (x : Int)
abbrev cpd (x : Int) : D := .tup [.str "copy", .int x]
def Dd.d : Dd → D
  | .ag s => .tup [.str "agree", tI s]
  | .cp x => .tup [.str "copy", .int x]
  | .mk x => .tup [.str "make", .int x]
def Dd.ok (l : List Int) (n : Nat) : Dd → Prop
  | .ag s => s.Sublist l ∧ s.length = n
  | .cp x => x ∈ l ∧ 0 < x
  | .mk x => x ∈ l ∧ 0 < x
def Dd.go (l : List Int) (b : Int) : Dd → List Int
  | .ag s => K34.ag l s b
  | .cp x => K34.cp l x
  | .mk x => K34.mk l x
def Dd.py : Dd → PyData
  | .ag s => .tuple [.str "agree", .tuple (s.map PyData.int)]
  | .cp x => .tuple [.str "copy", .int x]
  | .mk x => .tuple [.str "make", .int x]
theorem Dd.toPy (q : Dd) : Z.toPy q.d = some q.py := by
  cases q <;> simp [Dd.d, Dd.py, Z.toPy, toPys, toPys_ints]
theorem Dd.pyd (q : Dd) : Z.pyd q.d = q.py := by unfold Z.pyd; rw [q.toPy]
theorem w1 : ("agree" : Str) ≠ "copy" := by decide +kernel
theorem w2 : ("agree" : Str) ≠ "make" := by decide +kernel
theorem w3 : ("copy" : Str) ≠ "make" := by decide +kernel
theorem alk_ints : ∀ a b : List Int, PySem.W.alikeAll (a.map PyData.int) (b.map PyData.int) = true
  | [], _ => by simp [PySem.W.alikeAll]
  | _ :: _, [] => by simp [PySem.W.alikeAll]
  | x :: a, y :: b => by simp [PySem.W.alikeAll, PySem.W.alike, alk_ints a b]
theorem rows_pre (a b : Dd) : rowPre a.py b.py = true := by
  cases a <;> cases b <;> simp [Dd.py, rowPre, preAll, PySem.W.alike, PyData.eqv, alk_ints, w1, w2, w3, Ne.symm w1, Ne.symm w2, Ne.symm w3]
theorem Dd.dep (q : Dd) : q.py.depth ≤ 60 := by
  cases q with
  | ag s =>
    have := dep_ints s
    simp [Dd.py, PyData.depth, PyData.depthAll, this]
  | cp x => simp [Dd.py, PyData.depth, PyData.depthAll]
  | mk x => simp [Dd.py, PyData.depth, PyData.depthAll]
theorem srt_ok (F : List Dd) : sortOk (F.map Dd.d) = true := by
  unfold sortOk
  rw [Bool.and_eq_true, Bool.or_eq_true]
  refine ⟨?_, .inr ?_⟩
  · rw [List.all_eq_true]
    intro z hz
    obtain ⟨q, _, rfl⟩ := List.mem_map.mp hz
    rw [q.toPy, q.pyd, decide_eq_true q.dep]; rfl
  · rw [List.all_eq_true]
    intro z hz
    obtain ⟨q, _, rfl⟩ := List.mem_map.mp hz
    rw [List.all_eq_true]
    intro y hy
    obtain ⟨p, _, rfl⟩ := List.mem_map.mp hy
    rw [q.pyd, p.pyd, rows_pre]
theorem Dd.u (q : Dd) : U q.d := by
  cases q with
  | ag s =>
    refine us_iff.mpr fun d hd => ?_
    rcases List.mem_cons.mp hd with h | h
    · subst h; rfl
    · rw [List.mem_singleton.mp h]; exact u_ints s
  | cp x => rfl
  | mk x => rfl
theorem us_of {l : List D} (h : ∀ d ∈ l, U d) : Us l := us_iff.mpr h
def bDl : Ss := .cons (.meth none 3 .extend (.cons (.lst (.cons (.tup (.cons (.con (.str "copy")) (.cons (.var 4) .nil))) (.cons (.tup (.cons (.con (.str "make")) (.cons (.var 4) .nil))) .nil))) .nil)) .nil
def cD : C := .comp [5, 6] (.tup (.cons (.con (.str "agree")) (.cons (.var 6) .nil))) (.nm 6) (.call 6 (.cons (.var 0) (.cons (.var 1) .nil))) .nil
def sD : C := .srtc [5, 4] (.var 4) (.nm 4) (.var 0) (.cons (.cmp .Gt (.var 4) (.con (.int 0))) .nil)
def bD : Ss := .cons (.set 3 cD) (.cons (.for_ (.nm 4) sD bDl) (.cons (.ret (.bi .tuple (.cons (.bi .sorted (.cons (.var 3) .nil)) .nil))) .nil))
def fD : Fd := { f_bunch_deeds with b := bD }
theorem fD_eq : pds[7]? = some fD := rfl
def dl (F : List Dd) : D := .lst (F.map Dd.d)
theorem deed_loop {G : Sg} (a0 a1 a2 : Option D) : ∀ (xs : List Int) (F : List Dd) (a : Option D), F.length + 2 * xs.length ≤ 9000000 → ∃ a', forGo (fun _ => true) (fun e m => execSs G bDl e m) (.nm 4) (xs.map D.int) [a0, a1, a2, some (dl F), a, none, none] [o] = .nx [a0, a1, a2, some (dl (F ++ xs.flatMap fun x => [Dd.cp x, Dd.mk x])), a', none, none] [o]
  | [], F, a, _ => ⟨a, by
    rw [List.map_nil, List.flatMap_nil, List.append_nil]; unfold forGo; exact if_pos rfl⟩
  | x :: xs, F, a, h => by
    obtain ⟨a', ih⟩ := deed_loop (G := G) a0 a1 a2 xs (F ++ [Dd.cp x, Dd.mk x]) (some (.int x)) (by rw [List.length_append]; simp at h ⊢; omega)
    refine ⟨a', ?_⟩
    rw [List.map_cons]
    unfold forGo
    rw [if_pos rfl, bind_nm]
    dsimp only
    have one : execSs G bDl [a0, a1, a2, some (dl F), some (.int x), none, none] [o] = .nx [a0, a1, a2, some (dl (F ++ [Dd.cp x, Dd.mk x])), some (.int x), none, none] [o] := by
      have hx : mtV .extend (F.map Dd.d) [.lst [.tup [.str "copy", .int x], .tup [.str "make", .int x]]] = some (.non, (F ++ [Dd.cp x, Dd.mk x]).map Dd.d) := by
        rw [mtV_ext (by rw [sizeLine_eq, List.length_map]; simp at h ⊢; omega), List.map_append]; rfl
      unfold bDl
      rw [xs_cons, x_meth none 3 .extend _ (xs := F.map Dd.d) rfl]
      simp only [evs_cons, evs_nil, ev_lst, ev_tup, ev_con, ev_var, List.getD_cons_succ, List.getD_cons_zero, lift_some, Out.bind_ok, Out.fl_ok, methF, hx, setO, List.set_cons_succ, List.set_cons_zero, xs_nil, Fl.andThen_nx]
      rfl
    rw [show ([a0, a1, a2, some (dl F), a, none, none] : Z.Env).set 4 (some (.int x)) = [a0, a1, a2, some (dl F), some (.int x), none, none] from rfl, one]
    rw [List.flatMap_cons, ← List.append_assoc]
    exact ih
theorem two_len : ∀ us : List Int, (us.flatMap fun x => [Dd.cp x, Dd.mk x]).length = 2 * us.length
  | [] => rfl
  | a :: l => by rw [List.flatMap_cons, List.length_append, two_len l, List.length_cons]; simp; omega
theorem deeds (ok : OkO o) {l : List Int} {n : Nat} (hn : n ≤ 4) (hl : l.length ≤ 48) (b : Int) : ∃ ds : List D, progP pds (k + n + 2) 7 [tI l, .int (n : Int), .int b] [o] = .ok (.tup ds) [o] ∧ (∀ d ∈ ds, ∃ q : Dd, q.ok l n ∧ d = q.d) ∧ (∀ x ∈ l, 0 < x → (Dd.cp x).d ∈ ds) ∧ ds.length ≤ 9000000 := by
  obtain ⟨L, e1, p1, z1⟩ := picks ok n k l hn hl
  have hz : 48 ^ n ≤ 48 ^ 4 := Nat.pow_le_pow_right (by decide) hn
  have cc : compD (progP pds (k + n + 1)) [5, 6] (.tup (.cons (.con (.str "agree")) (.cons (.var 6) .nil))) (.nm 6) .nil ⟨L.map tI, none⟩ [some (tI l), some (.int (n : Int)), some (.int b), none, none, none, none] [o] = .ok (L.map fun s => (Dd.ag s).d) [o] :=
    comp_all tI (fun s => (Dd.ag s).d) fun s hs => ⟨[some (tI l), some (.int (n : Int)), some (.int b), none, none, none, some (tI s)], by simp [wipe], by simp [Dd.d]⟩
  have ec : evalC (progP pds (k + n + 1)) cD [some (tI l), some (.int (n : Int)), some (.int b), none, none, none, none] [o] = .ok (dl (L.map Dd.ag)) [o] := by
    unfold cD
    simp only [ev_comp, evi_call, ev_call, evs_cons, evs_nil, ev_var, List.getD_cons_zero, List.getD_cons_succ, lift_some, Out.bind_ok, e1, tL, src_lst, cc]
    unfold dl
    rw [List.map_map]; rfl
  have c2 : compD (progP pds (k + n + 1)) [5, 4] (.var 4) (.nm 4) (.cons (.cmp .Gt (.var 4) (.con (.int 0))) .nil) ⟨l.map D.int, none⟩ [some (tI l), some (.int (n : Int)), some (.int b), some (dl (L.map Dd.ag)), none, none, none] [o] = .ok ((l.filter fun x => decide (0 < x)).map D.int) [o] :=
    comp_flt D.int (fun x => decide (0 < x)) D.int fun x hx => ⟨[some (tI l), some (.int (n : Int)), some (.int b), some (dl (L.map Dd.ag)), some (.int x), none, none], by simp [wipe], by
      by_cases h : 0 < x <;> simp [h], fun _ => by simp⟩
  have hlf : (l.filter fun x => decide (0 < x)).length ≤ 48 := Nat.le_trans (List.length_filter_le ..) hl
  have lu : ∀ ns : List Int, (uniqI ns).length ≤ ns.length := fun ns => by
    have ins : ∀ (k : Int) (l : List Int), (insU k l).length ≤ l.length + 1 := fun k l => by
      induction l with
      | nil => simp [insU]
      | cons a l ih =>
        unfold insU
        split
        · simp
        · split
          · simp
          · simp; omega
    induction ns with
    | nil => simp [uniqI]
    | cons a l ih =>
      have := ins a (uniqI l)
      have e : uniqI (a :: l) = insU a (uniqI l) := rfl
      rw [e, List.length_cons]; omega
  have su : srtuD ((l.filter fun x => decide (0 < x)).map D.int) = some (.lst ((uniqI (l.filter fun x => decide (0 < x))).map D.int)) := by
    unfold srtuD
    rw [asInts_map]
    dsimp only
    rw [if_pos (by omega)]
  have es : evalIt (progP pds (k + n + 1)) sD [some (tI l), some (.int (n : Int)), some (.int b), some (dl (L.map Dd.ag)), none, none, none] [o] = .ok ⟨(uniqI (l.filter fun x => decide (0 < x))).map D.int, none⟩ [o] := by
    unfold sD
    simp only [evi_srtc, ev_srtc, evi_var, ev_var, List.getD_cons_zero, lift_some, Out.bind_ok, src_tup, c2, su, src_lst]
  have hx2 := lu (l.filter fun x => decide (0 < x))
  have hum := (uniq_sorted (l.filter fun x => decide (0 < x))).2
  generalize uniqI (l.filter fun x => decide (0 < x)) = us at *
  obtain ⟨a', lp⟩ := deed_loop (o := o) (G := progP pds (k + n + 1)) (some (tI l)) (some (.int (n : Int))) (some (.int b)) us (L.map Dd.ag) none (by rw [List.length_map]; omega)
  have sr : biD .sorted [o] [dl (L.map Dd.ag ++ us.flatMap fun x => [Dd.cp x, Dd.mk x])] = some (.lst (sortD ((L.map Dd.ag ++ us.flatMap fun x => [Dd.cp x, Dd.mk x]).map Dd.d))) := bi_sortedR rfl (srt_ok _) fun z hz => by
    obtain ⟨q, _, rfl⟩ := List.mem_map.mp hz
    cases q <;> exact ⟨_, _, rfl⟩
  have pm : (sortD ((L.map Dd.ag ++ us.flatMap fun x => [Dd.cp x, Dd.mk x]).map Dd.d)).Perm ((L.map Dd.ag ++ us.flatMap fun x => [Dd.cp x, Dd.mk x]).map Dd.d) := List.mergeSort_perm ..
  have fl2 := two_len us
  have inl : ∀ x ∈ us, x ∈ l ∧ 0 < x := fun x hx => by
    have := List.mem_filter.mp ((hum x).mp hx)
    exact ⟨this.1, by simpa using this.2⟩
  have each : ∀ d ∈ sortD ((L.map Dd.ag ++ us.flatMap fun x => [Dd.cp x, Dd.mk x]).map Dd.d), ∃ q : Dd, q.ok l n ∧ d = q.d := fun d hd => by
    obtain ⟨q, hq, rfl⟩ := List.mem_map.mp (pm.mem_iff.mp hd)
    refine ⟨q, ?_, rfl⟩
    rcases List.mem_append.mp hq with hq | hq
    · obtain ⟨s, hs, rfl⟩ := List.mem_map.mp hq
      exact p1.each s hs
    · obtain ⟨x, hx, hq⟩ := List.mem_flatMap.mp hq
      have := inl x hx
      simp at hq
      rcases hq with rfl | rfl <;> exact this
  refine ⟨_, ?_, each, fun x hx h0 => pm.mem_iff.mpr (List.mem_map.mpr ⟨Dd.cp x, List.mem_append_right _ (List.mem_flatMap.mpr ⟨x, (hum x).mpr (List.mem_filter.mpr ⟨hx, by simpa using h0⟩), by simp⟩), rfl⟩), by rw [pm.length_eq, List.length_map, List.length_append, List.length_map, fl2]; omega⟩
  refine call_at (k := k + n + 1) (f := fD) fD_eq rfl ?_ (us_of fun d hd => by obtain ⟨q, _, rfl⟩ := each d hd; exact q.u) ok
  show (execSs (progP pds (k + n + 1)) bD [some (tI l), some (.int (n : Int)), some (.int b), none, none, none, none] [o]).out = _
  unfold bD
  simp only [xs_cons, x_set, ec, Out.fl_ok, List.set_cons_succ, List.set_cons_zero, Fl.andThen_nx, x_for, es, loopF_eq, stays0, lp, x_ret, ev_bi, evs_cons, evs_nil, ev_var, List.getD_cons_succ, List.getD_cons_zero, lift_some, Out.bind_ok, sr, bi_tuple_lst, Fl.andThen_rt, out_rt]
/-! ### a deed done -/
theorem is_non (d : D) (h : d ≠ .non) {m : Mem} : cmpD .Is m d .non = some false := by
  cases d <;> first | exact absurd rfl h | rfl
theorem rep1 {m : Mem} (x : D) : binD .Mult m (.tup [x]) (.int 1) = some (.tup [x]) := rfl
theorem rep2 {m : Mem} (x : D) : binD .Mult m (.tup [x]) (.int 2) = some (.tup [x, x]) := rfl
theorem notin {m : Mem} {x : Int} {l : List Int} (h : x ∈ l) : cmpD .NotIn m (.int x) (.tup (l.map D.int)) = some false := by
  show (inD m (.int x) (tI l)).map _ = _
  rw [in_tup, decide_eq_true h]; rfl
theorem done (ok : OkO o) {l : List Int} {n : Nat} {q : Dd} (hq : q.ok l n) (hl : Li l) (hs : l.Pairwise (fun a b => b ≤ a)) (h48 : l.length ≤ 48) (b : Int) : progP pds (k + 3) 8 [tI l, q.d, .int (n : Int), .int b] [o] = .ok (tI (q.go l b)) [o] := by
  refine call_at (f := f_bunch_done) rfl rfl ?_ (u_ints _) ok
  have ad : ∀ (a c : List Int), a.length + c.length ≤ 1000 → binD .Add [o] (.tup (a.map D.int)) (.tup (c.map D.int)) = some (.tup ((a ++ c).map D.int)) := fun a c h => by
    rw [binD_tup (by rw [sizeLine_eq, List.length_map, List.length_map]; omega), List.map_append]
  cases q with
  | ag s =>
    obtain ⟨h1, h2⟩ := hq
    have ib := is_bunch (k := k) ok (ns := s) (fun x hx => (hl x (h1.subset hx)).1) (List.Pairwise.sublist h1 hs)
    have wo := without (k := k + 1) ok (sub_of h1)
    have rl := rem_len (sub_of h1)
    have a1 := ad (rem l s) [b] (by simp; omega)
    have ab := as_bunch_t (k := k + 1) ok (rem l s ++ [b])
    have ni := is_non (tI (rem l s)) (by simp) (m := [o])
    simp only [List.map_cons, List.map_nil] at a1
    simp [-List.map_append, f_bunch_done, b_bunch_done, Dd.d, Dd.go, ib, h2, wo, ni, a1, ab, K34.ag]
  | cp x =>
    obtain ⟨h1, h2⟩ := hq
    have wo : progP pds (k + 2) 5 [tI l, .tup [.int x]] [o] = .ok (tI (rem l [x])) [o] := without (k := k + 1) ok (sub_one h1)
    have rl := rem_len (sub_one h1)
    have a1 := ad (rem l [x]) [x - 1, x - 1] (by simp; omega)
    have ab := as_bunch_t (k := k + 1) ok (rem l [x] ++ [x - 1, x - 1])
    have h0 : ¬ x = 0 := by omega
    simp only [List.map_cons, List.map_nil] at a1
    simp [-List.map_append, f_bunch_done, b_bunch_done, Dd.d, Dd.go, Ne.symm w1, h0, notin h1, wo, a1, ab, rep2, K34.cp]
  | mk x =>
    obtain ⟨h1, h2⟩ := hq
    have wo : progP pds (k + 2) 5 [tI l, .tup [.int x]] [o] = .ok (tI (rem l [x])) [o] := without (k := k + 1) ok (sub_one h1)
    have rl := rem_len (sub_one h1)
    have a1 := ad (rem l [x]) [x - 1] (by simp; omega)
    have ab := as_bunch_t (k := k + 1) ok (rem l [x] ++ [x - 1])
    have h0 : ¬ x = 0 := by omega
    simp only [List.map_cons, List.map_nil] at a1
    simp [-List.map_append, f_bunch_done, b_bunch_done, Dd.d, Dd.go, Ne.symm w2, Ne.symm w3, h0, notin h1, wo, a1, ab, rep1, K34.mk]
end K34
set_option maxHeartbeats 2000000
/-! Q34: rows of copies: run, found, judged. -/
namespace K34
open PySem Z
variable {o : MO} {k : Nat}
theorem fall_id {l : List Int} (h : l.Pairwise (fun a b => b ≤ a)) : fall l = l := by
  have q : l.reverse = srt l := sorted_eq (List.reverse_perm l) (by rw [List.pairwise_reverse]; exact h)
  unfold fall
  rw [← q, List.reverse_reverse]
theorem cp_desc (l : List Int) (x : Int) : (cp l x).Pairwise (fun a b => b ≤ a) := fall_desc _
def cR : C := .callk 8 4 (.cons (.sub (.var 4) (.neg (.con (.int 1)))) (.cons (.var 6) .nil)) [2, 3] (.cons (.var 2) (.cons (.var 3) .nil)) []
def bRl : Ss := .cons (.set 7 cR) (.cons (.ite (.cmp .Is (.var 7) (.con .non)) (.cons .nev .nil) .nil) (.cons (.set 4 (.bin .Add (.var 4) (.lst (.cons (.var 7) .nil)))) .nil))
def bR : Ss := .cons (.set 4 (.lst (.cons (.var 0) .nil))) (.cons (.for_ (.tp (.cons (.nm 5) (.cons (.nm 6) .nil))) (.enum (.var 1)) bRl) (.cons (.ret (.bi .tuple (.cons (.var 4) .nil))) .nil))
def fR : Fd := { f_bunch_run with b := bR }
theorem fR_eq : pds[9]? = some fR := rfl
theorem placed_22 {α : Type} (a b c d z : α) : Z.placed 4 [a, b] [2, 3] [c, d] [] z = [a, b, c, d] := rfl
theorem run_loop (ok : OkO o) (a0 a1 : Option D) (n : Nat) (b : Int) : ∀ (xs l : List Int) (F : List (List Int)) (j : Nat) (e1 e2 e3 : Option D), okRun l xs → Li l → l.Pairwise (fun a b => b ≤ a) → l.length + xs.length ≤ 48 → F.length + xs.length ≤ 1000 →
    ∃ F' e1' e2' e3', forGo (fun _ => true) (fun e m => execSs (progP pds (k + 3)) bRl e m) (.tp (.cons (.nm 5) (.cons (.nm 6) .nil))) (((xs.map cpd).zipIdx j).map fun p => D.tup [.int (p.2 : Int), p.1]) [a0, a1, some (.int (n : Int)), some (.int b), some (tL (F ++ [l])), e1, e2, e3] [o] = .nx [a0, a1, some (.int (n : Int)), some (.int b), some (tL (F' ++ [run l xs])), e1', e2', e3'] [o]
  | [], l, F, j, e1, e2, e3, _, _, _, _, _ => ⟨F, e1, e2, e3, by rw [List.map_nil, List.zipIdx_nil, List.map_nil]; unfold forGo; exact if_pos rfl⟩
  | x :: xs, l, F, j, e1, e2, e3, h, hl, hs, h48, hF => by
    rw [List.length_cons] at h48 hF
    have hc := cp_len h.1
    obtain ⟨F', e1', e2', e3', ih⟩ := run_loop ok a0 a1 n b xs (cp l x) (F ++ [l]) (j + 1) (some (.int (j : Int))) (some (cpd x)) (some (tI (cp l x))) h.2.2 (cp_li hl h.1 h.2.1) (cp_desc l x) (by omega) (by rw [List.length_append, List.length_singleton]; omega)
    refine ⟨F', e1', e2', e3', ?_⟩
    rw [List.map_cons, List.zipIdx_cons, List.map_cons]
    unfold forGo
    rw [if_pos rfl]
    have bd : T.bind (.tp (.cons (.nm 5) (.cons (.nm 6) .nil))) (.tup [.int (j : Int), cpd x]) [a0, a1, some (.int (n : Int)), some (.int b), some (tL (F ++ [l])), e1, e2, e3] = some [a0, a1, some (.int (n : Int)), some (.int b), some (tL (F ++ [l])), some (.int (j : Int)), some (cpd x), e3] := by simp
    dsimp only
    rw [bd]
    dsimp only
    have dn : progP pds (k + 3) 8 [tI l, cpd x, .int (n : Int), .int b] [o] = .ok (tI (cp l x)) [o] := done (q := .cp x) ok ⟨h.1, h.2.1⟩ hl hs (by omega) b
    have la : subD [o] (tL (F ++ [l])) (.int (-1)) = some (tI l) := by
      unfold tL
      rw [List.map_append]
      exact sub_last
    have ec : evalC (progP pds (k + 3)) cR [a0, a1, some (.int (n : Int)), some (.int b), some (tL (F ++ [l])), some (.int (j : Int)), some (cpd x), e3] [o] = .ok (tI (cp l x)) [o] := by
      unfold cR
      simp only [ev_callk, evs_cons, evs_nil, ev_sub, ev_neg, ev_con, ev_var, List.getD_cons_succ, List.getD_cons_zero, lift_some, Out.bind_ok, negD_int, la, placed_22, dn]
    have ni := is_non (tI (cp l x)) (by simp) (m := [o])
    have ap : binD .Add [o] (tL (F ++ [l])) (.lst [tI (cp l x)]) = some (tL ((F ++ [l]) ++ [cp l x])) := by
      unfold tL
      rw [binD_lst (by rw [sizeLine_eq, List.length_map, List.length_append, List.length_singleton, List.length_singleton]; omega), List.map_append (l₁ := F ++ [l])]; rfl
    have one : execSs (progP pds (k + 3)) bRl [a0, a1, some (.int (n : Int)), some (.int b), some (tL (F ++ [l])), some (.int (j : Int)), some (cpd x), e3] [o] = .nx [a0, a1, some (.int (n : Int)), some (.int b), some (tL ((F ++ [l]) ++ [cp l x])), some (.int (j : Int)), some (cpd x), some (tI (cp l x))] [o] := by
      unfold bRl
      rw [xs_cons, x_set, ec, Out.fl_ok, Fl.andThen_nx]
      simp only [List.set_cons_succ, List.set_cons_zero]
      rw [xs_cons, x_ite, evt, ev_cmp]
      simp only [ev_var, ev_con, List.getD_cons_succ, List.getD_cons_zero, lift_some, Out.bind_ok, ni, Option.map_some, asBl_bl, Out.fl_ok, Bool.false_eq_true, if_false, xs_nil, Fl.andThen_nx]
      simp only [xs_cons, x_set, ev_bin, ev_lst, evs_cons, evs_nil, ev_var, List.getD_cons_succ, List.getD_cons_zero, lift_some, Out.bind_ok, Out.fl_ok, ap, List.set_cons_succ, List.set_cons_zero, xs_nil, Fl.andThen_nx]
    rw [one]
    exact ih
theorem run_ok (ok : OkO o) {l xs : List Int} (n : Nat) (b : Int) (h : okRun l xs) (hl : Li l) (hs : l.Pairwise (fun a b => b ≤ a)) (h48 : l.length + xs.length ≤ 48) : ∃ F, progP pds (k + 4) 9 [tI l, .tup (xs.map cpd), .int (n : Int), .int b] [o] = .ok (.tup ((F ++ [run l xs]).map tI)) [o] := by
  obtain ⟨F, e1, e2, e3, lp⟩ := run_loop (k := k) ok (some (tI l)) (some (.tup (xs.map cpd))) n b xs l [] 0 none none none h hl hs h48 (by simp; omega)
  refine ⟨F, call_at (k := k + 3) (f := fR) fR_eq rfl ?_ (us_iff.mpr fun d hd => by obtain ⟨s, _, rfl⟩ := List.mem_map.mp hd; exact u_ints s) ok⟩
  show (execSs (progP pds (k + 3)) bR [some (tI l), some (.tup (xs.map cpd)), some (.int (n : Int)), some (.int b), none, none, none, none] [o]).out = _
  have en : enumS (.tup (xs.map cpd)) = some ⟨((xs.map cpd).zipIdx 0).map fun p => D.tup [.int (p.2 : Int), p.1], none⟩ := rfl
  have e0 : D.lst [tI l] = tL ([] ++ [l]) := rfl
  unfold bR
  simp only [xs_cons, x_set, ev_lst, evs_cons, evs_nil, ev_var, List.getD_cons_zero, lift_some, Out.bind_ok, Out.fl_ok, List.set_cons_succ, List.set_cons_zero, Fl.andThen_nx, x_for, evi_enum, List.getD_cons_succ, en, e0, loopF_eq, stays0, lp]
  simp only [x_ret, ev_bi, evs_cons, evs_nil, ev_var, List.getD_cons_zero, List.getD_cons_succ, lift_some, Out.bind_ok, tL, bi_tuple_lst, Out.fl_ok, Fl.andThen_rt, out_rt]
/-! ### copied out -/
abbrev tC : C := .and (.cmp .NotEq (.var 2) (.tup .nil)) (.cmp .Gt (.sub (.var 2) (.con (.int 0))) (.con (.int 0)))
def bCl : Ss := .cons (.unpS (.cons (.nm 3) (.cons (.nm 4) .nil)) (.var 2))
    (.cons (.set 1 (.bin .Add (.var 1) (.lst (.cons (.tup (.cons (.con (.str "copy")) (.cons (.var 3) .nil))) .nil))))
    (.cons (.set 2 (.call 4 (.cons (.bin .Add (.var 4) (.lst (.cons (.bin .Sub (.var 3) (.con (.int 1))) (.cons (.bin .Sub (.var 3) (.con (.int 1))) .nil)))) .nil))) .nil))
def bC : Ss := .cons (.par [1, 2] (.cons (.lst .nil) (.cons (.call 4 (.cons (.var 0) .nil)) .nil))) (.cons (.while_ tC bCl) (.cons (.ret (.bi .tuple (.cons (.var 1) .nil))) .nil))
def fC : Fd := { f_copied_out with b := bC }
theorem fC_eq : pds[10]? = some fC := rfl
def lit : List Int → Bool
  | [] => false
  | x :: _ => decide (0 < x)
def litC (i : Nat) : C := .and (.cmp .NotEq (.var i) (.tup .nil)) (.cmp .Gt (.sub (.var i) (.con (.int 0))) (.con (.int 0)))
theorem lit_test {G : Sg} {i : Nat} {e : Z.Env} {m : Mem} (l : List Int) (h : e.getD i none = some (tI l)) : evalT G (litC i) e m = .ok (lit l) m := by
  have hn : eqD m (tI l) (.tup []) = some (decide (l = [])) := eqD_tups l []
  unfold litC
  rw [evt, ev_and, ev_cmp, ev_var, h, lift_some, Out.bind_ok, ev_tup, evs_nil, Out.bind_ok, Out.bind_ok, cmpD_ne, hn]
  cases l with
  | nil => rfl
  | cons x l =>
    have s0' : subD m (tI (x :: l)) (.int 0) = some (.int x) := s0
    rw [decide_eq_false (by simp)]
    simp only [Option.map_some, lift_some, Out.bind_ok, asBl_bl, Bool.not_false, if_true, ev_cmp, ev_sub, ev_var, h, ev_con, s0', cmpD_gt, lit]
theorem copied (ok : OkO o) {l : List Int} (hl : Li l) (hs : l.Pairwise (fun a b => b ≤ a)) (h6 : l.length ≤ 6) : ∃ xs, progP pds (k + 2) 10 [tI l] [o] = .ok (.tup (xs.map cpd)) [o] ∧ okRun l xs ∧ dark (run l xs) := by
  have wl := whileF_ind (c := fun e m => evalT (progP pds (k + 1)) tC e m) (b := fun e m => execSs (progP pds (k + 1)) bCl e m)
    (fun n e m => ∃ xs a b, okRun l xs ∧ m = [o] ∧ e = [some (tI l), some (.lst (xs.map cpd)), some (tI (run l xs)), a, b] ∧ n = (glow l).toNat - (run l xs).length ∧ (run l xs).Pairwise (fun a b => b ≤ a))
    (fun f => ∃ xs a b, okRun l xs ∧ dark (run l xs) ∧ f = .nx [some (tI l), some (.lst (xs.map cpd)), some (tI (run l xs)), a, b] [o]) (fun n e m ⟨xs, a, b, h1, h2, h3, h4, h5⟩ => by
      subst h2 h3
      have ht : evalT (progP pds (k + 1)) tC [some (tI l), some (.lst (xs.map cpd)), some (tI (run l xs)), a, b] [o] = _ := lit_test (G := progP pds (k + 1)) (i := 2) (e := [some (tI l), some (.lst (xs.map cpd)), some (tI (run l xs)), a, b]) (m := [o]) (run l xs) rfl
      have hli := run_li hl h1
      have hrm := run_room hl h1 h6
      have hxl := row_room hl h1 h6
      have hk : ∀ x, run l (xs ++ [x]) = cp (run l xs) x := run_snoc l xs
      have hok : ∀ x, x ∈ run l xs → 0 < x → okRun l (xs ++ [x]) := fun x => ok_snoc h1
      have hlen := run_len h1
      generalize hr : run l xs = r at *
      cases r with
      | nil => exact .inl ⟨ht, xs, a, b, h1, by rw [hr]; exact fun x hx => (List.not_mem_nil hx).elim, by rw [hr]⟩
      | cons x r =>
        by_cases h0 : 0 < x
        · have hx : x ∈ x :: r := List.mem_cons_self ..
          have ecp : cp (x :: r) x = fall (r ++ [x - 1, x - 1]) := by
            unfold cp
            rw [rem_cons, List.erase_cons_head]; rfl
          have ho := hok x hx h0
          have lg := len_glow (run l (xs ++ [x]))
          rw [run_glow ho, hk, cp_len hx] at lg
          refine .inr ⟨[some (tI l), some (.lst ((xs ++ [x]).map cpd)), some (tI (run l (xs ++ [x]))), some (.int x), some (.lst (r.map D.int))], [o], (glow l).toNat - (run l (xs ++ [x])).length, by rw [ht]; simp [lit, h0], ?_, ?_, xs ++ [x], some (.int x), some (.lst (r.map D.int)), ho, rfl, rfl, rfl, by rw [hk]; exact cp_desc _ _⟩
          · have us : unpSD (.cons (.nm 3) (.cons (.nm 4) .nil)) [some (tI l), some (.lst (xs.map cpd)), some (tI (x :: r)), a, b] (tI (x :: r)) [o] = .nx [some (tI l), some (.lst (xs.map cpd)), some (tI (x :: r)), some (.int x), some (.lst (r.map D.int))] [o] := by
              have hz : (x :: r).length ≤ 48 := hrm
              have sd : starD 2 (tI (x :: r)) = some [.int x, .lst (r.map D.int)] := by
                show (if 0 < 2 ∧ 2 ≤ ((x :: r).map D.int).length + 1 ∧ ((x :: r).map D.int).length ≤ 16000 then _ else _) = _
                rw [if_pos ⟨by decide, by rw [List.length_map, List.length_cons]; omega, by rw [List.length_map]; omega⟩]
                rfl
              unfold unpSD
              rw [show Ts.num (.cons (.nm 3) (.cons (.nm 4) .nil)) = 2 from rfl, sd]
              simp
            have ap : binD .Add [o] (.lst (xs.map cpd)) (.lst [cpd x]) = some (.lst ((xs ++ [x]).map cpd)) := by
              rw [binD_lst (by rw [sizeLine_eq, List.length_map, List.length_singleton]; omega), List.map_append]; rfl
            have ad : binD .Add [o] (.lst (r.map D.int)) (.lst [.int (x - 1), .int (x - 1)]) = some (.lst ((r ++ [x - 1, x - 1]).map D.int)) := by
              rw [binD_lst (by rw [sizeLine_eq, List.length_map]; simp at hrm ⊢; omega), List.map_append]; rfl
            have ab := as_bunch_l (k := k) ok (r ++ [x - 1, x - 1])
            show execSs (progP pds (k + 1)) bCl _ [o] = _
            unfold bCl
            rw [xs_cons, x_unpS, ev_var]
            simp only [List.getD_cons_succ, List.getD_cons_zero, lift_some, Out.fl_ok, us, Fl.andThen_nx]
            simp only [evs_cons, evs_nil, ev_tup, ev_con, ev_var, List.getD_cons_succ, List.getD_cons_zero, lift_some, Out.bind_ok, Out.fl_ok, ap, List.set_cons_succ, List.set_cons_zero, Fl.andThen_nx, xs_cons, x_set, ev_call, ev_bin, ev_lst, binD_sub, ad, ab, xs_nil]
            rw [hk, ecp]
          · rw [hk, cp_len hx, h4]
            simp only [List.length_cons] at lg ⊢
            omega
        · exact .inl ⟨by rw [ht]; simp [lit, h0], xs, a, b, h1, by rw [hr]; exact dark_of hli h5 h0, by rw [hr]⟩)
  obtain ⟨xs, a, b, h1, h2, h3⟩ := wl _ [some (tI l), some (.lst []), some (tI l), none, none] [o] ⟨[], none, none, trivial, rfl, rfl, rfl, hs⟩
  refine ⟨xs, call_at (k := k + 1) (f := fC) fC_eq rfl ?_ (us_iff.mpr fun d hd => by obtain ⟨s, _, rfl⟩ := List.mem_map.mp hd; rfl) ok, h1, h2⟩
  have ab := as_bunch_t (k := k) ok l
  rw [fall_id hs] at ab
  show (execSs (progP pds (k + 1)) bC [some (tI l), none, none, none, none] [o]).out = _
  unfold bC
  simp only [xs_cons, x_par, evs_cons, evs_nil, ev_lst, ev_call, ev_var, List.getD_cons_zero, lift_some, Out.bind_ok, ab, Out.fl_ok, setSome, List.set_cons_succ, List.set_cons_zero, Fl.andThen_nx, x_while, h3]
  simp only [x_ret, ev_bi, evs_cons, evs_nil, ev_var, List.getD_cons_zero, List.getD_cons_succ, lift_some, Out.bind_ok, bi_tuple_lst, Out.fl_ok, Fl.andThen_rt, out_rt]
/-! ### the law's looks -/
theorem is_out (ok : OkO o) {l xs : List Int} (n : Nat) (b : Int) (h : okRun l xs) (hd : dark (run l xs)) (hl : Li l) (hs : l.Pairwise (fun a b => b ≤ a)) (h6 : l.length ≤ 6) : progP pds (k + 5) 17 [tI l, .tup (xs.map cpd), .int (n : Int), .int b] [o] = .ok (.bl true) [o] := by
  refine call_at (k := k + 4) (f := f__law_is_out) rfl rfl ?_ rfl ok
  obtain ⟨F, r1⟩ := run_ok (k := k) ok n b h hl hs (by have := run_room hl h h6; have := run_len h; omega)
  obtain ⟨q1, q2⟩ := out_len h hd
  have g1 := glow_of (k := k + 2) ok hl
  have la : subD [o] (.tup ((F ++ [run l xs]).map tI)) (.int (-1)) = some (tI (run l xs)) := by
    rw [List.map_append]
    exact sub_last_t
  have c1 : compD (progP pds (k + 4)) [5, 6] (.var 6) (.nm 6) (.cons (.cmp .NotEq (.sub (.var 6) (.con (.int 0))) (.con (.str "copy"))) .nil) ⟨xs.map cpd, none⟩ [some (tI l), some (.tup (xs.map cpd)), some (.int (n : Int)), some (.int b), none, none, none] [o] = .ok [] [o] := by
    rw [comp_flt cpd (fun _ => false) cpd fun x hx => ⟨[some (tI l), some (.tup (xs.map cpd)), some (.int (n : Int)), some (.int b), none, none, some (cpd x)], by simp [wipe], by simp, fun h => (Bool.false_ne_true h).elim⟩]
    simp
  have e0 : eqD [o] (.lst []) (.lst []) = some true := rfl
  have gl := len_glow l
  have rp : binD .Mult [o] (.tup [.int 0]) (.int (glow l)) = some (tI (List.replicate (glow l).toNat 0)) := by
    have g8 := glow_le hl
    show (if decide (-(2 ^ 63) ≤ glow l) && decide (glow l ≤ 1000) && decide ([D.int 0].length ≤ 1000) then _ else _) = _
    rw [decide_eq_true (by omega), decide_eq_true (by omega)]
    have : ∀ j : Nat, (List.replicate j [D.int 0]).flatten = (List.replicate j (0 : Int)).map D.int := fun j => by
      induction j with
      | zero => rfl
      | succ j ih => rw [List.replicate_succ, List.flatten_cons, ih, List.replicate_succ, List.map_cons]; rfl
    show some (D.tup (List.replicate (glow l).toNat [D.int 0]).flatten) = some (.tup ((List.replicate (glow l).toNat (0 : Int)).map D.int))
    rw [this]
  have eq : eqD [o] (tI (run l xs)) (tI (List.replicate (glow l).toNat 0)) = some true := by
    rw [eqD_tups, decide_eq_true q2]
  have pl : ∀ a b c d : D, placed 4 [a, b] [2, 3] [c, d] [] .non = [a, b, c, d] := fun _ _ _ _ => rfl
  show (execSs (progP pds (k + 4)) b__law_is_out [some (tI l), some (.tup (xs.map cpd)), some (.int (n : Int)), some (.int b), none, none, none] [o]).out = _
  simp only [b__law_is_out, xs_cons, x_ite, evt, ev_or, ev_cmp, ev_comp, evi_var, ev_var, List.getD_cons_succ, List.getD_cons_zero, lift_some, Out.bind_ok, src_tup, c1, ev_lst, evs_nil, evs_cons, ev_bi, ev_bin, ev_call, bi_len_tup, List.length_map, g1, binD_sub, cmpD_ne, e0, Option.map_some, Bool.not_true, asBl_bl, Bool.false_eq_true, if_false, eqD_int, decide_eq_true q1, Out.fl_ok, xs_nil, Fl.andThen_nx, x_set, ev_sub, ev_callk, ev_neg, ev_con, negD_int, pl, r1, la, List.set_cons_succ, List.set_cons_zero, x_ret, cmpD_eq, ev_tup, rp, eq, Fl.andThen_rt, out_rt]
end K34
set_option maxHeartbeats 2000000
/-! R34: draws, lights, the glow due. -/
namespace K34
open PySem Z
variable {o : MO} {k : Nat}
theorem falling (ok : OkO o) (ns : List Int) : progP pds (k + 1) 13 [.lst (ns.map D.int)] [o] = .ok (tI (fall ns)) [o] := by
  refine call_at (f := f__law_falling) rfl rfl ?_ (u_ints _) ok
  simp [-List.map_reverse, f__law_falling, b__law_falling, bi_sorted_lst, fall]
  rw [List.map_reverse]
theorem power (ok : OkO o) {n : Int} (h0 : 0 ≤ n) (h4 : n < 4) : progP pds (k + 1) 14 [.int n] [o] = .ok (.int (pw n)) [o] := by
  refine call_at (f := f__law_power) rfl rfl ?_ rfl ok
  have cases : n = 0 ∨ n = 1 ∨ n = 2 ∨ n = 3 := by omega
  rcases cases with rfl | rfl | rfl | rfl <;> simp [f__law_power, b__law_power] <;> rfl
theorem draw_at (h : Feed1 o) {many : Int} (h0 : 0 < many) (hm : many < 1073741824) : ∃ r o', progP pds (k + 1) 12 [.loc 0, .int many] [o] = .ok (.int r) [o'] ∧ 0 ≤ r ∧ r < many ∧ Feed1 o' := by
  obtain ⟨r, o', h1, h2, h3, f2⟩ := draw1 (G := progP pds k) (d0 := 23) (p := 1000003643) (k1 := 65065) (k2 := 67) (k3 := 7088847) (k4 := 37) (k5 := 49) (by decide) (by decide) (by decide) (by decide) h h0 hm
  exact ⟨r, o', call_at (f := f__law_draw) rfl rfl h1 rfl f2.ok, h2, h3, f2⟩
theorem fig_list {g : Int} : ∀ {xs ys : List D}, Paired (fun _ b => ∃ i : Int, b = .int i ∧ 0 ≤ i ∧ i < g) xs ys → ∃ ns : List Int, ys = ns.map D.int ∧ ns.length = xs.length ∧ ∀ n ∈ ns, 0 ≤ n ∧ n < g := fun {xs ys} h => by
  induction h with
  | nil => exact ⟨[], rfl, rfl, by simp⟩
  | cons p t ih =>
    obtain ⟨i, rfl, h1, h2⟩ := p
    obtain ⟨ns, rfl, h3, h4⟩ := ih
    refine ⟨i :: ns, rfl, by simp [h3], fun n hn => ?_⟩
    rcases List.mem_cons.mp hn with rfl | hn
    · exact ⟨h1, h2⟩
    · exact h4 n hn
theorem lights (h : Feed1 o) {b : Int} (hb : 1 ≤ b ∧ b ≤ 3) : ∃ l o', progP pds (k + 2) 15 [.loc 0, .int b, .int 5] [o] = .ok (tI l) [o'] ∧ Feed1 o' ∧ Li l ∧ l.Pairwise (fun a b => b ≤ a) ∧ l.length ≤ 5 := by
  obtain ⟨r, o1, e1, r0, r1, F1⟩ := draw_at (k := k) h (many := 6) (by decide) (by decide)
  obtain ⟨vs, m2, e2, ⟨o2, rfl, F2⟩, ps⟩ := comp_eff (G := progP pds (k + 1)) (own := [3, 4]) (elt := .call 12 (.cons (.var 0) (.cons (.bin .Add (.var 1) (.con (.int 1))) .nil))) (t := .nm 4) (s := ⟨(List.range r.toNat).map fun (k : Nat) => D.int (k : Int), none⟩) (e := [some (.loc 0), some (.int b), some (.int 5), none, none]) (m := [o1])
    (M := fun m' => ∃ o', m' = [o'] ∧ Feed1 o') (P := fun _ d => ∃ i : Int, d = .int i ∧ 0 ≤ i ∧ i < b + 1) ⟨o1, rfl, F1⟩ (fun _ _ => rfl) fun d hd m' ⟨o', hm, F'⟩ => by
      subst hm
      obtain ⟨i, o2, q, i0, i1, F2⟩ := draw_at (k := k) F' (many := b + 1) (by omega) (by omega)
      exact ⟨_, rfl, .int i, [o2], by simp [wipe, q], ⟨o2, rfl, F2⟩, i, rfl, i0, i1⟩
  obtain ⟨ns, rfl, hl, hn⟩ := fig_list ps
  simp only [List.length_map, List.length_range] at hl
  refine ⟨fall ns, o2, ?_, F2, fun x hx => ?_, fall_desc _, ?_⟩
  · refine call_at (f := f__law_lights) rfl rfl ?_ (u_ints _) F2.ok
    have fl := falling (k := k) F2.ok ns
    simp [-List.map_reverse, f__law_lights, b__law_lights, e1, rng_small r0 (show r ≤ 16000000 by omega), e2, fl]
  · have := hn x ((fall_perm ns).mem_iff.mp hx)
    omega
  · rw [(fall_perm ns).length_eq]; omega
def Dd.due (g b : Int) : Dd → Int
  | .ag s => g - glow s + pw b
  | .cp x => g
  | .mk x => g - pw (x - 1)
theorem due_eq {l : List Int} {n : Nat} {q : Dd} (hq : q.ok l n) (b : Int) : glow (q.go l b) = q.due (glow l) b := by
  cases q with
  | ag s => exact ag_glow hq.1
  | cp x => exact cp_glow hq.1 hq.2
  | mk x => exact mk_glow hq.1 hq.2
theorem go_li {l : List Int} {n : Nat} {q : Dd} (hq : q.ok l n) (hl : Li l) {b : Int} (hb : 1 ≤ b ∧ b ≤ 3) : Li (q.go l b) := by
  cases q with
  | ag s => exact ag_li hl (by omega)
  | cp x => exact cp_li hl hq.1 hq.2
  | mk x => exact mk_li hl hq.1 hq.2
theorem go_desc (l : List Int) (q : Dd) (b : Int) : (q.go l b).Pairwise (fun a b => b ≤ a) := by
  cases q <;> exact fall_desc _
theorem go_len {l : List Int} {n : Nat} {q : Dd} (hq : q.ok l n) (b : Int) : (q.go l b).length ≤ l.length + 1 := by
  cases q with
  | ag s => exact ag_len hq.1
  | cp x => exact Nat.le_of_eq (cp_len hq.1)
  | mk x => exact Nat.le_trans (Nat.le_of_eq (mk_len hq.1)) (Nat.le_succ _)
theorem glow_due (ok : OkO o) {l : List Int} {n : Nat} {q : Dd} (hq : q.ok l n) (hl : Li l) (g : Int) {b : Int} (hb : 1 ≤ b ∧ b ≤ 3) : progP pds (k + 2) 16 [.int g, q.d, .int b] [o] = .ok (.int (q.due g b)) [o] := by
  refine call_at (f := f__law_glow_of) rfl rfl ?_ rfl ok
  cases q with
  | ag s =>
    have c1 : compD (progP pds (k + 1)) [3, 4] (.call 14 (.cons (.var 4) .nil)) (.nm 4) .nil ⟨s.map D.int, none⟩ [some (.int g), some (.tup [.str "agree", tI s]), some (.int b), none, none] [o] = .ok (s.map fun n => .int (pw n)) [o] :=
      comp_all D.int (fun n => .int (pw n)) fun n hn => ⟨_, rfl, by
        have := hl n (hq.1.subset hn)
        simp [wipe, power ok this.1 this.2]⟩
    have p1 := power (k := k) ok (n := b) (by omega) (by omega)
    simp [-List.map_map, f__law_glow_of, b__law_glow_of, Dd.d, Dd.due, w1, w2, c1, p1, glow]
  | cp x => simp [f__law_glow_of, b__law_glow_of, Dd.d, Dd.due]
  | mk x =>
    have := hl x hq.1
    have h0 := hq.2
    have p1 := power (k := k) ok (n := x - 1) (by omega) (by omega)
    simp [f__law_glow_of, b__law_glow_of, Dd.d, Dd.due, Ne.symm w3, p1]
theorem feed11 (ns : List Int) : progG defs 19 11 [.scr ns] [] = .ok (.loc 0) [FdO (ns.take 63) 0 0 0] := by
  have hb : bodyD (progG defs 18) 1 b__law_feed [.scr ns] [] = .ok (.loc 0) [FdO (ns.take 63) 0 0 0] := by
    obtain ⟨m', h1, h2⟩ := feed_ok (G := progG defs 18) (m := []) ns 63
    rw [h2] at h1
    exact h1
  rw [progG_at (f := f__law_feed) rfl]
  show gcO [] (bodyD (progG defs 18) 1 b__law_feed [.scr ns] []) = _
  rw [hb]
  unfold gcO
  dsimp only
  rw [if_neg]
  intro h
  exact absurd h.2 (by simp [gcD, D.under])
end K34
set_option maxHeartbeats 2000000
/-! S34: the law's loops. -/
namespace K34
open PySem Z
variable {o : MO}
def rF : Ss := .cons (.ret (.con (.bl false))) .nil
def cS : C := .comp [12, 8] (.var 8) (.nm 8) (.callk 7 3 (.cons (.var 7) .nil) [1, 2] (.cons (.var 3) (.cons (.var 4) .nil)) []) (.cons (.cmp .Eq (.sub (.var 8) (.con (.int 0))) (.con (.str "copy"))) .nil)
def cDr : C := .sub (.var 9) (.call 12 (.cons (.var 1) (.cons (.bi .len (.cons (.var 9) .nil)) .nil)))
def cAp : C := .bin .Add (.var 6) (.lst (.cons cDr .nil))
def cDn : C := .callk 8 4 (.cons (.var 7) (.cons (.sub (.var 6) (.neg (.con (.int 1)))) .nil)) [2, 3] (.cons (.var 3) (.cons (.var 4) .nil)) []
def cNe : C := .cmp .NotEq (.call 3 (.cons (.var 7) .nil)) (.call 3 (.cons (.var 5) .nil))
def bWh : Ss := .cons (.set 9 cS) (.cons (.set 6 cAp) (.cons (.set 7 cDn) (.cons (.ite cNe rF .nil) .nil)))
def cSm : C := .callk 7 3 (.cons (.var 5) .nil) [1, 2] (.cons (.var 3) (.cons (.var 4) .nil)) []
def tD : C := .and (.cmp .NotEq (.var 9) (.tup .nil)) (.cmp .Lt (.bi .len (.cons (.var 5) .nil)) (.con (.int 6)))
def cDn2 : C := .callk 8 4 (.cons (.var 5) (.cons (.var 8) .nil)) [2, 3] (.cons (.var 3) (.cons (.var 4) .nil)) []
def cNe2 : C := .cmp .NotEq (.call 3 (.cons (.var 11) .nil)) (.call 16 (.cons (.call 3 (.cons (.var 5) .nil)) (.cons (.var 8) (.cons (.var 4) .nil))))
def bDi : Ss := .cons (.set 8 cDr) (.cons (.set 11 cDn2) (.cons (.ite cNe2 rF .nil) (.cons (.set 5 (.var 11)) .nil)))
def bDe : Ss := .cons (.set 9 cSm) (.cons (.ite tD bDi .nil) .nil)
def cO1 : C := .not (.call 17 (.cons (.var 5) (.cons (.call 10 (.cons (.var 5) .nil)) (.cons (.var 3) (.cons (.var 4) .nil)))))
def cO2 : C := .not (.call 17 (.cons (.var 5) (.cons (.callk 10 1 .nil [0] (.cons (.var 5) .nil) []) (.cons (.var 3) (.cons (.var 4) .nil)))))
def cO3 : C := .not (.call 17 (.cons (.var 5) (.cons (.bi .tuple (.cons (.var 6) .nil)) (.cons (.var 3) (.cons (.var 4) .nil)))))
def cO4 : C := .and (.cmp .Lt (.bi .len (.cons (.var 5) .nil)) (.con (.int 6))) cO1
def cP : Cs := .cons (.bin .Add (.con (.int 2)) (.call 12 (.cons (.var 1) (.cons (.con (.int 3)) .nil)))) (.cons (.bin .Add (.con (.int 1)) (.call 12 (.cons (.var 1) (.cons (.con (.int 3)) .nil)))) .nil)
def cLi : C := .call 15 (.cons (.var 1) (.cons (.var 4) (.cons (.con (.int 5)) .nil)))
def bLap : Ss := .cons (.par [3, 4] cP) (.cons (.set 5 cLi) (.cons (.ite cO1 rF .nil) (.cons (.ite cO2 rF .nil) (.cons (.par [6, 7] (.cons (.lst .nil) (.cons (.var 5) .nil))) (.cons (.while_ (litC 7) bWh) (.cons (.ite cO3 rF .nil) (.cons (.for_ (.nm 10) (.rng (.con (.int 5))) bDe) (.cons (.ite cO4 rF .nil) .nil))))))))
def bLaw : Ss := .cons (.for_ (.nm 2) (.rng (.con (.int 5))) bLap) (.cons (.ret (.con (.bl true))) .nil)
def tail1 : Ss → Ss
  | .cons _ l => l
  | l => l
theorem bLaw_eq : purSs (tail1 b_law) = bLaw := rfl
theorem deeds19 (ok : OkO o) {l : List Int} {n : Nat} (hn : n ≤ 4) (hl : l.length ≤ 48) (b : Int) : ∃ L : List Dd, progP pds 19 7 [tI l, .int (n : Int), .int b] [o] = .ok (.tup (L.map Dd.d)) [o] ∧ (∀ q ∈ L, q.ok l n) ∧ (∀ x ∈ l, 0 < x → Dd.cp x ∈ L) ∧ L.length ≤ 9000000 := by
  obtain ⟨ds, h1, h2, h3, h4⟩ := deeds (k := 17 - n) ok hn hl b
  rw [show 17 - n + n + 2 = 19 by omega] at h1
  obtain ⟨L, rfl, h5⟩ := of_map (f := Dd.d) (P := fun q => q.ok l n) h2
  refine ⟨L, h1, h5, fun x hx h0 => ?_, by rw [List.length_map] at h4; exact h4⟩
  obtain ⟨q, hq, e⟩ := List.mem_map.mp (h3 x hx h0)
  cases q with
  | ag s => exact absurd e (by simp [Dd.d, w1])
  | cp y =>
    have : y = x := by simpa [Dd.d] using e
    subst this
    exact hq
  | mk y => exact absurd e (by simp [Dd.d, Ne.symm w3])
def isCp : Dd → Bool
  | .cp _ => true
  | _ => false
theorem pl3 {α : Type} (a b c z : α) : Z.placed 3 [a] [1, 2] [b, c] [] z = [a, b, c] := rfl
theorem pl4 {α : Type} (a b c d z : α) : Z.placed 4 [a, b] [2, 3] [c, d] [] z = [a, b, c, d] := rfl
theorem dray {G : Sg} {e : Z.Env} {L : List Dd} {x : D} (hx : x = .tup (L.map Dd.d) ∨ x = .lst (L.map Dd.d)) (hne : L ≠ []) (hz : L.length ≤ 9000000) (f : Feed1 o) (h9 : e.getD 9 none = some x) (h1 : e.getD 1 none = some (.loc 0)) : ∃ q ∈ L, ∃ o', evalC (progP pds 19) cDr e [o] = .ok q.d [o'] ∧ Feed1 o' := by
  have hp : 0 < L.length := List.length_pos_iff.mpr hne
  obtain ⟨r, o', h2, h3, h4, f'⟩ := draw_at (k := 18) f (many := (L.length : Int)) (by omega) (by omega)
  have ln : ∀ m : Mem, biD .len m [x] = some (.int (L.length : Int)) := fun m => by
    rcases hx with rfl | rfl
    · rw [bi_len_tup, List.length_map]
    · rw [bi_len_lst, List.length_map]
  obtain ⟨d, h5, h6⟩ : ∃ d, subD [o'] x (.int r) = some d ∧ d ∈ L.map Dd.d := by
    rcases hx with rfl | rfl
    · exact sub_fig_t h3 (by rw [List.length_map]; exact h4)
    · exact sub_fig h3 (by rw [List.length_map]; exact h4)
  obtain ⟨q, hq, rfl⟩ := List.mem_map.mp h6
  refine ⟨q, hq, o', ?_, f'⟩
  unfold cDr
  simp only [ev_sub, ev_var, h9, lift_some, Out.bind_ok, ev_call, evs_cons, evs_nil, h1, ev_bi, ln, h2, h5]
/-- one more copy -/
theorem wh_step (f : Feed1 o) {n : Nat} (hn : n ≤ 4) (b : Int) {l xs : List Int} {x : Int} {r : List Int} (h1 : okRun l xs) (hl : Li l) (h6 : l.length ≤ 6) (hr : run l xs = x :: r) (h0 : 0 < x) (hs : (run l xs).Pairwise (fun a b => b ≤ a)) (s0 t dd sm kk lt c0 : Option D) :
    ∃ y sm' o', execSs (progP pds 19) bWh [s0, some (.loc 0), t, some (.int (n : Int)), some (.int b), some (tI l), some (.lst (xs.map cpd)), some (tI (run l xs)), dd, sm, kk, lt, c0] [o] = .nx [s0, some (.loc 0), t, some (.int (n : Int)), some (.int b), some (tI l), some (.lst ((xs ++ [y]).map cpd)), some (tI (run l (xs ++ [y]))), dd, sm', kk, lt, c0] [o'] ∧ Feed1 o' ∧ okRun l (xs ++ [y]) := by
  have ok := f.ok
  have hrm := run_room hl h1 h6
  have hxl := row_room hl h1 h6
  have hli := run_li hl h1
  obtain ⟨L, d1, d2, d3, d4⟩ := deeds19 ok hn hrm b
  have cc : compD (progP pds 19) [12, 8] (.var 8) (.nm 8) (.cons (.cmp .Eq (.sub (.var 8) (.con (.int 0))) (.con (.str "copy"))) .nil) ⟨L.map Dd.d, none⟩ [s0, some (.loc 0), t, some (.int (n : Int)), some (.int b), some (tI l), some (.lst (xs.map cpd)), some (tI (run l xs)), dd, sm, kk, lt, c0] [o] = .ok ((L.filter isCp).map Dd.d) [o] :=
    comp_flt Dd.d isCp Dd.d fun q hq => ⟨[s0, some (.loc 0), t, some (.int (n : Int)), some (.int b), some (tI l), some (.lst (xs.map cpd)), some (tI (run l xs)), some q.d, sm, kk, lt, none], by simp [wipe], by
      cases q <;> simp [Dd.d, isCp, w1, Ne.symm w3], fun _ => by simp⟩
  have es : evalC (progP pds 19) cS [s0, some (.loc 0), t, some (.int (n : Int)), some (.int b), some (tI l), some (.lst (xs.map cpd)), some (tI (run l xs)), dd, sm, kk, lt, c0] [o] = .ok (.lst ((L.filter isCp).map Dd.d)) [o] := by
    unfold cS
    simp only [ev_comp, evi_callk, ev_callk, evs_cons, evs_nil, ev_var, List.getD_cons_succ, List.getD_cons_zero, lift_some, Out.bind_ok, pl3, d1, src_tup, cc]
  have hne : L.filter isCp ≠ [] := fun z => by
    have : Dd.cp x ∈ L.filter isCp := List.mem_filter.mpr ⟨d3 x (by rw [hr]; exact List.mem_cons_self ..) h0, rfl⟩
    rw [z] at this
    exact List.not_mem_nil this
  have hfl : (L.filter isCp).length ≤ 9000000 := Nat.le_trans (List.length_filter_le ..) d4
  obtain ⟨q, hq, o', q1, f'⟩ := dray (o := o) (G := progP pds 19) (e := [s0, some (.loc 0), t, some (.int (n : Int)), some (.int b), some (tI l), some (.lst (xs.map cpd)), some (tI (run l xs)), dd, some (.lst ((L.filter isCp).map Dd.d)), kk, lt, c0]) (.inr rfl) hne hfl f rfl rfl
  obtain ⟨hq1, hq2⟩ := List.mem_filter.mp hq
  obtain ⟨y, rfl⟩ : ∃ y, q = Dd.cp y := by cases q <;> first | exact ⟨_, rfl⟩ | exact absurd hq2 (by simp [isCp])
  have hy := d2 _ hq1
  have ho := ok_snoc h1 hy.1 hy.2
  have ok' := f'.ok
  have ap : binD .Add [o'] (.lst (xs.map cpd)) (.lst [(Dd.cp y).d]) = some (.lst ((xs ++ [y]).map cpd)) := by
    rw [binD_lst (by rw [sizeLine_eq, List.length_map, List.length_singleton]; omega), List.map_append]; rfl
  have la : subD [o'] (.lst ((xs ++ [y]).map cpd)) (.int (-1)) = some (Dd.cp y).d := by
    rw [List.map_append]
    exact sub_last
  have dn : progP pds 19 8 [tI (run l xs), (Dd.cp y).d, .int (n : Int), .int b] [o'] = .ok (tI (run l (xs ++ [y]))) [o'] := by
    rw [run_snoc]
    exact done (k := 16) ok' hy hli hs hrm b
  have g1 := glow_of (k := 17) ok' (run_li hl ho)
  have g2 := glow_of (k := 17) ok' hl
  rw [run_glow ho] at g1
  refine ⟨y, some (.lst ((L.filter isCp).map Dd.d)), o', ?_, f', ho⟩
  have eA : evalC (progP pds 19) cAp [s0, some (.loc 0), t, some (.int (n : Int)), some (.int b), some (tI l), some (.lst (xs.map cpd)), some (tI (run l xs)), dd, some (.lst ((L.filter isCp).map Dd.d)), kk, lt, c0] [o] = .ok (.lst ((xs ++ [y]).map cpd)) [o'] := by
    unfold cAp
    simp only [ev_bin, ev_var, List.getD_cons_succ, List.getD_cons_zero, lift_some, Out.bind_ok, ev_lst, evs_cons, evs_nil, q1, ap]
  have eD : evalC (progP pds 19) cDn [s0, some (.loc 0), t, some (.int (n : Int)), some (.int b), some (tI l), some (.lst ((xs ++ [y]).map cpd)), some (tI (run l xs)), dd, some (.lst ((L.filter isCp).map Dd.d)), kk, lt, c0] [o'] = .ok (tI (run l (xs ++ [y]))) [o'] := by
    unfold cDn
    simp only [ev_callk, evs_cons, evs_nil, ev_sub, ev_neg, ev_con, ev_var, List.getD_cons_succ, List.getD_cons_zero, lift_some, Out.bind_ok, negD_int, la, pl4, dn]
  have eN : evalC (progP pds 19) cNe [s0, some (.loc 0), t, some (.int (n : Int)), some (.int b), some (tI l), some (.lst ((xs ++ [y]).map cpd)), some (tI (run l (xs ++ [y]))), dd, some (.lst ((L.filter isCp).map Dd.d)), kk, lt, c0] [o'] = .ok (.bl false) [o'] := by
    unfold cNe
    simp only [ev_cmp, ev_call, evs_cons, evs_nil, ev_var, List.getD_cons_succ, List.getD_cons_zero, lift_some, Out.bind_ok, g1, g2, cmpD_ne, eqD_int, Option.map_some]
    simp
  unfold bWh
  simp only [xs_cons, x_set, es, Out.fl_ok, List.set_cons_succ, List.set_cons_zero, Fl.andThen_nx, eA, eD, x_ite, evt, eN, Out.bind_ok, asBl_bl, Bool.false_eq_true, if_false, xs_nil]
theorem wh_ok (f : Feed1 o) {n : Nat} (hn : n ≤ 4) (b : Int) {l : List Int} (hl : Li l) (hs : l.Pairwise (fun a b => b ≤ a)) (h6 : l.length ≤ 6) (s0 t dd sm kk lt c0 : Option D) :
    ∃ xs sm' o', whileF (fun e m => evalT (progP pds 19) (litC 7) e m) (fun e m => execSs (progP pds 19) bWh e m) [s0, some (.loc 0), t, some (.int (n : Int)), some (.int b), some (tI l), some (.lst []), some (tI l), dd, sm, kk, lt, c0] [o] = .nx [s0, some (.loc 0), t, some (.int (n : Int)), some (.int b), some (tI l), some (.lst (xs.map cpd)), some (tI (run l xs)), dd, sm', kk, lt, c0] [o'] ∧ Feed1 o' ∧ okRun l xs ∧ dark (run l xs) := by
  have wl := whileF_ind (c := fun e m => evalT (progP pds 19) (litC 7) e m) (b := fun e m => execSs (progP pds 19) bWh e m)
    (fun N e m => ∃ xs sm o, okRun l xs ∧ Feed1 o ∧ m = [o] ∧ e = [s0, some (.loc 0), t, some (.int (n : Int)), some (.int b), some (tI l), some (.lst (xs.map cpd)), some (tI (run l xs)), dd, sm, kk, lt, c0] ∧ N = (glow l).toNat - (run l xs).length ∧ (run l xs).Pairwise (fun a b => b ≤ a))
    (fun F => ∃ xs sm' o', F = .nx [s0, some (.loc 0), t, some (.int (n : Int)), some (.int b), some (tI l), some (.lst (xs.map cpd)), some (tI (run l xs)), dd, sm', kk, lt, c0] [o'] ∧ Feed1 o' ∧ okRun l xs ∧ dark (run l xs)) (fun N e m ⟨xs, sm, o, h1, f, h2, h3, h4, h5⟩ => by
      subst h2 h3
      have ht := lit_test (G := progP pds 19) (i := 7) (e := [s0, some (.loc 0), t, some (.int (n : Int)), some (.int b), some (tI l), some (.lst (xs.map cpd)), some (tI (run l xs)), dd, sm, kk, lt, c0]) (m := [o]) (run l xs) rfl
      have hli := run_li hl h1
      rcases hr : run l xs with _ | ⟨x, r⟩
      · refine .inl ⟨by rw [hr] at ht; exact ht, xs, sm, o, by rw [hr], f, h1, by rw [hr]; exact fun x hx => (List.not_mem_nil hx).elim⟩
      · by_cases h0 : 0 < x
        · obtain ⟨y, sm', o', q1, q2, q3⟩ := wh_step f hn b h1 hl h6 hr h0 h5 s0 t dd sm kk lt c0
          have lg := len_glow (run l (xs ++ [y]))
          have l1 := run_len h1
          have l2 := run_len q3
          rw [run_glow q3] at lg
          rw [List.length_append, List.length_singleton] at l2
          rw [hr] at q1 ht
          refine .inr ⟨_, _, _, by rw [ht]; simp [lit, h0], q1, ?_, xs ++ [y], sm', o', q3, q2, rfl, rfl, rfl, by rw [run_snoc]; exact cp_desc _ _⟩
          omega
        · rw [hr] at ht hli h5
          refine .inl ⟨by rw [ht]; simp [lit, h0], xs, sm, o, by rw [hr], f, h1, by rw [hr]; exact dark_of hli h5 h0⟩)
  exact wl _ _ [o] ⟨[], sm, o, trivial, f, rfl, rfl, rfl, hs⟩
end K34
set_option maxHeartbeats 2000000
/-! T34: the law. -/
namespace K34
open PySem Z
variable {o : MO}
theorem toPys_dd : ∀ L : List Dd, toPys (L.map Dd.d) = some (L.map Dd.py)
  | [] => rfl
  | q :: L => by simp only [List.map_cons, toPys, q.toPy, toPys_dd L]
theorem lay_dd : ∀ L : List Dd, PyData.canLayAll0 (L.map Dd.py) = true
  | [] => rfl
  | q :: L => by
    have : q.py.canLay0 = true := by
      cases q with
      | ag s =>
        have := lay_ints s
        have : PyData.strOk ("agree" : Str) = true := by decide +kernel
        simp [Dd.py, PyData.canLay0, PyData.canLayAll0, *]
      | cp x =>
        have : PyData.strOk ("copy" : Str) = true := by decide +kernel
        simp [Dd.py, PyData.canLay0, PyData.canLayAll0, *]
      | mk x =>
        have : PyData.strOk ("make" : Str) = true := by decide +kernel
        simp [Dd.py, PyData.canLay0, PyData.canLayAll0, *]
    simp only [List.map_cons, PyData.canLayAll0, this, lay_dd L, Bool.and_self]
theorem dep_dd : ∀ L : List Dd, PyData.depthAll (L.map Dd.py) ≤ 60
  | [] => by simp [PyData.depthAll]
  | q :: L => by
    simp only [List.map_cons, PyData.depthAll]
    exact Nat.max_le.mpr ⟨q.dep, dep_dd L⟩
theorem eq_dd {m : Mem} (L : List Dd) : eqD m (.tup (L.map Dd.d)) (.tup []) = some (decide (L = [])) := by
  show eqP m _ _ = _
  unfold eqP pyOf Z.top
  have hd := dep_dd L
  have sh : SeqAt.shaped (.tuple (L.map Dd.py)) = true := by
    unfold SeqAt.shaped
    rw [Bool.and_eq_true]
    exact ⟨by simp only [PyData.canLay0, lay_dd], decide_eq_true (by simp only [PyData.depth]; omega)⟩
  have sn : SeqAt.shaped (.tuple []) = true := rfl
  have e2 : Z.toPys [] = some [] := rfl
  simp only [toPy, toPys_dd, e2, sh, sn, Bool.and_self, if_true]
  cases L with
  | nil => rfl
  | cons q L => rfl
/-- one more deed -/
theorem de_step (f : Feed1 o) {n : Nat} (hn : n ≤ 4) {b : Int} (hb : 1 ≤ b ∧ b ≤ 3) {l : List Int} (hl : Li l) (hs : l.Pairwise (fun a b => b ≤ a)) (h6 : l.length ≤ 6) (s0 t row on dd sm kk lt c0 : Option D) :
    ∃ l' dd' sm' lt' o', execSs (progP pds 19) bDe [s0, some (.loc 0), t, some (.int (n : Int)), some (.int b), some (tI l), row, on, dd, sm, kk, lt, c0] [o] = .nx [s0, some (.loc 0), t, some (.int (n : Int)), some (.int b), some (tI l'), row, on, dd', sm', kk, lt', c0] [o'] ∧ Feed1 o' ∧ Li l' ∧ l'.Pairwise (fun a b => b ≤ a) ∧ l'.length ≤ 6 := by
  have ok := f.ok
  obtain ⟨L, d1, d2, d3, d4⟩ := deeds19 ok hn (show l.length ≤ 48 by omega) b
  have es : evalC (progP pds 19) cSm [s0, some (.loc 0), t, some (.int (n : Int)), some (.int b), some (tI l), row, on, dd, sm, kk, lt, c0] [o] = .ok (.tup (L.map Dd.d)) [o] := by
    unfold cSm
    simp only [ev_callk, evs_cons, evs_nil, ev_var, List.getD_cons_succ, List.getD_cons_zero, lift_some, Out.bind_ok, pl3, d1]
  have et : evalC (progP pds 19) tD [s0, some (.loc 0), t, some (.int (n : Int)), some (.int b), some (tI l), row, on, dd, some (.tup (L.map Dd.d)), kk, lt, c0] [o] = .ok (.bl (!decide (L = []) && decide (l.length < 6))) [o] := by
    unfold tD
    simp only [ev_and, ev_cmp, ev_tup, evs_nil, ev_var, List.getD_cons_succ, List.getD_cons_zero, lift_some, Out.bind_ok, cmpD_ne, eq_dd, Option.map_some, asBl_bl]
    by_cases h : L = []
    · rw [decide_eq_true h]; rfl
    · rw [decide_eq_false h]
      simp only [Bool.not_false, if_true, ev_bi, evs_cons, evs_nil, ev_var, List.getD_cons_succ, List.getD_cons_zero, lift_some, Out.bind_ok, bi_len_tup, List.length_map, ev_con, cmpD_lt, Option.map_some, Bool.true_and]
      have e6 : decide ((l.length : Int) < 6) = decide (l.length < 6) := by
        by_cases h : l.length < 6
        · rw [decide_eq_true h, decide_eq_true (by omega)]
        · rw [decide_eq_false h, decide_eq_false (by omega)]
      rw [e6]
  by_cases hgo : L ≠ [] ∧ l.length < 6
  · obtain ⟨q, hq, o', q1, f'⟩ := dray (o := o) (G := progP pds 19) (e := [s0, some (.loc 0), t, some (.int (n : Int)), some (.int b), some (tI l), row, on, dd, some (.tup (L.map Dd.d)), kk, lt, c0]) (.inl rfl) hgo.1 d4 f rfl rfl
    have hk := d2 q hq
    have ok' := f'.ok
    have dn := done (k := 16) ok' hk hl hs (by omega) b
    have gl := go_li hk hl hb
    have g1 := glow_of (k := 17) ok' gl
    have g2 := glow_of (k := 17) ok' hl
    have g3 := glow_due (k := 17) ok' hk hl (glow l) hb
    rw [due_eq hk] at g1
    have gn := go_len hk b
    refine ⟨q.go l b, some q.d, some (.tup (L.map Dd.d)), some (tI (q.go l b)), o', ?_, f', gl, go_desc l q b, by omega⟩
    have eD : evalC (progP pds 19) cDn2 [s0, some (.loc 0), t, some (.int (n : Int)), some (.int b), some (tI l), row, on, some q.d, some (.tup (L.map Dd.d)), kk, lt, c0] [o'] = .ok (tI (q.go l b)) [o'] := by
      unfold cDn2
      simp only [ev_callk, evs_cons, evs_nil, ev_var, List.getD_cons_succ, List.getD_cons_zero, lift_some, Out.bind_ok, pl4, dn]
    have eN : evalC (progP pds 19) cNe2 [s0, some (.loc 0), t, some (.int (n : Int)), some (.int b), some (tI l), row, on, some q.d, some (.tup (L.map Dd.d)), kk, some (tI (q.go l b)), c0] [o'] = .ok (.bl false) [o'] := by
      unfold cNe2
      simp only [ev_cmp, ev_call, evs_cons, evs_nil, ev_var, List.getD_cons_succ, List.getD_cons_zero, lift_some, Out.bind_ok, g1, g2, g3, cmpD_ne, eqD_int, Option.map_some]
      simp
    unfold bDe bDi
    have tt : (!decide (L = []) && decide (l.length < 6)) = true := by rw [decide_eq_false hgo.1, decide_eq_true hgo.2]; rfl
    rw [tt] at et
    simp only [xs_cons, x_set, es, Out.fl_ok, List.set_cons_succ, List.set_cons_zero, Fl.andThen_nx, x_ite, evt, et, Out.bind_ok, asBl_bl, if_true, q1, eD, eN, Bool.false_eq_true, if_false, xs_nil, ev_var, List.getD_cons_succ, List.getD_cons_zero, lift_some]
  · refine ⟨l, dd, some (.tup (L.map Dd.d)), lt, o, ?_, f, hl, hs, h6⟩
    have tt : (!decide (L = []) && decide (l.length < 6)) = false := by
      by_cases h : L = []
      · rw [decide_eq_true h]; rfl
      · rw [decide_eq_false (fun z => hgo ⟨h, z⟩), Bool.and_false]
    rw [tt] at et
    unfold bDe
    simp only [xs_cons, x_set, es, Out.fl_ok, List.set_cons_succ, List.set_cons_zero, Fl.andThen_nx, x_ite, evt, et, Out.bind_ok, asBl_bl, Bool.false_eq_true, if_false, xs_nil]
theorem de_loop {n : Nat} (hn : n ≤ 4) {b : Int} (hb : 1 ≤ b ∧ b ≤ 3) (s0 t row on c0 : Option D) : ∀ (ts : List Nat) {o : MO} {l : List Int} (dd sm kk lt : Option D), Feed1 o → Li l → l.Pairwise (fun a b => b ≤ a) → l.length ≤ 6 →
    ∃ l' dd' sm' kk' lt' o', forGo (fun _ => true) (fun e m => execSs (progP pds 19) bDe e m) (.nm 10) (ts.map fun (k : Nat) => D.int (k : Int)) [s0, some (.loc 0), t, some (.int (n : Int)), some (.int b), some (tI l), row, on, dd, sm, kk, lt, c0] [o] = .nx [s0, some (.loc 0), t, some (.int (n : Int)), some (.int b), some (tI l'), row, on, dd', sm', kk', lt', c0] [o'] ∧ Feed1 o' ∧ Li l' ∧ l'.Pairwise (fun a b => b ≤ a) ∧ l'.length ≤ 6
  | [], o, l, dd, sm, kk, lt, f, hl, hs, h6 => ⟨l, dd, sm, kk, lt, o, by rw [List.map_nil]; unfold forGo; exact if_pos rfl, f, hl, hs, h6⟩
  | a :: ts, o, l, dd, sm, kk, lt, f, hl, hs, h6 => by
    obtain ⟨l1, dd1, sm1, lt1, o1, q1, f1, hl1, hs1, h61⟩ := de_step f hn hb hl hs h6 s0 t row on dd sm (some (.int (a : Int))) lt c0
    obtain ⟨l2, dd2, sm2, kk2, lt2, o2, q2, r2⟩ := de_loop hn hb s0 t row on c0 ts dd1 sm1 (some (.int (a : Int))) lt1 f1 hl1 hs1 h61
    refine ⟨l2, dd2, sm2, kk2, lt2, o2, ?_, r2⟩
    rw [List.map_cons]
    unfold forGo
    rw [if_pos rfl, bind_nm]
    simp only [List.set_cons_succ, List.set_cons_zero, q1, q2]
/-- the looks at what comes out -/
theorem out_ok {G : Sg} {l : List Int} {n : Nat} {b : Int} (ok : OkO o) (hl : Li l) (hs : l.Pairwise (fun a b => b ≤ a)) (h6 : l.length ≤ 6) {e : Z.Env} (h5 : e.getD 5 none = some (tI l)) (h3 : e.getD 3 none = some (.int (n : Int))) (h4 : e.getD 4 none = some (.int b)) :
    evalC (progP pds 19) cO1 e [o] = .ok (.bl false) [o] ∧ evalC (progP pds 19) cO2 e [o] = .ok (.bl false) [o] := by
  obtain ⟨xs, c1, c2, c3⟩ := copied (k := 17) ok hl hs h6
  have io := is_out (k := 14) ok n b c2 c3 hl hs h6
  constructor
  · unfold cO1
    simp only [ev_not, ev_call, evs_cons, evs_nil, ev_var, h5, h3, h4, lift_some, Out.bind_ok, c1, io, asBl_bl, Bool.not_true]
  · unfold cO2
    simp only [ev_not, ev_call, ev_callk, evs_cons, evs_nil, ev_var, h5, h3, h4, lift_some, Out.bind_ok, placed_1, c1, io, asBl_bl, Bool.not_true]
theorem lap (f : Feed1 o) (s0 t a3 a4 a5 a6 a7 a8 a9 a10 a11 a12 : Option D) : ∃ ys o', ys.length = 11 ∧ execSs (progP pds 19) bLap [s0, some (.loc 0), t, a3, a4, a5, a6, a7, a8, a9, a10, a11, a12] [o] = .nx (s0 :: some (.loc 0) :: ys) [o'] ∧ Feed1 o' := by
  obtain ⟨r1, o1, d1, r10, r11, f1⟩ := draw_at (k := 18) f (many := 3) (by decide) (by decide)
  obtain ⟨r2, o2, d2, r20, r21, f2⟩ := draw_at (k := 18) f1 (many := 3) (by decide) (by decide)
  obtain ⟨n, hn⟩ : ∃ n : Nat, 2 + r1 = (n : Int) := ⟨(2 + r1).toNat, by omega⟩
  have hn4 : n ≤ 4 := by omega
  obtain ⟨b, hb⟩ : ∃ b : Int, 1 + r2 = b := ⟨_, rfl⟩
  have hb3 : 1 ≤ b ∧ b ≤ 3 := by omega
  obtain ⟨l, o3, l1, f3, hl, hs, h5⟩ := lights (k := 17) f2 hb3
  have eP : evalCs (progP pds 19) cP [s0, some (.loc 0), t, a3, a4, a5, a6, a7, a8, a9, a10, a11, a12] [o] = .ok [.int (n : Int), .int b] [o2] := by
    unfold cP
    simp only [evs_cons, evs_nil, ev_bin, ev_con, ev_call, ev_var, List.getD_cons_succ, List.getD_cons_zero, lift_some, Out.bind_ok, d1, d2, binD_add, hn, hb]
  have eL : evalC (progP pds 19) cLi [s0, some (.loc 0), t, some (.int (n : Int)), some (.int b), a5, a6, a7, a8, a9, a10, a11, a12] [o2] = .ok (tI l) [o3] := by
    unfold cLi
    simp only [evs_cons, evs_nil, ev_con, ev_call, ev_var, List.getD_cons_succ, List.getD_cons_zero, lift_some, Out.bind_ok, l1]
  have e12 := out_ok (G := progP pds 19) (l := l) (n := n) (b := b) f3.ok hl hs (by omega) (e := [s0, some (.loc 0), t, some (.int (n : Int)), some (.int b), some (tI l), a6, a7, a8, a9, a10, a11, a12]) rfl rfl rfl
  obtain ⟨xs, sm', o4, w1, f4, x1, x2⟩ := wh_ok f3 hn4 b hl hs (by omega) s0 t a8 a9 a10 a11 a12
  have io := is_out (k := 14) f4.ok n b x1 x2 hl hs (by omega)
  have e3 : evalC (progP pds 19) cO3 [s0, some (.loc 0), t, some (.int (n : Int)), some (.int b), some (tI l), some (.lst (xs.map cpd)), some (tI (run l xs)), a8, sm', a10, a11, a12] [o4] = .ok (.bl false) [o4] := by
    unfold cO3
    simp only [ev_not, ev_call, evs_cons, evs_nil, ev_bi, ev_var, List.getD_cons_succ, List.getD_cons_zero, lift_some, Out.bind_ok, bi_tuple_lst, io, asBl_bl, Bool.not_true]
  obtain ⟨l', dd', sm2, kk2, lt2, o5, q5, f5, hl', hs', h6'⟩ := de_loop hn4 hb3 s0 t (some (.lst (xs.map cpd))) (some (tI (run l xs))) a12 (List.range 5) a8 sm' a10 a11 f4 hl hs (by omega)
  have e45 := (out_ok (G := progP pds 19) (l := l') (n := n) (b := b) f5.ok hl' hs' h6' (e := [s0, some (.loc 0), t, some (.int (n : Int)), some (.int b), some (tI l'), some (.lst (xs.map cpd)), some (tI (run l xs)), dd', sm2, kk2, lt2, a12]) rfl rfl rfl).1
  have e4 : evalC (progP pds 19) cO4 [s0, some (.loc 0), t, some (.int (n : Int)), some (.int b), some (tI l'), some (.lst (xs.map cpd)), some (tI (run l xs)), dd', sm2, kk2, lt2, a12] [o5] = .ok (.bl false) [o5] := by
    unfold cO4
    simp only [ev_and, ev_cmp, ev_bi, evs_cons, evs_nil, ev_var, List.getD_cons_succ, List.getD_cons_zero, lift_some, Out.bind_ok, bi_len_tup, ev_con, cmpD_lt, Option.map_some, asBl_bl, e45, ite_self]
  have hr : ∀ m : Mem, rngS (.int 5) m = .ok ⟨(List.range 5).map fun (k : Nat) => D.int (k : Int), none⟩ m := fun m => rng_nat (n := 5) (by decide)
  refine ⟨[t, some (.int (n : Int)), some (.int b), some (tI l'), some (.lst (xs.map cpd)), some (tI (run l xs)), dd', sm2, kk2, lt2, a12], o5, rfl, ?_, f5⟩
  unfold bLap
  rw [xs_cons, x_par, eP, Out.fl_ok]
  simp only [setSome, List.set_cons_succ, List.set_cons_zero, Fl.andThen_nx]
  rw [xs_cons, x_set, eL, Out.fl_ok]
  simp only [List.set_cons_succ, List.set_cons_zero, Fl.andThen_nx]
  rw [xs_cons, x_ite, evt, e12.1, Out.bind_ok, asBl_bl, Out.fl_ok, if_neg Bool.false_ne_true, xs_nil, Fl.andThen_nx]
  rw [xs_cons, x_ite, evt, e12.2, Out.bind_ok, asBl_bl, Out.fl_ok, if_neg Bool.false_ne_true, xs_nil, Fl.andThen_nx]
  rw [xs_cons, x_par]
  simp only [evs_cons, evs_nil, ev_lst, ev_var, List.getD_cons_succ, List.getD_cons_zero, lift_some, Out.bind_ok, Out.fl_ok, setSome, List.set_cons_succ, List.set_cons_zero, Fl.andThen_nx]
  rw [xs_cons, x_while, w1, Fl.andThen_nx]
  rw [xs_cons, x_ite, evt, e3, Out.bind_ok, asBl_bl, Out.fl_ok, if_neg Bool.false_ne_true, xs_nil, Fl.andThen_nx]
  rw [xs_cons, x_for, evi_rng, ev_con, Out.bind_ok, hr, Out.fl_ok]
  show (forGo (fun _ => true) _ _ _ _ _).andThen _ = _
  rw [q5, Fl.andThen_nx]
  rw [xs_cons, x_ite, evt, e4, Out.bind_ok, asBl_bl, Out.fl_ok, if_neg Bool.false_ne_true, xs_nil, Fl.andThen_nx, xs_nil]
theorem laps (s0 : Option D) : ∀ (ts : List Nat) {xs : List (Option D)} {o : MO}, Feed1 o → xs.length = 11 → ∃ ys o', ys.length = 11 ∧ forGo (fun _ => true) (fun e m => execSs (progP pds 19) bLap e m) (.nm 2) (ts.map fun (k : Nat) => D.int (k : Int)) (s0 :: some (.loc 0) :: xs) [o] = .nx (s0 :: some (.loc 0) :: ys) [o'] ∧ Feed1 o'
  | [], xs, o, f, hx => ⟨xs, o, hx, by rw [List.map_nil]; unfold forGo; exact if_pos rfl, f⟩
  | a :: ts, xs, o, f, hx => by
    match xs, hx with
    | [a2, a3, a4, a5, a6, a7, a8, a9, a10, a11, a12], _ =>
      obtain ⟨ys, o1, hy, q1, f1⟩ := lap f s0 (some (.int (a : Int))) a3 a4 a5 a6 a7 a8 a9 a10 a11 a12
      obtain ⟨zs, o2, hz, q2, f2⟩ := laps s0 ts f1 hy
      refine ⟨zs, o2, hz, ?_, f2⟩
      rw [List.map_cons]
      unfold forGo
      rw [if_pos rfl, bind_nm]
      simp only [List.set_cons_succ, List.set_cons_zero, q1, q2]
theorem ends : LawEnds (progG K34.defs 20 18) 63 := by
  refine law_ends (ds := defs) (k := 19) (n := 18) (fi := 11) (si := 1) (f := f_law) (rest := tail1 b_law) rfl rfl (by decide) (by decide) (by kernel_rfl) (by kernel_rfl) fun ns _ => ?_
  have f0 : Feed1 (FdO (ns.take 63) 0 0 0) := ⟨_, _, _, _, Int.le_refl _, rfl⟩
  refine ⟨_, f0.ok, feed11 ns, ?_⟩
  rw [bLaw_eq]
  show ∃ o', execSs (progP pds 19) bLaw [some (.scr ns), some (.loc 0), none, none, none, none, none, none, none, none, none, none, none] [FdO (ns.take 63) 0 0 0] = _
  obtain ⟨ys, o2, _, q, _⟩ := laps (some (.scr ns)) (List.range 5) (xs := [none, none, none, none, none, none, none, none, none, none, none]) f0 rfl
  refine ⟨o2, ?_⟩
  have hr : ∀ m : Mem, rngS (.int 5) m = .ok ⟨(List.range 5).map fun (k : Nat) => D.int (k : Int), none⟩ m := fun m => rng_nat (n := 5) (by decide)
  unfold bLaw
  rw [xs_cons, x_for, evi_rng, ev_con, Out.bind_ok, hr, Out.fl_ok]
  show (forGo (fun _ => true) _ _ _ _ _).andThen _ = _
  rw [q, Fl.andThen_nx, xs_cons, x_ret, ev_con]
  rfl
end K34
open PySem PySem.W PyProof.Rows Z
set_option maxRecDepth 100000 in
set_option maxHeartbeats 0 in
theorem PySem.Challenge.cw_handsmade_k34_whole_copied_out_holds : PySem.Challenge.rw_handsmade_k34_whole_copied_out.Holds := by
  w_on; o_law; k_head; (case hw => w_witness2)
  k_fill
  refine Z.law_walk (l := PySem.Challenge.rw_handsmade_k34_whole_copied_out) (n := 63) (k := 20) (x := "_law_script") (S := progG K34.defs 20 18) rfl (by decide) rfl ⟨rfl, by decide, by decide⟩ (fun w h Y => PySem.W.kIn_of Y) ?F K34.ends
  case F =>
    intro w mg fa h KX G hmg
    refine' K34.law_at KX G hmg ?n0 ?l0 ?c0 ?k0 ?n1 ?l1 ?c1 ?k1 ?n2 ?l2 ?c2 ?k2 ?n3 ?l3 ?c3 ?k3 ?n4 ?l4 ?c4 ?k4 ?n5 ?l5 ?c5 ?k5 ?n6 ?l6 ?c6 ?k6 ?n7 ?l7 ?c7 ?k7 ?n8 ?l8 ?c8 ?k8 ?n9 ?l9 ?c9 ?k9 ?n10 ?l10 ?c10 ?k10 ?n11 ?l11 ?c11 ?k11 ?n12 ?l12 ?c12 ?k12 ?n13 ?l13 ?c13 ?k13 ?n14 ?l14 ?c14 ?k14 ?n15 ?l15 ?c15 ?k15 ?n16 ?l16 ?c16 ?k16 ?n17 ?l17 ?c17 ?k17 ?n18 ?l18 ?c18 ?k18 ?z0 ?z1 ?z2 ?z3 ?z4 ?z5 ?z6 ?z7 ?z8 ?z9 ?z10 ?z11
    (case n0 => k_is); (case l0 => k_is); (case c0 => k_is); (case k0 => k_is)
    (case n1 => k_is); (case l1 => k_is); (case c1 => k_is); (case k1 => k_is)
    (case n2 => k_is); (case l2 => k_is); (case c2 => k_is); (case k2 => k_is)
    (case n3 => k_is); (case l3 => k_is); (case c3 => k_is); (case k3 => k_is)
    (case n4 => k_is); (case l4 => k_is); (case c4 => k_is); (case k4 => k_is)
    (case n5 => k_is); (case l5 => k_is); (case c5 => k_is); (case k5 => k_is)
    (case n6 => k_is); (case l6 => k_is); (case c6 => k_is); (case k6 => k_is)
    (case n7 => k_is); (case l7 => k_is); (case c7 => k_is); (case k7 => k_is)
    (case n8 => k_is); (case l8 => k_is); (case c8 => k_is); (case k8 => k_is)
    (case n9 => k_is); (case l9 => k_is); (case c9 => k_is); (case k9 => k_is)
    (case n10 => k_is); (case l10 => k_is); (case c10 => k_is); (case k10 => k_is)
    (case n11 => k_is); (case l11 => k_is); (case c11 => k_is); (case k11 => k_is)
    (case n12 => k_is); (case l12 => k_is); (case c12 => k_is); (case k12 => k_is)
    (case n13 => k_is); (case l13 => k_is); (case c13 => k_is); (case k13 => k_is)
    (case n14 => k_is); (case l14 => k_is); (case c14 => k_is); (case k14 => k_is)
    (case n15 => k_is); (case l15 => k_is); (case c15 => k_is); (case k15 => k_is)
    (case n16 => k_is); (case l16 => k_is); (case c16 => k_is); (case k16 => k_is)
    (case n17 => k_is); (case l17 => k_is); (case c17 => k_is); (case k17 => k_is)
    (case n18 => k_is); (case l18 => k_is); (case c18 => k_is); (case k18 => k_is)
    (case z0 => k_is)
    (case z1 => k_is)
    (case z2 => k_is)
    (case z3 => k_is)
    (case z4 => k_is)
    (case z5 => k_is)
    (case z6 => k_is)
    (case z7 => k_is)
    (case z8 => k_is)
    (case z9 => k_is)
    (case z10 => k_is)
    (case z11 => k_is)
