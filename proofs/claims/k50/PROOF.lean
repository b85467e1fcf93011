import PyProof.Rows.All
import Wide.All
import OpenK.AllK
import Wide.FinOn
import HandS.ForMost
import HandS.Exc
import HandS.CallSlots
import HandS.DictComp
import HandS.DeepEq
import HandS.Wide
import KE.SortData
import HandS.Defaults
import HandS.ExcCtx
import HandS.IsInst
import HandS.TupLe
import HandS.ExcOwn
import HandS.WideBits
import HandS.Style
import HandS.TupAny
import HandS.StrMore
import HandS.Conv
import HandS.More
import HandS.Small
import KE.LtData
import HandS.Deep
import HandS.TupLen
import HandS.FltList
import HandS.RaiseMore
import HandS.Text
import HandS.SetFor
import HandS.Iter
import KE.KStateDown
import HandS.Words
import HandS.WordsExc
import HandS.Ends
import HandS.Head0
import HandS.Head1
import HandS.Head2
import HandS.HeadEnd
import HandS.HeadHook1
import HandS.HeadHook2
import PyProof.ExcBaseAll.ValueError
import KE.DataCmp
import KE.DataMinMax
import HandS.SetKeys
import HandS.Finally
import HandS.TupSets
import HandS.HotCalls
import HandS.ExcIs
import HandS.Set
import HandS.SetTxt0
import HandS.Strs
import PyProof.StrLawsChain
import PyProof.StrLawsTight
import PyProof.Rows.StrSplitCount
import PyProof.Rows.StrSplitJoin
import PyProof.StrBlock2
import PySem.Challenge.RW_asklines_k50_texts_of_no_line_and_no_log
section
set_option Elab.async false
set_option linter.all false
set_option maxRecDepth 100000
set_option maxHeartbeats 4000000
/-! data with handles, a world of cells, and how both stand for the abstract heap -/
namespace Y
open PySem PySem.Spec PyProof.Rows L2

/-! ### tables -/
section
variable {κ α β : Type} [DecidableEq κ]
def gA (k : κ) : List (κ × α) → Option α
  | [] => none
  | p :: r => if p.1 = k then some p.2 else gA k r
def pA (k : κ) (v : α) : List (κ × α) → List (κ × α)
  | [] => [(k, v)]
  | p :: r => if p.1 = k then (p.1, v) :: r else p :: pA k v r
def dA (k : κ) (l : List (κ × α)) : List (κ × α) := l.filter fun p => decide (p.1 ≠ k)
def mA (l : List (κ × α)) : List (κ × α) → List (κ × α)
  | [] => l
  | p :: r => mA (pA p.1 p.2 l) r
end

inductive D where
  | non | bl (b : Bool) | int (i : Int) | str (x : Str)
  | lst (xs : List D) | tup (xs : List D)
  | dic (kvs : List (Key × D)) | dct (kvs : List (List Key × D))
  | ref (i : Nat) | sub (i : Nat) (k : Key) | obj (a : Addr)
  /-- a list that is read alone -/
  | sl (xs : List D)

inductive O where
  | lst (xs : List D) | dK (kvs : List (Key × D)) | dT (kvs : List (List Key × D)) | dL (kvs : List (Key × List D))
  | ins (C : Addr) (fs : List (Str × D))
  | lkK (kvs : List (Key × D)) | lkT (kvs : List (List Key × D))
  | fz (d : D) | dead

abbrev Wd := List O
abbrev Rho := List (Option D)
structure Exn where
  cls : Addr
  pay : Option (List (Str × D))
inductive Rs (α : Type) where
  | ok (a : α) (R : Wd) | exc (c : Exn) (R : Wd) | stuck
inductive SRs where
  | nx (ρ : Rho) (R : Wd) | rt (d : D) (R : Wd) | bk (ρ : Rho) (R : Wd) | ct (ρ : Rho) (R : Wd) | exc (c : Exn) (ρ : Rho) (R : Wd) | stuck

/-- the witness: the part of the heap that stays, the cells' addresses, the inner lists' addresses, the locks -/
structure Wt where
  hs : Hp
  m : Nat → Option Addr
  inn : Nat → Key → Option Addr
  lk : Nat → Option HO

mutual
inductive RelD (K : PySem.W.Frag) (w : Wt) : V → D → Prop
  | non : RelD K w .non .non
  | bl (b : Bool) : RelD K w (.bl b) (.bl b)
  | int (i : Int) : RelD K w (.int i) (.int i)
  | str (x : Str) : RelD K w (.str x) (.str x)
  | lst {a : Addr} {vs : List V} {xs : List D} : w.hs a = some (.lst vs) → RelDs K w vs xs → RelD K w (.ref a) (.lst xs)
  | tup {a : Addr} {vs : List V} {xs : List D} : w.hs a = some (.tup vs) → RelDs K w vs xs → RelD K w (.ref a) (.tup xs)
  | dic {a : Addr} {od : Obj} {kv : List (Key × V)} {kvs : List (Key × D)} : w.hs a = some (.frz od (.dK kv)) → kv.map (·.1) = kvs.map (·.1) → RelDs K w (kv.map (·.2)) (kvs.map (·.2)) → RelD K w (.ref a) (.dic kvs)
  | dct {a : Addr} {od : Obj} {kv : List (List Key × V)} {kvs : List (List Key × D)} : w.hs a = some (.frz od (.dT kv)) → kv.map (·.1) = kvs.map (·.1) → RelDs K w (kv.map (·.2)) (kvs.map (·.2)) → RelD K w (.ref a) (.dct kvs)
  | ref {i : Nat} {a : Addr} : w.m i = some a → RelD K w (.ref a) (.ref i)
  | sub {i : Nat} {k : Key} {a : Addr} : w.inn i k = some a → RelD K w (.ref a) (.sub i k)
  | obj (a : Addr) : RelD K w (.ref a) (.obj a)
  | sl {a : Addr} {vs : List V} {xs : List D} : SqL K w.hs a vs → RelDs K w vs xs → RelD K w (.ref a) (.sl xs)
inductive RelDs (K : PySem.W.Frag) (w : Wt) : List V → List D → Prop
  | nil : RelDs K w [] []
  | cons {v : V} {d : D} {vs : List V} {ds : List D} : RelD K w v d → RelDs K w vs ds → RelDs K w (v :: vs) (d :: ds)
end

/-- what is read stays to be read -/
structure Wt.rl (w w' : Wt) : Prop where
  rd : ∀ a u, Rd w.hs a u → Rd w'.hs a u
  tp : ∀ a xs, w.hs a = some (.tup xs) → w'.hs a = some (.tup xs)
  fz : ∀ a o u, w.hs a = some (.frz o u) → w'.hs a = some (.frz o u)
  ls : ∀ a xs, w.hs a = some (.lst xs) → w'.hs a = some (.lst xs)
  m : ∀ i a, w.m i = some a → w'.m i = some a
  inn : ∀ i k a, w.inn i k = some a → w'.inn i k = some a
/-- all stays as it is -/
structure Wt.le (w w' : Wt) : Prop where
  hs : ∀ a o, w.hs a = some o → w'.hs a = some o
  m : ∀ i a, w.m i = some a → w'.m i = some a
  inn : ∀ i k a, w.inn i k = some a → w'.inn i k = some a
  lk : ∀ i o, w.lk i = some o → w'.lk i = some o
theorem Wt.le.refl (w : Wt) : w.le w := ⟨fun _ _ h => h, fun _ _ h => h, fun _ _ _ h => h, fun _ _ h => h⟩
theorem Wt.le.trans {a b c : Wt} (x : a.le b) (y : b.le c) : a.le c :=
  ⟨fun a u h => y.hs a u (x.hs a u h), fun i a h => y.m i a (x.m i a h), fun i k a h => y.inn i k a (x.inn i k a h), fun i o h => y.lk i o (x.lk i o h)⟩
theorem Wt.le.rl {w w' : Wt} (x : w.le w') : w.rl w' := by
  refine ⟨fun a u h => ?_, fun a xs h => x.hs _ _ h, fun a o u h => x.hs _ _ h, fun a xs h => x.hs _ _ h, x.m, x.inn⟩
  rcases h with h | ⟨o, h⟩
  · exact .inl (x.hs _ _ h)
  · exact .inr ⟨o, x.hs _ _ h⟩
theorem Wt.rl.seqL {K : PySem.W.Frag} {w w' : Wt} (x : w.rl w') {a : Addr} {xs : List V} (h : SqL K w.hs a xs) : SqL K w'.hs a xs := by
  rcases h with h | h
  · exact .inl (x.rd _ _ h)
  · exact .inr h
section
variable {K : PySem.W.Frag} {w w' : Wt}
theorem RelD.imp (x : w.rl w') {v : V} {d : D} (h : RelD K w v d) : RelD K w' v d :=
  RelD.rec (motive_1 := fun v d _ => RelD K w' v d) (motive_2 := fun vs ds _ => RelDs K w' vs ds) .non .bl .int .str (fun h1 _ h2 => .lst (x.ls _ _ h1) h2) (fun h1 _ h2 => .tup (x.tp _ _ h1) h2)
    (fun h1 h2 _ h3 => .dic (x.fz _ _ _ h1) h2 h3) (fun h1 h2 _ h3 => .dct (x.fz _ _ _ h1) h2 h3) (fun h => .ref (x.m _ _ h)) (fun h => .sub (x.inn _ _ _ h)) .obj (fun h1 _ h2 => .sl (x.seqL h1) h2) .nil (fun _ _ h1 h2 => .cons h1 h2) h
theorem RelDs.imp (x : w.rl w') {vs : List V} {ds : List D} (h : RelDs K w vs ds) : RelDs K w' vs ds := by
  induction ds generalizing vs with
  | nil => cases h; exact .nil
  | cons d ds ih => cases h with | cons a b => exact .cons (a.imp x) (ih b)
theorem RelD.mono (x : w.le w') {v : V} {d : D} (h : RelD K w v d) : RelD K w' v d := h.imp x.rl
theorem RelDs.mono (x : w.le w') {vs : List V} {ds : List D} (h : RelDs K w vs ds) : RelDs K w' vs ds := h.imp x.rl
theorem RelDs.length {vs : List V} {ds : List D} (h : RelDs K w vs ds) : vs.length = ds.length := by
  induction ds generalizing vs with
  | nil => cases h; rfl
  | cons d ds ih => cases h with | cons _ t => simp [ih t]
theorem RelDs.get {vs : List V} {ds : List D} (h : RelDs K w vs ds) : ∀ {i : Nat} {d : D}, ds[i]? = some d → ∃ v, vs[i]? = some v ∧ RelD K w v d := by
  induction ds generalizing vs with
  | nil => intro i d e; simp at e
  | cons d0 ds ih =>
    cases h with
    | cons h1 t =>
      intro i d e
      cases i with
      | zero => simp at e; subst e; exact ⟨_, rfl, h1⟩
      | succ i => simp at e; obtain ⟨v, a, b⟩ := ih t e; exact ⟨v, by simpa using a, b⟩
theorem RelDs.append {vs us : List V} {ds es : List D} (h : RelDs K w vs ds) (h' : RelDs K w us es) : RelDs K w (vs ++ us) (ds ++ es) := by
  induction ds generalizing vs with
  | nil => cases h; exact h'
  | cons d0 ds ih => cases h with | cons h1 t => exact .cons h1 (ih t)
theorem RelDs.one {v : V} {d : D} (h : RelD K w v d) : RelDs K w [v] [d] := .cons h .nil
theorem RelDs.snoc {vs : List V} {ds : List D} {v : V} {d : D} (h : RelDs K w vs ds) (h' : RelD K w v d) : RelDs K w (vs ++ [v]) (ds ++ [d]) := h.append (.one h')
theorem RelDs.ofGet {vs : List V} {ds : List D} (hl : vs.length = ds.length) (h : ∀ (i : Nat) (v : V) (d : D), vs[i]? = some v → ds[i]? = some d → RelD K w v d) : RelDs K w vs ds := by
  induction ds generalizing vs with
  | nil => cases vs with | nil => exact .nil | cons _ _ => simp at hl
  | cons d0 ds ih =>
    cases vs with
    | nil => simp at hl
    | cons v vs => exact .cons (h 0 v d0 rfl rfl) (ih (by simpa using hl) fun i v d a b => h (i + 1) v d (by simpa using a) (by simpa using b))
theorem RelDs.get2 {vs : List V} {ds : List D} (h : RelDs K w vs ds) {i : Nat} {v : V} {d : D} (a : vs[i]? = some v) (b : ds[i]? = some d) : RelD K w v d := by
  obtain ⟨v', e, r⟩ := h.get b
  rw [a] at e; cases e; exact r
theorem RelDs.drop {vs : List V} {ds : List D} (h : RelDs K w vs ds) (n : Nat) : RelDs K w (vs.drop n) (ds.drop n) :=
  .ofGet (by simp [h.length]) fun i v d a b => h.get2 (by simpa [List.getElem?_drop] using a) (by simpa [List.getElem?_drop] using b)
theorem RelDs.take {vs : List V} {ds : List D} (h : RelDs K w vs ds) (n : Nat) : RelDs K w (vs.take n) (ds.take n) := by
  induction ds generalizing vs n with
  | nil => cases h; simp; exact .nil
  | cons d0 ds ih =>
    cases h with
    | cons h1 t => cases n with
      | zero => exact .nil
      | succ n => exact .cons h1 (ih t n)
theorem RelDs.set {vs : List V} {ds : List D} (h : RelDs K w vs ds) (i : Nat) {v : V} {d : D} (r : RelD K w v d) : RelDs K w (vs.set i v) (ds.set i d) := by
  induction ds generalizing vs i with
  | nil => cases h; exact .nil
  | cons d0 ds ih =>
    cases h with
    | cons h1 t => cases i with
      | zero => exact .cons r t
      | succ i => exact .cons h1 (ih t i)
theorem RelDs.reverse {vs : List V} {ds : List D} (h : RelDs K w vs ds) : RelDs K w vs.reverse ds.reverse := by
  induction ds generalizing vs with
  | nil => cases h; exact .nil
  | cons d0 ds ih => cases h with | cons h1 t => simp only [List.reverse_cons]; exact (ih t).snoc h1
theorem RelDs.eraseIdx {vs : List V} {ds : List D} (h : RelDs K w vs ds) (i : Nat) : RelDs K w (vs.eraseIdx i) (ds.eraseIdx i) := by
  induction ds generalizing vs i with
  | nil => cases h; exact .nil
  | cons d0 ds ih =>
    cases h with
    | cons h1 t => cases i with
      | zero => exact t
      | succ i => exact .cons h1 (ih t i)

/-! entries -/
section
variable {κ : Type} [DecidableEq κ]
def RelK (K : PySem.W.Frag) (w : Wt) (kv : List (κ × V)) (kvs : List (κ × D)) : Prop := kv.map (·.1) = kvs.map (·.1) ∧ RelDs K w (kv.map (·.2)) (kvs.map (·.2))
theorem RelK.nil : RelK K w ([] : List (κ × V)) [] := ⟨rfl, .nil⟩
theorem RelK.cons {p : κ × V} {q : κ × D} {kv : List (κ × V)} {kvs : List (κ × D)} (e : p.1 = q.1) (h : RelD K w p.2 q.2) (t : RelK K w kv kvs) : RelK K w (p :: kv) (q :: kvs) :=
  ⟨by simp [e, t.1], .cons h t.2⟩
theorem RelK.inv {q : κ × D} {kv : List (κ × V)} {kvs : List (κ × D)} (h : RelK K w kv (q :: kvs)) : ∃ p r, kv = p :: r ∧ p.1 = q.1 ∧ RelD K w p.2 q.2 ∧ RelK K w r kvs := by
  obtain ⟨h1, h2⟩ := h
  cases kv with
  | nil => simp at h1
  | cons p r =>
    simp only [List.map_cons, List.cons.injEq] at h1 h2
    cases h2 with
    | cons a b => exact ⟨p, r, rfl, h1.1, a, h1.2, b⟩
theorem RelK.inv0 {kv : List (κ × V)} (h : RelK K w kv ([] : List (κ × D))) : kv = [] := by
  cases kv with | nil => rfl | cons p r => have := h.1; simp at this
theorem RelK.imp (x : w.rl w') {kv : List (κ × V)} {kvs : List (κ × D)} (h : RelK K w kv kvs) : RelK K w' kv kvs := ⟨h.1, h.2.imp x⟩
theorem RelK.mono (x : w.le w') {kv : List (κ × V)} {kvs : List (κ × D)} (h : RelK K w kv kvs) : RelK K w' kv kvs := ⟨h.1, h.2.mono x⟩
theorem RelK.length {kv : List (κ × V)} {kvs : List (κ × D)} (h : RelK K w kv kvs) : kv.length = kvs.length := by simpa using congrArg List.length h.1
theorem RelK.val {kvs : List (κ × D)} (k : κ) : ∀ {kv : List (κ × V)}, RelK K w kv kvs → (gA k kvs = none → valV kv k = none) ∧ ∀ d, gA k kvs = some d → ∃ v, valV kv k = some v ∧ RelD K w v d := by
  induction kvs with
  | nil => intro kv h; cases h.inv0; exact ⟨fun _ => rfl, fun d e => by simp [gA] at e⟩
  | cons q kvs ih =>
    intro kv h
    obtain ⟨p, r, rfl, e, hd, t⟩ := h.inv
    by_cases c : q.1 = k
    · refine ⟨fun z => by simp [gA, c] at z, fun d z => ?_⟩
      simp only [gA, c, if_true, Option.some.injEq] at z
      subst z
      exact ⟨p.2, valV_pos (e.trans c), hd⟩
    · have c' : ¬ p.1 = k := fun z => c (e.symm.trans z)
      simp only [gA, if_neg c]
      rw [valV_neg c']
      exact ih t
theorem RelK.put {kvs : List (κ × D)} (k : κ) {v : V} {d : D} (r : RelD K w v d) : ∀ {kv : List (κ × V)}, RelK K w kv kvs → (kvs.map (·.1)).Nodup → RelK K w (putK kv k v) (pA k d kvs) := by
  induction kvs with
  | nil => intro kv h _; cases h.inv0; exact .cons rfl r .nil
  | cons q kvs ih =>
    intro kv h nd
    obtain ⟨p, rr, rfl, e, hd, t⟩ := h.inv
    simp only [List.map_cons, List.nodup_cons] at nd
    by_cases c : q.1 = k
    · have c' : p.1 = k := e.trans c
      have e1 : putK (p :: rr) k v = (p.1, v) :: rr := by
        unfold putK
        simp only [List.any_cons, c', decide_true, Bool.true_or, if_true, List.map_cons]
        congr 1
        have : ∀ x ∈ rr, (if x.1 = k then (x.1, v) else x) = x := fun x hx => by
          have : x.1 ≠ k := fun z => nd.1 (by
            rw [c, ← t.1, ← z]
            exact List.mem_map.mpr ⟨x, hx, rfl⟩)
          rw [if_neg this]
        exact (List.map_congr_left this).trans (List.map_id' rr)
      have e2 : pA k d (q :: kvs) = (q.1, d) :: kvs := by simp [pA, c]
      rw [e1, e2]
      exact .cons e r t
    · have c' : ¬ p.1 = k := fun z => c (e.symm.trans z)
      have e1 : putK (p :: rr) k v = p :: putK rr k v := by
        unfold putK
        simp only [List.any_cons, c', decide_false, Bool.false_or]
        split
        · simp [c']
        · rfl
      have e2 : pA k d (q :: kvs) = q :: pA k d kvs := by simp [pA, c]
      rw [e1, e2]
      exact .cons e hd (ih t nd.2)
theorem RelK.drop {kvs : List (κ × D)} (k : κ) : ∀ {kv : List (κ × V)}, RelK K w kv kvs → RelK K w (dropK kv k) (dA k kvs) := by
  induction kvs with
  | nil => intro kv h; cases h.inv0; exact .nil
  | cons q kvs ih =>
    intro kv h
    obtain ⟨p, rr, rfl, e, hd, t⟩ := h.inv
    unfold dropK dA
    by_cases c : q.1 = k
    · have c' : p.1 = k := e.trans c
      simp only [List.filter_cons, c, c', ne_eq, not_true_eq_false, decide_false, Bool.false_eq_true, if_false]
      exact ih t
    · have c' : ¬ p.1 = k := fun z => c (e.symm.trans z)
      simp only [List.filter_cons, c, c', ne_eq, not_false_eq_true, decide_true, if_true]
      exact .cons e hd (ih t)
end
end
end Y
end
section
set_option Elab.async false
set_option linter.all false
set_option maxRecDepth 100000
set_option maxHeartbeats 4000000
namespace Y
open PySem PySem.Spec PyProof.Rows L2

/-! ### the world -/
def InnR (K : PySem.W.Frag) (w : Wt) (H : Hp) (i : Nat) : List (Key × V) → List (Key × List D) → Prop
  | [], [] => True
  | p :: r, q :: r' => p.1 = q.1 ∧ (∃ b vs, p.2 = .ref b ∧ w.inn i q.1 = some b ∧ w.hs b = none ∧ H b = some (.lst vs) ∧ RelDs K w vs q.2) ∧ InnR K w H i r r'
  | _, _ => False
def CellR (K : PySem.W.Frag) (w : Wt) (H : Hp) (i : Nat) : O → Prop
  | .lst xs => ∃ a vs, w.m i = some a ∧ w.hs a = none ∧ H a = some (.lst vs) ∧ RelDs K w vs xs
  | .dK kvs => w.lk i = none ∧ ∃ a kv, w.m i = some a ∧ w.hs a = none ∧ H a = some (.dK kv) ∧ RelK K w kv kvs
  | .dT kvs => w.lk i = none ∧ ∃ a kv, w.m i = some a ∧ w.hs a = none ∧ H a = some (.dT kv) ∧ RelK K w kv kvs
  | .dL kvs => ∃ a kv, w.m i = some a ∧ w.hs a = none ∧ H a = some (.dK kv) ∧ InnR K w H i kv kvs
  | .ins C fs => ∃ a dx fv, w.m i = some a ∧ w.hs a = none ∧ H a = some (.ins C dx fv) ∧ RelK K w fv fs
  | .lkK kvs => ∃ a o kv, w.m i = some a ∧ w.lk i = some (.frz o (.dK kv)) ∧ w.hs a = none ∧ H a = some (.frz o (.dK kv)) ∧ RelK K w kv kvs
  | .lkT kvs => ∃ a o kv, w.m i = some a ∧ w.lk i = some (.frz o (.dT kv)) ∧ w.hs a = none ∧ H a = some (.frz o (.dT kv)) ∧ RelK K w kv kvs
  | .fz d => ∃ a, w.m i = some a ∧ RelD K w (.ref a) d
  | .dead => True
structure WR (K : PySem.W.Frag) (w : Wt) (H : Hp) (R : Wd) : Prop where
  sub : ∀ a o, w.hs a = some o → H a = some o
  hi : ∀ i, R.length ≤ i → w.m i = none ∧ (∀ k, w.inn i k = none) ∧ w.lk i = none
  mi : ∀ i j a, w.m i = some a → w.m j = some a → i = j
  ii : ∀ i j k l a, w.inn i k = some a → w.inn j l = some a → i = j ∧ k = l
  mn : ∀ i j k a, w.m i = some a → w.inn j k = some a → False
  lm : ∀ i a, w.m i = some a → ∃ o, H a = some o
  li : ∀ i k a, w.inn i k = some a → ∃ o, H a = some o
  cell : ∀ i o, R[i]? = some o → CellR K w H i o
section
variable {K : PySem.W.Frag} {w w' : Wt} {H H' : Hp} {R R' : Wd}
/-- an address of the cell i -/
def Wt.at_ (w : Wt) (i : Nat) (a : Addr) : Prop := w.m i = some a ∨ ∃ k, w.inn i k = some a
theorem InnR.keep (le : w.rl w') {i : Nat} (hn : ∀ a, w.at_ i a → w.hs a = none → w'.hs a = none ∧ H' a = H a) :
    ∀ {kv : List (Key × V)} {kvs : List (Key × List D)}, InnR K w H i kv kvs → InnR K w' H' i kv kvs
  | [], [], _ => trivial
  | p :: r, q :: r', ⟨e, ⟨b, vs, e2, e3, e4, e5, e6⟩, t⟩ => by
    obtain ⟨n1, n2⟩ := hn b (.inr ⟨_, e3⟩) e4
    exact ⟨e, ⟨b, vs, e2, le.inn _ _ _ e3, n1, n2.trans e5, e6.imp le⟩, InnR.keep le hn t⟩
  | [], _ :: _, h => h.elim
  | _ :: _, [], h => h.elim
theorem CellR.keep (le : w.rl w') {i : Nat} {o : O} (hk : w'.lk i = w.lk i) (hn : ∀ a, w.at_ i a → w.hs a = none → w'.hs a = none ∧ H' a = H a) (h : CellR K w H i o) : CellR K w' H' i o := by
  cases o with
  | lst xs => obtain ⟨a, vs, e1, e2, e3, e4⟩ := h; obtain ⟨n1, n2⟩ := hn a (.inl e1) e2; exact ⟨a, vs, le.m _ _ e1, n1, n2.trans e3, e4.imp le⟩
  | dK xs => obtain ⟨e0, a, vs, e1, e2, e3, e4⟩ := h; obtain ⟨n1, n2⟩ := hn a (.inl e1) e2; exact ⟨hk.trans e0, a, vs, le.m _ _ e1, n1, n2.trans e3, e4.imp le⟩
  | dT xs => obtain ⟨e0, a, vs, e1, e2, e3, e4⟩ := h; obtain ⟨n1, n2⟩ := hn a (.inl e1) e2; exact ⟨hk.trans e0, a, vs, le.m _ _ e1, n1, n2.trans e3, e4.imp le⟩
  | dL xs => obtain ⟨a, vs, e1, e2, e3, e4⟩ := h; obtain ⟨n1, n2⟩ := hn a (.inl e1) e2; exact ⟨a, vs, le.m _ _ e1, n1, n2.trans e3, e4.keep le hn⟩
  | ins C xs => obtain ⟨a, dx, vs, e1, e2, e3, e4⟩ := h; obtain ⟨n1, n2⟩ := hn a (.inl e1) e2; exact ⟨a, dx, vs, le.m _ _ e1, n1, n2.trans e3, e4.imp le⟩
  | lkK xs => obtain ⟨a, o, vs, e1, e0, e2, e3, e4⟩ := h; obtain ⟨n1, n2⟩ := hn a (.inl e1) e2; exact ⟨a, o, vs, le.m _ _ e1, hk.trans e0, n1, n2.trans e3, e4.imp le⟩
  | lkT xs => obtain ⟨a, o, vs, e1, e0, e2, e3, e4⟩ := h; obtain ⟨n1, n2⟩ := hn a (.inl e1) e2; exact ⟨a, o, vs, le.m _ _ e1, hk.trans e0, n1, n2.trans e3, e4.imp le⟩
  | fz d => obtain ⟨a, e1, e2⟩ := h; exact ⟨a, le.m _ _ e1, e2.imp le⟩
  | dead => trivial
theorem WR.fresh (W : WR K w H R) {p : Addr} (hp : H p = none) : w.hs p = none ∧ (∀ i, w.m i ≠ some p) ∧ ∀ i k, w.inn i k ≠ some p := by
  refine ⟨?_, fun i e => ?_, fun i k e => ?_⟩
  · cases e : w.hs p with
    | none => rfl
    | some o => rw [W.sub p o e] at hp; cases hp
  · obtain ⟨o, e'⟩ := W.lm i p e; rw [e'] at hp; cases hp
  · obtain ⟨o, e'⟩ := W.li i k p e; rw [e'] at hp; cases hp
/-- not one of ours -/
def Wt.out (w : Wt) (p : Addr) : Prop := w.hs p = none ∧ (∀ i, w.m i ≠ some p) ∧ ∀ i k, w.inn i k ≠ some p
def Wt.share (w : Wt) (p : Addr) (o : HO) : Wt := { w with hs := upd w.hs p o }
theorem Wt.share_le {p : Addr} {o : HO} (h : w.hs p = none) : w.le (w.share p o) :=
  ⟨fun a u e => (upd_ne (fun z => by rw [z, h] at e; cases e)).trans e, fun _ _ h => h, fun _ _ _ h => h, fun _ _ h => h⟩
/-- the heap has grown, or what is not ours has changed -/
theorem WR.other (W : WR K w H R) (h : ∀ a o, H a = some o → (w.hs a ≠ none ∨ (∃ i, w.at_ i a)) → H' a = some o) : WR K w H' R := by
  refine ⟨fun a o e => h a o (W.sub a o e) (.inl (by rw [e]; exact nofun)), W.hi, W.mi, W.ii, W.mn, fun i a e => ?_, fun i k a e => ?_, fun i o e => ?_⟩
  · obtain ⟨o, q⟩ := W.lm i a e; exact ⟨o, h a o q (.inr ⟨i, .inl e⟩)⟩
  · obtain ⟨o, q⟩ := W.li i k a e; exact ⟨o, h a o q (.inr ⟨i, .inr ⟨k, e⟩⟩)⟩
  · refine (W.cell i o e).keep (Wt.le.refl w).rl rfl fun a ha hn => ⟨hn, ?_⟩
    obtain ⟨o, q⟩ : ∃ o, H a = some o := by
      rcases ha with e | ⟨k, e⟩
      · exact W.lm i a e
      · exact W.li i k a e
    rw [q]; exact h a o q (.inr ⟨i, ha⟩)
theorem WR.grow (W : WR K w H R) (h : ∀ a o, H a = some o → H' a = some o) : WR K w H' R := W.other fun a o e _ => h a o e
/-- a thing that is ours no cell's is shared -/
theorem WR.share (W : WR K w H R) {p : Addr} {o : HO} (hp : w.out p) (e : H p = some o) : WR K (w.share p o) H R := by
  have le := Wt.share_le (o := o) hp.1
  refine ⟨fun a u q => ?_, W.hi, W.mi, W.ii, W.mn, W.lm, W.li, fun i o q => (W.cell i o q).keep le.rl rfl fun a ha hn => ⟨?_, rfl⟩⟩
  · by_cases c : a = p
    · subst c; unfold Wt.share at q; simp only [upd_same] at q; cases q; exact e
    · have q' : w.hs a = some u := (upd_ne c).symm.trans q
      exact W.sub a u q'
  · have c : a ≠ p := by
      rintro rfl
      rcases ha with z | ⟨k, z⟩
      · exact hp.2.1 i z
      · exact hp.2.2 i k z
    exact (upd_ne c).trans hn
/-- a new shared thing -/
theorem WR.alloc (W : WR K w H R) {p : Addr} {o : HO} (hp : H p = none) : WR K (w.share p o) (upd H p o) R := by
  obtain ⟨h1, h2, h3⟩ := W.fresh hp
  exact (W.grow fun a u e => (upd_ne (ne_of_none e hp)).trans e).share ⟨h1, h2, h3⟩ upd_same
/-- a new cell -/
def Wt.cell (w : Wt) (n : Nat) (p : Addr) : Wt := { w with m := fun i => if i = n then some p else w.m i }
theorem Wt.cell_le {n : Nat} {p : Addr} (h : w.m n = none) : w.le (w.cell n p) :=
  ⟨fun _ _ h => h, fun i a e => by
    have : i ≠ n := fun z => by rw [z, h] at e; cases e
    show (if i = n then some p else w.m i) = some a
    rw [if_neg this]; exact e, fun _ _ _ h => h, fun _ _ h => h⟩
theorem WR.newCell (W : WR K w H R) {p : Addr} {ho : HO} {o : O} (hp : w.out p) (e : H p = some ho) (c : CellR K (w.cell R.length p) H R.length o) : WR K (w.cell R.length p) H (R ++ [o]) := by
  have hn := (W.hi R.length (Nat.le_refl _)).1
  have le := Wt.cell_le (p := p) hn
  have mm : ∀ {i a}, (w.cell R.length p).m i = some a → (i = R.length ∧ a = p) ∨ (i ≠ R.length ∧ w.m i = some a) := fun {i a} z => by
    have z' : (if i = R.length then some p else w.m i) = some a := z
    by_cases q : i = R.length
    · rw [if_pos q] at z'; cases z'; exact .inl ⟨q, rfl⟩
    · rw [if_neg q] at z'; exact .inr ⟨q, z'⟩
  refine ⟨W.sub, fun i hi => ?_, fun i j a z1 z2 => ?_, W.ii, fun i j k a z1 z2 => ?_, fun i a z => ?_, W.li, fun i o' z => ?_⟩
  · simp only [List.length_append, List.length_cons, List.length_nil] at hi
    obtain ⟨a1, a2, a3⟩ := W.hi i (by omega)
    refine ⟨?_, a2, a3⟩
    show (if i = R.length then some p else w.m i) = none
    rw [if_neg (by omega)]; exact a1
  · rcases mm z1 with ⟨e1, e2⟩ | ⟨e1, e2⟩ <;> rcases mm z2 with ⟨e3, e4⟩ | ⟨e3, e4⟩
    · omega
    · subst e2; exact absurd e4 (hp.2.1 j)
    · subst e4; exact absurd e2 (hp.2.1 i)
    · exact W.mi i j a e2 e4
  · rcases mm z1 with ⟨e1, e2⟩ | ⟨e1, e2⟩
    · subst e2; exact hp.2.2 j k z2
    · exact W.mn i j k a e2 z2
  · rcases mm z with ⟨e1, e2⟩ | ⟨e1, e2⟩
    · subst e2; exact ⟨ho, e⟩
    · exact W.lm i a e2
  · by_cases q : i < R.length
    · rw [List.getElem?_append_left q] at z
      exact (W.cell i o' z).keep le.rl rfl fun a _ hn => ⟨hn, rfl⟩
    · by_cases q' : i = R.length
      · subst q'
        simp at z
        subst z
        exact c
      · rw [List.getElem?_append_right (by omega)] at z
        have : i - R.length ≠ 0 := by omega
        cases h : i - R.length with
        | zero => omega
        | succ n => rw [h] at z; simp at z
/-- a cell's own object changes -/
theorem WR.write (W : WR K w H R) {i : Nat} {a : Addr} {ho : HO} {o : O} (hi : i < R.length) (ha : w.at_ i a) (hn : w.hs a = none) (c : CellR K w (upd H a ho) i o) : WR K w (upd H a ho) (R.set i o) := by
  have ne : ∀ {b u}, w.hs b = some u → b ≠ a := fun {b u} e z => by subst z; rw [hn] at e; cases e
  have ex : ∀ b, (∃ o, H b = some o) → ∃ o, upd H a ho b = some o := fun b ⟨o, e⟩ => by
    by_cases c : b = a
    · subst c; exact ⟨_, upd_same⟩
    · exact ⟨o, (upd_ne c).trans e⟩
  refine ⟨fun b u e => (upd_ne (ne e)).trans (W.sub b u e), fun j hj => W.hi j (by simpa using hj), W.mi, W.ii, W.mn, fun j b e => ex b (W.lm j b e), fun j k b e => ex b (W.li j k b e), fun j o' e => ?_⟩
  by_cases q : i = j
  · subst q
    rw [List.getElem?_set_self hi] at e
    cases e
    exact c
  · rw [List.getElem?_set_ne q] at e
    refine (W.cell j o' e).keep (Wt.le.refl w).rl rfl fun b hb hbn => ⟨hbn, upd_ne ?_⟩
    rintro rfl
    rcases ha with z | ⟨k, z⟩ <;> rcases hb with z' | ⟨k', z'⟩
    · exact q (W.mi i j b z z')
    · exact W.mn i j k' b z z'
    · exact W.mn j i k b z' z
    · exact q (W.ii i j k k' b z z').1
/-- a cell's data change, the heap does not -/
theorem WR.recell (W : WR K w H R) {i : Nat} {o : O} (hi : i < R.length) (c : CellR K w H i o) : WR K w H (R.set i o) := by
  refine ⟨W.sub, fun j hj => W.hi j (by simpa using hj), W.mi, W.ii, W.mn, W.lm, W.li, fun j o' e => ?_⟩
  by_cases q : i = j
  · subst q
    rw [List.getElem?_set_self hi] at e
    cases e
    exact c
  · rw [List.getElem?_set_ne q] at e
    exact W.cell j o' e
end

/-! ### what is wanted behind a denotation -/
section
variable (K : PySem.W.Frag)
def Rs.bind {α β : Type} (r : Rs α) (f : α → Wd → Rs β) : Rs β := match r with
  | .ok a R => f a R
  | .exc c R => .exc c R
  | .stuck => .stuck
def ExR (w : Wt) (H : Hp) (c : Exn) : Option Addr → Prop
  | none => c.pay = none
  | some d => ∃ fs fv, c.pay = some fs ∧ H d = some (.xd fv) ∧ RelK K w fv fs
/-- from one state to a later one: ours is kept as told, all else as it is -/
structure Stp (w : Wt) (H : Hp) (w' : Wt) (H' : Hp) : Prop where
  le : w.le w'
  fr : ∀ a o, H a = some o → w.out a → H' a = some o ∧ w'.out a
def XPost (W : WX) (w : Wt) (H : Hp) (σ : L2.St) (c : Exn) (R : Wd) : Prop := ∀ o w' H', Stp w H w' H' → WR K w' H' R → ExR K w' H' c o → W (.ref c.cls) o σ H'
def Post {α : Type} (W : WX) (w : Wt) (H : Hp) (σ : L2.St) (r : Rs α) (P : α → Wd → Prop) : Prop := match r with
  | .ok a R => P a R
  | .exc c R => XPost K W w H σ c R
  | .stuck => False
def Ret (w : Wt) (H : Hp) (R : Wd) (x : D) (Q : VK) : Prop := ∀ v w' H', Stp w H w' H' → WR K w' H' R → RelD K w' v x → Q v H'
structure RelS (w : Wt) (σ : L2.St) (ρ : Rho) : Prop where
  len : σ.length = ρ.length
  at_ : ∀ (i : Nat) (d : D), ρ[i]? = some (some d) → ∃ v, σ[i]? = some (some v) ∧ RelD K w v d
abbrev DE := Rho → Wd → Rs D
abbrev DT := Rho → Wd → Rs Bool
abbrev DA := Rho → Wd → Rs (List D)
abbrev DS := Rho → Wd → SRs
/-- a state that the world describes -/
structure At (w : Wt) (σ : L2.St) (H : Hp) (ρ : Rho) (R : Wd) : Prop where
  W : WR K w H R
  S : RelS K w σ ρ
def rdE (W : WX) (d : DE) : TE := fun σ H Q => ∃ w ρ R, At K w σ H ρ R ∧ Post K W w H σ (d ρ R) fun x R' => Ret K w H R' x Q
def rdT (W : WX) (d : DT) : TT := fun σ H Q => ∃ w ρ R, At K w σ H ρ R ∧ Post K W w H σ (d ρ R) fun b R' => ∀ w' H', Stp w H w' H' → WR K w' H' R' → Q b H'
def rdA (W : WX) (d : DA) : TA := fun σ H Q => ∃ w ρ R, At K w σ H ρ R ∧ Post K W w H σ (d ρ R) fun xs R' => ∀ vs w' H', Stp w H w' H' → WR K w' H' R' → RelDs K w' vs xs → Q vs H'
/-- a fresh list -/
def rdF (W : WX) (d : DA) : TE := fun σ H Q => ∃ w ρ R, At K w σ H ρ R ∧ Post K W w H σ (d ρ R) fun xs R' => ∀ a vs w' H', Stp w H w' H' → WR K w' H' R' → H a = none → w'.out a → H' a = some (.lst vs) → RelDs K w' vs xs → Q (.ref a) H'
/-- fresh dicts -/
def rdFK (W : WX) (d : Rho → Wd → Rs (List (Key × D))) : TE := fun σ H Q => ∃ w ρ R, At K w σ H ρ R ∧ Post K W w H σ (d ρ R) fun xs R' => ∀ a kv w' H', Stp w H w' H' → WR K w' H' R' → H a = none → w'.out a → H' a = some (.dK kv) → RelK K w' kv xs → Q (.ref a) H'
def rdFT (W : WX) (d : Rho → Wd → Rs (List (List Key × D))) : TE := fun σ H Q => ∃ w ρ R, At K w σ H ρ R ∧ Post K W w H σ (d ρ R) fun xs R' => ∀ a kv w' H', Stp w H w' H' → WR K w' H' R' → H a = none → w'.out a → H' a = some (.dT kv) → RelK K w' kv xs → Q (.ref a) H'
def SPost (W : WX) (w : Wt) (H : Hp) (r : SRs) (E : Ends) : Prop := match r with
  | .nx ρ R => ∀ σ w' H', Stp w H w' H' → At K w' σ H' ρ R → E.nx σ H'
  | .rt d R => Ret K w H R d E.rt
  | .bk ρ R => ∀ σ w' H', Stp w H w' H' → At K w' σ H' ρ R → E.bk σ H'
  | .ct ρ R => ∀ σ w' H', Stp w H w' H' → At K w' σ H' ρ R → E.ct σ H'
  | .exc c ρ R => ∀ σ w' H', Stp w H w' H' → RelS K w' σ ρ → XPost K W w' H' σ c R
  | .stuck => False
def rdS (W : WX) (d : DS) : TS := fun E σ H => ∃ w ρ R, At K w σ H ρ R ∧ SPost K W w H (d ρ R) E
end
section
variable {K : PySem.W.Frag} {W : WX} {w w' : Wt} {σ : L2.St} {H H' : Hp} {ρ : Rho} {R : Wd}
theorem Stp.refl : Stp w H w H := ⟨.refl w, fun a o h1 h2 => ⟨h1, h2⟩⟩
theorem Stp.trans {w'' : Wt} {H'' : Hp} (a : Stp w H w' H') (b : Stp w' H' w'' H'') : Stp w H w'' H'' :=
  ⟨a.le.trans b.le, fun x o h1 h2 => by obtain ⟨h3, h4⟩ := a.fr x o h1 h2; exact b.fr x o h3 h4⟩
theorem Stp.back (s : Stp w H w' H') {R' : Wd} (W : WR K w' H' R') {a : Addr} (h : H' a = none) : H a = none := by
  cases e : H a with
  | none => rfl
  | some o =>
    exfalso
    by_cases h1 : w.hs a = none
    · by_cases h2 : ∃ i, w.m i = some a
      · obtain ⟨i, h2⟩ := h2
        obtain ⟨o, q⟩ := W.lm i a (s.le.m _ _ h2)
        rw [h] at q; cases q
      · by_cases h3 : ∃ i k, w.inn i k = some a
        · obtain ⟨i, k, h3⟩ := h3
          obtain ⟨o, q⟩ := W.li i k a (s.le.inn _ _ _ h3)
          rw [h] at q; cases q
        · have q := (s.fr a o e ⟨h1, fun i z => h2 ⟨i, z⟩, fun i k z => h3 ⟨i, k, z⟩⟩).1
          rw [h] at q; cases q
    · cases e1 : w.hs a with
      | none => exact h1 e1
      | some u =>
        have q := W.sub a u (s.le.hs _ _ e1)
        rw [h] at q; cases q
/-- a new thing out of our world -/
theorem Stp.new {p : Addr} {o : HO} (hp : H p = none) : Stp w H w (upd H p o) := ⟨.refl w, fun a u h1 h2 => ⟨(upd_ne (ne_of_none h1 hp)).trans h1, h2⟩⟩
theorem Wt.out_share {p a : Addr} {o : HO} (h : w.out a) (ne : a ≠ p) : (w.share p o).out a := ⟨(upd_ne ne).trans h.1, h.2⟩
theorem Stp.alloc (W : WR K w H R) {p : Addr} {o : HO} (hp : H p = none) : Stp w H (w.share p o) (upd H p o) :=
  ⟨Wt.share_le (W.fresh hp).1, fun a u h1 h2 => ⟨(upd_ne (ne_of_none h1 hp)).trans h1, Wt.out_share h2 (ne_of_none h1 hp)⟩⟩
theorem RelS.mono (h : RelS K w σ ρ) (le : w.le w') : RelS K w' σ ρ := ⟨h.len, fun i d e => by obtain ⟨v, a, b⟩ := h.at_ i d e; exact ⟨v, a, b.mono le⟩⟩
theorem At.step (a : At K w σ H ρ R) (le : Stp w H w' H') {R' : Wd} (W : WR K w' H' R') : At K w' σ H' ρ R' := ⟨W, a.S.mono le.le⟩
theorem XPost.mono (le : Stp w H w' H') {c : Exn} (h : XPost K W w H σ c R) : XPost K W w' H' σ c R := fun o w'' H'' l Wr x => h o w'' H'' (le.trans l) Wr x
theorem Post.mono {α : Type} {P P' : α → Wd → Prop} (le : Stp w H w' H') {r : Rs α} (h : Post K W w H σ r P) (hp : ∀ a R, P a R → P' a R) : Post K W w' H' σ r P' := by
  cases r with
  | ok a R => exact hp a R h
  | exc c R => exact XPost.mono le h
  | stuck => exact h
theorem Post.imp {α : Type} {P P' : α → Wd → Prop} {r : Rs α} (h : Post K W w H σ r P) (hp : ∀ a R, P a R → P' a R) : Post K W w H σ r P' := h.mono .refl hp
theorem Post.bind {α β : Type} {r : Rs α} {f : α → Wd → Rs β} {P : β → Wd → Prop} (h : Post K W w H σ (r.bind f) P) : Post K W w H σ r fun a R => Post K W w H σ (f a R) P := by
  cases r with
  | ok a R => exact h
  | exc c R => exact h
  | stuck => exact h
theorem Ret.mono {x : D} {Q : VK} (le : Stp w H w' H') (h : Ret K w H R x Q) : Ret K w' H' R x Q := fun v w'' H'' l Wr r => h v w'' H'' (le.trans l) Wr r
theorem SPost.mono (le : Stp w H w' H') {r : SRs} {E : Ends} (h : SPost K W w H r E) : SPost K W w' H' r E := by
  cases r with
  | nx ρ R => exact fun σ w'' H'' l a => h σ w'' H'' (le.trans l) a
  | rt d R => exact Ret.mono le h
  | bk ρ R => exact fun σ w'' H'' l a => h σ w'' H'' (le.trans l) a
  | ct ρ R => exact fun σ w'' H'' l a => h σ w'' H'' (le.trans l) a
  | exc c ρ R => exact fun σ w'' H'' l a => h σ w'' H'' (le.trans l) a
  | stuck => exact h
end
theorem PEimp {X : Cx} {e : Expr} {t t' : TE} (h : PE X e t) (i : ∀ σ H Q, t' σ H Q → t σ H Q) : PE X e t' := ⟨fun pins s σ H Q I q => h.run pins s σ H Q I (i σ H Q q)⟩
theorem PTimp {X : Cx} {e : Expr} {t t' : TT} (h : PT X e t) (i : ∀ σ H Q, t' σ H Q → t σ H Q) : PT X e t' := ⟨fun pins s σ H Q I q => h.run pins s σ H Q I (i σ H Q q)⟩
theorem PWimp {X : Cx} {e : Expr} {t t' : TT} (h : PW X e t) (i : ∀ σ H Q, t' σ H Q → t σ H Q) : PW X e t' := ⟨fun wh pins s σ H Q I q => h.run wh pins s σ H Q I (i σ H Q q)⟩
theorem PAimp {X : Cx} {e : List Expr} {t t' : TA} (h : PA X e t) (i : ∀ σ H Q, t' σ H Q → t σ H Q) : PA X e t' := ⟨fun pos pins s σ H Q I q => h.run pos pins s σ H Q I (i σ H Q q)⟩
theorem PSimp {X : Cx} {e : Stmt} {t t' : TS} (h : PS X e t) (i : ∀ E σ H, t' E σ H → t E σ H) : PS X e t' := ⟨fun pins s σ H D I q => h.run pins s σ H D I (i D σ H q)⟩
theorem PSsimp {X : Cx} {e : List Stmt} {t t' : TS} (h : PSs X e t) (i : ∀ E σ H, t' E σ H → t E σ H) : PSs X e t' := ⟨fun pins s σ H D I q => h.run pins s σ H D I (i D σ H q)⟩

/-! ### the judgements -/
abbrev ED (X : Cx) (W : WX) (e : Expr) (d : DE) : Prop := PE X e (rdE X.K W d)
abbrev TD (X : Cx) (W : WX) (e : Expr) (d : DT) : Prop := PT X e (rdT X.K W d)
abbrev AD (X : Cx) (W : WX) (e : List Expr) (d : DA) : Prop := PA X e (rdA X.K W d)
abbrev FL (X : Cx) (W : WX) (e : Expr) (d : DA) : Prop := PE X e (rdF X.K W d)
abbrev SD (X : Cx) (W : WX) (e : Stmt) (d : DS) : Prop := PS X e (rdS X.K W d)
abbrev SsD (X : Cx) (W : WX) (e : List Stmt) (d : DS) : Prop := PSs X e (rdS X.K W d)
end Y
end
section
set_option Elab.async false
set_option linter.all false
set_option maxRecDepth 100000
set_option maxHeartbeats 4000000
namespace Y
open PySem PySem.Spec PyProof.Rows L2

/-! ### looking through handles -/
def oFz (i : Nat) : O → D
  | .fz d => d
  | _ => .ref i
def oLst : O → Option (List D)
  | .lst xs => some xs
  | .fz (.lst xs) => some xs
  | _ => none
def oSub (k : Key) : O → Option (List D)
  | .dL kvs => gA k kvs
  | _ => none
def oDk (i : Nat) : O → Option (List (Key × D))
  | .dK kvs => some kvs
  | .lkK kvs => some kvs
  | .fz (.dic kvs) => some kvs
  | .dL kvs => some (kvs.map fun p => (p.1, D.sub i p.1))
  | _ => none
def oDt : O → Option (List (List Key × D))
  | .dT kvs => some kvs
  | .lkT kvs => some kvs
  | .fz (.dct kvs) => some kvs
  | _ => none
def zv (R : Wd) : D → D
  | .ref i => (R[i]?.map (oFz i)).getD (.ref i)
  | d => d
def lstOf (R : Wd) : D → Option (List D)
  | .lst xs => some xs
  | .ref i => R[i]?.bind oLst
  | .sub i k => R[i]?.bind (oSub k)
  | _ => none
def tupOf : D → Option (List D)
  | .tup xs => some xs
  | _ => none
def dkOf (R : Wd) : D → Option (List (Key × D))
  | .dic kvs => some kvs
  | .ref i => R[i]?.bind (oDk i)
  | _ => none
def dtOf (R : Wd) : D → Option (List (List Key × D))
  | .dct kvs => some kvs
  | .ref i => R[i]?.bind oDt
  | _ => none
section
variable {K : PySem.W.Frag} {w w' : Wt} {H H' : Hp} {R R' : Wd} {v : V} {d : D}
theorem WR.rd (W : WR K w H R) {a : Addr} {u : HO} (h : Rd w.hs a u) : Rd H a u := by
  rcases h with h | ⟨o, h⟩
  · exact .inl (W.sub _ _ h)
  · exact .inr ⟨o, W.sub _ _ h⟩
theorem WR.sql (W : WR K w H R) {a : Addr} {xs : List V} (h : SqL K w.hs a xs) : SqL K H a xs := by
  rcases h with h | h
  · exact .inl (W.rd h)
  · exact .inr h
theorem zv_rel (W : WR K w H R) (h : RelD K w v d) : RelD K w v (zv R d) := by
  cases d with
  | ref i =>
    simp only [zv]
    cases e : R[i]? with
    | none => exact h
    | some o =>
      simp only [Option.map_some, Option.getD_some]
      cases o with
      | fz d =>
        obtain ⟨a, h1, h2⟩ := W.cell i _ e
        cases h with
        | ref z => rw [z] at h1; cases h1; exact h2
      | _ => exact h
  | _ => exact h
theorem InnR.gA {i : Nat} {k : Key} : ∀ {kv : List (Key × V)} {kvs : List (Key × List D)} {xs : List D}, InnR K w H i kv kvs → gA k kvs = some xs →
    ∃ b vs, w.inn i k = some b ∧ w.hs b = none ∧ H b = some (.lst vs) ∧ RelDs K w vs xs ∧ valV kv k = some (.ref b)
  | [], [], _, _, e => by simp [Y.gA] at e
  | p :: r, q :: r', xs, ⟨e, ⟨b, vs, e2, e3, e4, e5, e6⟩, t⟩, z => by
    by_cases c : q.1 = k
    · simp only [Y.gA, c, if_true, Option.some.injEq] at z
      subst z
      subst c
      exact ⟨b, vs, e3, e4, e5, e6, by rw [valV_pos e, e2]⟩
    · simp only [Y.gA, if_neg c] at z
      obtain ⟨b, vs, x1, x2, x3, x4, x5⟩ := InnR.gA t z
      exact ⟨b, vs, x1, x2, x3, x4, by rw [valV_neg (fun q => c (e.symm.trans q))]; exact x5⟩
  | [], _ :: _, _, h, _ => h.elim
  | _ :: _, [], _, h, _ => h.elim
theorem InnR.rel {i : Nat} : ∀ {kv : List (Key × V)} {kvs : List (Key × List D)}, InnR K w H i kv kvs → RelK K w kv (kvs.map fun p => (p.1, D.sub i p.1))
  | [], [], _ => .nil
  | p :: r, q :: r', ⟨e, ⟨b, vs, e2, e3, e4, e5, e6⟩, t⟩ => .cons e (by rw [e2]; exact .sub e3) (InnR.rel t)
  | [], _ :: _, h => h.elim
  | _ :: _, [], h => h.elim
theorem lst_rel (W : WR K w H R) (h : RelD K w v d) {xs : List D} (e : lstOf R d = some xs) : ∃ a vs, v = .ref a ∧ H a = some (.lst vs) ∧ RelDs K w vs xs := by
  cases h with
  | lst h1 h2 => simp only [lstOf, Option.some.injEq] at e; subst e; exact ⟨_, _, rfl, W.sub _ _ h1, h2⟩
  | @ref i a hm =>
    simp only [lstOf] at e
    cases c : R[i]? with
    | none => simp [c] at e
    | some o =>
      have cell := W.cell i o c
      simp only [c, Option.bind_some] at e
      cases o with
      | lst ys =>
        simp only [oLst, oDk, oDt, Option.some.injEq] at e; subst e
        obtain ⟨b, vs, h1, h2, h3, h4⟩ := cell
        rw [hm] at h1; cases h1
        exact ⟨a, vs, rfl, h3, h4⟩
      | fz d =>
        obtain ⟨b, h1, h2⟩ := cell
        rw [hm] at h1; cases h1
        cases d with
        | lst ys =>
          simp only [oLst, oDk, oDt, Option.some.injEq] at e; subst e
          cases h2 with | lst h3 h4 => exact ⟨_, _, rfl, W.sub _ _ h3, h4⟩
        | _ => simp [oLst, oDk, oDt, oSub] at e
      | _ => simp [oLst, oDk, oDt, oSub] at e
  | @sub i k a hm =>
    simp only [lstOf] at e
    cases c : R[i]? with
    | none => simp [c] at e
    | some o =>
      have cell := W.cell i o c
      simp only [c, Option.bind_some] at e
      cases o with
      | dL kvs =>
        obtain ⟨b, kv, h1, h2, h3, h4⟩ := cell
        obtain ⟨b', vs, x1, x2, x3, x4, x5⟩ := h4.gA (show Y.gA k kvs = some xs from e)
        rw [hm] at x1; cases x1
        exact ⟨a, vs, rfl, x3, x4⟩
      | _ => simp [oLst, oDk, oDt, oSub] at e
  | _ => simp [lstOf] at e
/-- a list that is read -/
def lstR (R : Wd) : D → Option (List D)
  | .sl xs => some xs
  | d => lstOf R d
theorem lstR_rel (W : WR K w H R) (h : RelD K w v d) {xs : List D} (e : lstR R d = some xs) : ∃ a vs, v = .ref a ∧ SqL K H a vs ∧ RelDs K w vs xs := by
  have go : lstOf R d = some xs → ∃ a vs, v = .ref a ∧ SqL K H a vs ∧ RelDs K w vs xs := fun e => by
    obtain ⟨a, vs, h1, h2, h3⟩ := lst_rel W h e
    exact ⟨a, vs, h1, .of h2, h3⟩
  cases d with
  | sl ys => simp only [lstR, Option.some.injEq] at e; subst e; cases h with | sl h1 h2 => exact ⟨_, _, rfl, W.sql h1, h2⟩
  | _ => exact go e
theorem tup_rel (W : WR K w H R) (h : RelD K w v d) {xs : List D} (e : tupOf d = some xs) : ∃ a vs, v = .ref a ∧ H a = some (.tup vs) ∧ RelDs K w vs xs := by
  cases h with
  | tup h1 h2 => simp only [tupOf, Option.some.injEq] at e; subst e; exact ⟨_, _, rfl, W.sub _ _ h1, h2⟩
  | _ => simp [tupOf] at e
theorem dk_rel (W : WR K w H R) (h : RelD K w v d) {kvs : List (Key × D)} (e : dkOf R d = some kvs) : ∃ a kv, v = .ref a ∧ Rd H a (.dK kv) ∧ RelK K w kv kvs := by
  cases h with
  | dic h1 h2 h3 => simp only [dkOf, Option.some.injEq] at e; subst e; exact ⟨_, _, rfl, .inr ⟨_, W.sub _ _ h1⟩, h2, h3⟩
  | @ref i a hm =>
    simp only [dkOf] at e
    cases c : R[i]? with
    | none => simp [c] at e
    | some o =>
      have cell := W.cell i o c
      simp only [c, Option.bind_some] at e
      cases o with
      | dK ys =>
        simp only [oLst, oDk, oDt, Option.some.injEq] at e; subst e
        obtain ⟨_, b, vs, h1, h2, h3, h4⟩ := cell
        rw [hm] at h1; cases h1
        exact ⟨a, vs, rfl, .of h3, h4⟩
      | lkK ys =>
        simp only [oLst, oDk, oDt, Option.some.injEq] at e; subst e
        obtain ⟨b, o, vs, h1, _, h2, h3, h4⟩ := cell
        rw [hm] at h1; cases h1
        exact ⟨a, vs, rfl, .inr ⟨o, h3⟩, h4⟩
      | dL ys =>
        simp only [oLst, oDk, oDt, Option.some.injEq] at e; subst e
        obtain ⟨b, vs, h1, h2, h3, h4⟩ := cell
        rw [hm] at h1; cases h1
        exact ⟨a, vs, rfl, .of h3, h4.rel⟩
      | fz d =>
        obtain ⟨b, h1, h2⟩ := cell
        rw [hm] at h1; cases h1
        cases d with
        | dic ys =>
          simp only [oLst, oDk, oDt, Option.some.injEq] at e; subst e
          cases h2 with | dic h3 h4 h5 => exact ⟨_, _, rfl, .inr ⟨_, W.sub _ _ h3⟩, h4, h5⟩
        | _ => simp [oLst, oDk, oDt, oSub] at e
      | _ => simp [oLst, oDk, oDt, oSub] at e
  | _ => simp [dkOf] at e
theorem dt_rel (W : WR K w H R) (h : RelD K w v d) {kvs : List (List Key × D)} (e : dtOf R d = some kvs) : ∃ a kv, v = .ref a ∧ Rd H a (.dT kv) ∧ RelK K w kv kvs := by
  cases h with
  | dct h1 h2 h3 => simp only [dtOf, Option.some.injEq] at e; subst e; exact ⟨_, _, rfl, .inr ⟨_, W.sub _ _ h1⟩, h2, h3⟩
  | @ref i a hm =>
    simp only [dtOf] at e
    cases c : R[i]? with
    | none => simp [c] at e
    | some o =>
      have cell := W.cell i o c
      simp only [c, Option.bind_some] at e
      cases o with
      | dT ys =>
        simp only [oLst, oDk, oDt, Option.some.injEq] at e; subst e
        obtain ⟨_, b, vs, h1, h2, h3, h4⟩ := cell
        rw [hm] at h1; cases h1
        exact ⟨a, vs, rfl, .of h3, h4⟩
      | lkT ys =>
        simp only [oLst, oDk, oDt, Option.some.injEq] at e; subst e
        obtain ⟨b, o, vs, h1, _, h2, h3, h4⟩ := cell
        rw [hm] at h1; cases h1
        exact ⟨a, vs, rfl, .inr ⟨o, h3⟩, h4⟩
      | fz d =>
        obtain ⟨b, h1, h2⟩ := cell
        rw [hm] at h1; cases h1
        cases d with
        | dct ys =>
          simp only [oLst, oDk, oDt, Option.some.injEq] at e; subst e
          cases h2 with | dct h3 h4 h5 => exact ⟨_, _, rfl, .inr ⟨_, W.sub _ _ h3⟩, h4, h5⟩
        | _ => simp [oLst, oDk, oDt, oSub] at e
      | _ => simp [oLst, oDk, oDt, oSub] at e
  | _ => simp [dtOf] at e
/-- the answer is there -/
theorem Ret.now {x : D} {Q : VK} (h : Ret K w H R x Q) (W : WR K w H R) (r : RelD K w v x) : Q v H := h v w H .refl W r
/-- a new list, shared from now on -/
theorem Ret.newL {xs : List D} {vs : List V} {Q : VK} (h : Ret K w H R (.lst xs) Q) (W : WR K w H R) {p : Addr} (hp : H p = none) (r : RelDs K w vs xs) : Q (.ref p) (upd H p (.lst vs)) := by
  have le := Stp.alloc (o := HO.lst vs) W hp
  exact h _ _ _ le (W.alloc hp) (.lst upd_same (r.mono le.le))
theorem Ret.newT {xs : List D} {vs : List V} {Q : VK} (h : Ret K w H R (.tup xs) Q) (W : WR K w H R) {p : Addr} (hp : H p = none) (r : RelDs K w vs xs) : Q (.ref p) (upd H p (.tup vs)) := by
  have le := Stp.alloc (o := HO.tup vs) W hp
  exact h _ _ _ le (W.alloc hp) (.tup upd_same (r.mono le.le))
end

/-! ### operations by values -/
def rOf (K : PySem.W.Frag) (g : Wd → D → D → Option D) : R2 := fun v u H Q => ∃ w R x y z, WR K w H R ∧ RelD K w v x ∧ RelD K w u y ∧ g R x y = some z ∧ Ret K w H R z Q
abbrev OpD (X : Cx) (f : Value → Value → Sem Value) (g : Wd → D → D → Option D) : Prop := OpR X f (rOf X.K g)
def uOf (K : PySem.W.Frag) (g : Wd → D → Option D) : V → Hp → VK → Prop := fun v H Q => ∃ w R x z, WR K w H R ∧ RelD K w v x ∧ g R x = some z ∧ Ret K w H R z Q
abbrev UnD (X : Cx) (f : Value → Sem Value) (g : Wd → D → Option D) : Prop := UnR X f (uOf X.K g)
abbrev IxD (X : Cx) (g : Wd → D → D → Option D) : Prop := IxR X (rOf X.K g)
/-- Ok and then -/
abbrev Ro := Option (D × Wd)
def RetR (K : PySem.W.Frag) (w : Wt) (H : Hp) (r : Ro) (Q : VK) : Prop := match r with
  | some (z, R) => Ret K w H R z Q
  | none => False
def cOf (K : PySem.W.Frag) (g : Wd → List D → Ro) : List V → Hp → VK → Prop := fun vs H Q => ∃ w R xs, WR K w H R ∧ RelDs K w vs xs ∧ RetR K w H (g R xs) Q
abbrev CaD (X : Cx) (f : Value) (g : Wd → List D → Ro) : Prop := CallR X f (cOf X.K g)
def mOf (K : PySem.W.Frag) (g : Wd → D → List D → Ro) : V → List V → Hp → VK → Prop := fun v vs H Q => ∃ w R x xs, WR K w H R ∧ RelD K w v x ∧ RelDs K w vs xs ∧ RetR K w H (g R x xs) Q
abbrev MtD (X : Cx) (id : String) (g : Wd → D → List D → Ro) : Prop := MtR X id (mOf X.K g)
section
variable {X : Cx} {f : Value → Value → Sem Value} {g1 g2 : Wd → D → D → Option D}
theorem OpD.or (h1 : OpD X f g1) (h2 : OpD X f g2) : OpD X f (fun R x y => match g1 R x y with
    | some z => some z
    | none => g2 R x y) := by
  intro pins s σ H x y v u Q I rx ry h
  obtain ⟨w, R, x', y', z, W, r1, r2, e, q⟩ := h
  cases c : g1 R x' y' with
  | some z' =>
    simp only [c] at e
    exact h1 pins s σ H x y v u Q I rx ry ⟨w, R, x', y', z, W, r1, r2, by rw [c]; exact e, q⟩
  | none =>
    simp only [c] at e
    exact h2 pins s σ H x y v u Q I rx ry ⟨w, R, x', y', z, W, r1, r2, e, q⟩
/-- by another road -/
theorem OpR.imp {r r' : R2} (h : OpR X f r) (i : ∀ x y H Q, r' x y H Q → r x y H Q) : OpR X f r' := fun pins s σ H x y v u Q I rx ry q => h pins s σ H x y v u Q I rx ry (i x y H Q q)
theorem CallR.imp {f : Value} {r r' : List V → Hp → VK → Prop} (h : CallR X f r) (i : ∀ x H Q, r' x H Q → r x H Q) : CallR X f r' := fun pins s σ H x v Q I rx q => h pins s σ H x v Q I rx (i x H Q q)
theorem MtR.imp {id : String} {r r' : V → List V → Hp → VK → Prop} (h : MtR X id r) (i : ∀ x xs H Q, r' x xs H Q → r x xs H Q) : MtR X id r' := fun pins s σ H x xs v us Q I rx rxs q => h pins s σ H x xs v us Q I rx rxs (i x xs H Q q)
end

/-! ### denotations of expressions -/
def dVar (i : Nat) : DE := fun ρ R => match ρ[i]? with
  | some (some d) => .ok (zv R d) R
  | _ => .stuck
def dK (d : D) : DE := fun _ R => .ok d R
def dBin (g : Wd → D → D → Option D) (a b : DE) : DE := fun ρ R => (a ρ R).bind fun x R1 => (b ρ R1).bind fun y R2 => match g R2 x y with
  | some z => .ok z R2
  | none => .stuck
def dUn (g : Wd → D → Option D) (a : DE) : DE := fun ρ R => (a ρ R).bind fun x R1 => match g R1 x with
  | some z => .ok z R1
  | none => .stuck
def dChain (g g' : Wd → D → D → Option D) (a b c : DE) : DE := fun ρ R => (a ρ R).bind fun x R1 => (b ρ R1).bind fun y R2 => match g R2 x y with
  | some (.bl true) => (c ρ R2).bind fun z R3 => match g' R3 y z with
    | some t => .ok t R3
    | none => .stuck
  | some (.bl false) => .ok (.bl false) R2
  | _ => .stuck
def dTst (a : DE) : DT := fun ρ R => (a ρ R).bind fun x R1 => match x with
  | .bl b => .ok b R1
  | _ => .stuck
def dAnd (a b : DT) : DT := fun ρ R => (a ρ R).bind fun x R1 => if x = true then b ρ R1 else .ok false R1
def dOr (a b : DT) : DT := fun ρ R => (a ρ R).bind fun x R1 => if x = true then .ok true R1 else b ρ R1
def dNot (a : DT) : DT := fun ρ R => (a ρ R).bind fun x R1 => .ok (!x) R1
def dAndV (a b : DE) : DE := fun ρ R => (a ρ R).bind fun x R1 => match x with
  | .bl true => b ρ R1
  | .bl false => .ok (.bl false) R1
  | _ => .stuck
def dOrV (a b : DE) : DE := fun ρ R => (a ρ R).bind fun x R1 => match x with
  | .bl true => .ok (.bl true) R1
  | .bl false => b ρ R1
  | _ => .stuck
def dNotV (a : DE) : DE := fun ρ R => (a ρ R).bind fun x R1 => match x with
  | .bl b => .ok (.bl (!b)) R1
  | _ => .stuck
def dIfE {α : Type} (c : DT) (a b : Rho → Wd → Rs α) : Rho → Wd → Rs α := fun ρ R => (c ρ R).bind fun x R1 => if x = true then a ρ R1 else b ρ R1
def dNil : DA := fun _ R => .ok [] R
def dCons (a : DE) (r : DA) : DA := fun ρ R => (a ρ R).bind fun x R1 => (r ρ R1).bind fun xs R2 => .ok (x :: xs) R2
def Ro.rs (r : Ro) : Rs D := match r with
  | some (z, R) => .ok z R
  | none => .stuck
def dCall (g : Wd → List D → Ro) (a : DA) : DE := fun ρ R => (a ρ R).bind fun xs R1 => (g R1 xs).rs
def dTup (a : DA) : DE := fun ρ R => (a ρ R).bind fun xs R1 => .ok (.tup xs) R1
def dFz (a : DA) : DE := fun ρ R => (a ρ R).bind fun xs R1 => .ok (.lst xs) R1

section
variable {X : Cx} {W : WX} {a b c e : Expr} {da db dc : DE} {pos : Pos}
theorem ed_var (i : Nat) {x : Str} (hN : X.N[i]? = some x := by rfl) (hv : Vis X.env.scope x := by first | exact Or.inl rfl | exact Or.inr (Or.inl rfl) | exact Or.inr (Or.inr rfl)) (hd : (x == ("__debug__" : Str)) = false := by decide)
    (hcd : (x == ("__classdict__" : Str)) = false := by decide) : ED X W (.Name x pos) (dVar i) := by
  refine PEimp (pe_var hN hv hd hcd) fun σ H Q h => ?_
  obtain ⟨w, ρ, R, A, p⟩ := h
  unfold dVar at p
  cases e : ρ[i]? with
  | none => rw [e] at p; exact p.elim
  | some o =>
    cases o with
    | none => rw [e] at p; exact p.elim
    | some d =>
      rw [e] at p
      obtain ⟨v, e1, r⟩ := A.S.at_ i d e
      exact ⟨v, e1, p.now A.W (zv_rel A.W r)⟩
theorem ed_k {d : D} {v : V} {t : TE} (h : PE X e (tC v)) (r : ∀ K w, RelD K w v d) : ED X W e (dK d) := by
  refine PEimp h fun σ H Q h => ?_
  obtain ⟨w, ρ, R, A, p⟩ := h
  exact (show Ret X.K w H R d Q from p).now A.W (r _ _)
theorem ed_int {i : Int} {j pos} : ED X W (.Constant (.int i) j pos) (dK (.int i)) := ed_k (t := tC (.int i)) pe_int fun _ _ => .int i
theorem ed_bl {b : Bool} {j pos} : ED X W (.Constant (.bool b) j pos) (dK (.bl b)) := ed_k (t := tC (.bl b)) pe_bl fun _ _ => .bl b
theorem ed_non {j pos} : ED X W (.Constant .none j pos) (dK .non) := ed_k (t := tC .non) pe_non fun _ _ => .non
theorem ed_str {x : Str} {j pos} : ED X W (.Constant (.str x) j pos) (dK (.str x)) := ed_k (t := tC (.str x)) pe_str fun _ _ => .str x
theorem ed_gint {x : Str} {i : Int} (hg : Gl X x) (hm : ∃ t, X.mg x = some (.int i t)) (hd : (x == ("__debug__" : Str)) = false := by decide) : ED X W (.Name x pos) (dK (.int i)) := by
  obtain ⟨t, hm⟩ := hm
  exact ed_k (t := tC (.int i)) (pe_glob (v := .int i) hg hm ⟨t, rfl⟩ hd) fun _ _ => .int i
theorem ed_gstr {x : Str} {i : Str} (hg : Gl X x) (hm : ∃ t, X.mg x = some (.str i t)) (hd : (x == ("__debug__" : Str)) = false := by decide) : ED X W (.Name x pos) (dK (.str i)) := by
  obtain ⟨t, hm⟩ := hm
  exact ed_k (t := tC (.str i)) (pe_glob (v := .str i) hg hm ⟨t, rfl⟩ hd) fun _ _ => .str i
theorem ed_gobj {x : Str} {a : Addr} (hg : Gl X x) (hm : X.mg x = some (.ref a)) (hd : (x == ("__debug__" : Str)) = false := by decide) : ED X W (.Name x pos) (dK (.obj a)) :=
  ed_k (t := tC (.ref a)) (pe_glob (v := .ref a) hg hm rfl hd) fun _ _ => .obj a

/-- two in a row, then an operation -/
theorem rd_bin {g : Wd → D → D → Option D} {σ : L2.St} {H : Hp} {Q : VK} (h : rdE X.K W (dBin g da db) σ H Q) : tOp (rOf X.K g) (rdE X.K W da) (rdE X.K W db) σ H Q := by
  obtain ⟨w, ρ, R, A, p⟩ := h
  refine ⟨w, ρ, R, A, p.bind.imp fun x R1 p1 => ?_⟩
  intro v w1 H1 l1 W1 r1
  refine ⟨w1, ρ, R1, A.step l1 W1, (Post.bind p1).mono l1 fun y R2 p2 => ?_⟩
  intro u w2 H2 l2 W2 r2
  cases e : g R2 x y with
  | none => rw [e] at p2; exact p2.elim
  | some z =>
    rw [e] at p2
    exact ⟨w2, R2, x, y, z, W2, r1.mono l2.le, r2, e, Ret.mono (l1.trans l2) p2⟩
theorem ed_bin {op : Operator} {g : Wd → D → D → Option D} (ho : OpD X (binaryOp op) g) (ha : ED X W a da) (hb : ED X W b db) : ED X W (.BinOp a op b pos) (dBin g da db) :=
  PEimp (pe_op ho ha hb) fun _ _ _ h => rd_bin h
theorem ed_cmp {op : CmpOp} {g : Wd → D → D → Option D} (ho : OpD X (compareOp op) g) (ha : ED X W a da) (hb : ED X W b db) (hm : behindInMarks op b = false) : ED X W (.Compare a [op] [b] pos) (dBin g da db) :=
  PEimp (pe_cmpR ho ha hb hm) fun _ _ _ h => rd_bin h
theorem ed_ix {g : Wd → D → D → Option D} (ho : IxD X g) (ha : ED X W a da) (hb : ED X W b db) (hs : PlainIx b) : ED X W (.Subscript a b pos) (dBin g da db) :=
  PEimp (pe_ix ho ha hb hs) fun _ _ _ h => rd_bin h
theorem ed_un {op : UnaryOp} {g : Wd → D → Option D} (ho : UnD X (unaryOp op) g) (ha : ED X W a da) : ED X W (.UnaryOp op a pos) (dUn g da) := by
  refine PEimp (pe_un ho ha) fun σ H Q h => ?_
  obtain ⟨w, ρ, R, A, p⟩ := h
  refine ⟨w, ρ, R, A, p.bind.imp fun x R1 p1 => ?_⟩
  intro v w1 H1 l1 W1 r1
  cases e : g R1 x with
  | none => rw [e] at p1; exact p1.elim
  | some z => rw [e] at p1; exact ⟨w1, R1, x, z, W1, r1, e, Ret.mono l1 p1⟩
theorem rd_tst {d : DE} {σ : L2.St} {H : Hp} {Q : Bool → Hp → Prop} (h : rdT X.K W (dTst d) σ H Q) : tTest (rdE X.K W d) σ H Q := by
  obtain ⟨w, ρ, R, A, p⟩ := h
  refine ⟨w, ρ, R, A, p.bind.imp fun x R1 p1 => ?_⟩
  intro v w1 H1 l1 W1 r1
  cases x with
  | bl b => cases r1; exact ⟨b, rfl, p1 w1 H1 l1 W1⟩
  | _ => exact p1.elim
theorem td_cmp {op : CmpOp} {g : Wd → D → D → Option D} (ho : OpD X (compareOp op) g) (ha : ED X W a da) (hb : ED X W b db) (hm : behindInMarks op b = false) : TD X W (.Compare a [op] [b] pos) (dTst (dBin g da db)) := by
  refine PTimp (pt_cmpR ho ha hb hm) fun σ H Q h => ?_
  obtain ⟨w, ρ, R, A, p⟩ := h
  refine rd_bin (W := W) ⟨w, ρ, R, A, p.bind.imp fun x R1 p1 => ?_⟩
  intro v w1 H1 l1 W1 r1
  cases x with
  | bl b => cases r1; exact ⟨b, rfl, p1 w1 H1 l1 W1⟩
  | _ => exact p1.elim
theorem td_val (h : ED X W e da) (he : ∀ whole, isTrue e X.env whole = (do let v ← whole; standAt e.pos; holding [v] (truthy v)) := by intro _; rfl) : TD X W e (dTst da) :=
  PTimp (pt_val h he) fun _ _ _ h => rd_tst h
theorem ed_chain {op op' : CmpOp} {g g' : Wd → D → D → Option D} (ho : OpD X (compareOp op) g) (ho' : OpD X (compareOp op') g') (ha : ED X W a da) (hb : ED X W b db) (hc : ED X W c dc)
    (hm : lastMarks [op, op'] [b, c] = false := by first | rfl | decide) : ED X W (.Compare a [op, op'] [b, c] pos) (dChain g g' da db dc) := by
  refine PEimp (pe_chain ho ho' ha hb hc hm) fun σ H Q h => ?_
  obtain ⟨w, ρ, R, A, p⟩ := h
  refine ⟨w, ρ, R, A, p.bind.imp fun x R1 p1 => ?_⟩
  intro v w1 H1 l1 W1 r1
  refine ⟨w1, ρ, R1, A.step l1 W1, (Post.bind p1).mono l1 fun y R2 p2 => ?_⟩
  intro u w2 H2 l2 W2 r2
  cases e : g R2 x y with
  | none => rw [e] at p2; exact p2.elim
  | some z =>
    rw [e] at p2
    refine ⟨w2, R2, x, y, z, W2, r1.mono l2.le, r2, e, ?_⟩
    intro vz w3 H3 l3 W3 r3
    cases z with
    | bl k =>
      cases r3
      refine ⟨k, rfl, ?_⟩
      cases k with
      | false =>
        rw [if_neg Bool.false_ne_true]
        exact Ret.now (Ret.mono ((l1.trans l2).trans l3) p2) W3 (.bl false)
      | true =>
        rw [if_pos rfl]
        refine ⟨w3, ρ, R2, ((A.step l1 W1).step l2 W2).step l3 W3, (Post.bind p2).mono ((l1.trans l2).trans l3) fun t R3 p3 => ?_⟩
        intro vt w4 H4 l4 W4 r4
        cases e' : g' R3 y t with
        | none => rw [e'] at p3; exact p3.elim
        | some q =>
          rw [e'] at p3
          exact ⟨w4, R3, y, t, q, W4, (r2.mono l3.le).mono l4.le, r4, e', Ret.mono (((l1.trans l2).trans l3).trans l4) p3⟩
    | _ => exact p2.elim

/-! tests -/
variable {ta tb : DT} {rest : List Expr}
theorem tw_and1 (ha : TD X W a ta) : PW X (.BoolOp .And [a] pos) (rdT X.K W ta) := pw_and1 ha
theorem tw_or1 (ha : TD X W a ta) : PW X (.BoolOp .Or [a] pos) (rdT X.K W ta) := pw_or1 ha
theorem tw_and (ha : TD X W a ta) (hb : PW X (.BoolOp .And (b :: rest) pos) (rdT X.K W tb)) : PW X (.BoolOp .And (a :: b :: rest) pos) (rdT X.K W (dAnd ta tb)) := by
  refine PWimp (pw_and ha hb) fun σ H Q h => ?_
  obtain ⟨w, ρ, R, A, p⟩ := h
  refine ⟨w, ρ, R, A, p.bind.imp fun x R1 p1 => ?_⟩
  intro w1 H1 l1 W1
  cases x with
  | true => rw [if_pos rfl] at p1 ⊢; exact ⟨w1, ρ, R1, A.step l1 W1, p1.mono l1 fun b R2 p2 w2 H2 l2 W2 => p2 w2 H2 (l1.trans l2) W2⟩
  | false => rw [if_neg Bool.false_ne_true] at p1 ⊢; exact p1 w1 H1 l1 W1
theorem tw_or (ha : TD X W a ta) (hb : PW X (.BoolOp .Or (b :: rest) pos) (rdT X.K W tb)) : PW X (.BoolOp .Or (a :: b :: rest) pos) (rdT X.K W (dOr ta tb)) := by
  refine PWimp (pw_or ha hb) fun σ H Q h => ?_
  obtain ⟨w, ρ, R, A, p⟩ := h
  refine ⟨w, ρ, R, A, p.bind.imp fun x R1 p1 => ?_⟩
  intro w1 H1 l1 W1
  cases x with
  | true => rw [if_pos rfl] at p1 ⊢; exact p1 w1 H1 l1 W1
  | false => rw [if_neg Bool.false_ne_true] at p1 ⊢; exact ⟨w1, ρ, R1, A.step l1 W1, p1.mono l1 fun b R2 p2 w2 H2 l2 W2 => p2 w2 H2 (l1.trans l2) W2⟩
theorem td_bool {t : DT} (h : PW X e (rdT X.K W t)) : TD X W e t := h.pt
theorem td_not (ha : TD X W a ta) : TD X W (.UnaryOp .Not a pos) (dNot ta) := by
  refine PTimp (pt_not ha) fun σ H Q h => ?_
  obtain ⟨w, ρ, R, A, p⟩ := h
  exact ⟨w, ρ, R, A, p.bind.imp fun x R1 p1 w1 H1 l1 W1 => p1 w1 H1 l1 W1⟩
theorem ed_one {op} (h : ED X W a da) : ED X W (.BoolOp op [a] pos) da := pe_one h
theorem ed_and (ha : ED X W a da) (hb : ED X W (.BoolOp .And (b :: rest) pos) db) : ED X W (.BoolOp .And (a :: b :: rest) pos) (dAndV da db) := by
  refine PEimp (pe_and ha hb) fun σ H Q h => ?_
  obtain ⟨w, ρ, R, A, p⟩ := h
  refine ⟨w, ρ, R, A, p.bind.imp fun x R1 p1 => ?_⟩
  intro v w1 H1 l1 W1 r1
  cases x with
  | bl k =>
    cases r1
    refine ⟨k, rfl, ?_⟩
    cases k with
    | true => rw [if_pos rfl]; exact ⟨w1, ρ, R1, A.step l1 W1, Post.mono l1 p1 fun _ _ q => Ret.mono l1 q⟩
    | false => rw [if_neg Bool.false_ne_true]; exact Ret.now (Ret.mono l1 p1) W1 (.bl false)
  | _ => exact p1.elim
theorem ed_or (ha : ED X W a da) (hb : ED X W (.BoolOp .Or (b :: rest) pos) db) : ED X W (.BoolOp .Or (a :: b :: rest) pos) (dOrV da db) := by
  refine PEimp (pe_or ha hb) fun σ H Q h => ?_
  obtain ⟨w, ρ, R, A, p⟩ := h
  refine ⟨w, ρ, R, A, p.bind.imp fun x R1 p1 => ?_⟩
  intro v w1 H1 l1 W1 r1
  cases x with
  | bl k =>
    cases r1
    refine ⟨k, rfl, ?_⟩
    cases k with
    | false => rw [if_neg Bool.false_ne_true]; exact ⟨w1, ρ, R1, A.step l1 W1, Post.mono l1 p1 fun _ _ q => Ret.mono l1 q⟩
    | true => rw [if_pos rfl]; exact Ret.now (Ret.mono l1 p1) W1 (.bl true)
  | _ => exact p1.elim
theorem ed_not (ha : ED X W a da) : ED X W (.UnaryOp .Not a pos) (dNotV da) := by
  refine PEimp (pe_not ha) fun σ H Q h => ?_
  obtain ⟨w, ρ, R, A, p⟩ := h
  refine ⟨w, ρ, R, A, p.bind.imp fun x R1 p1 => ?_⟩
  intro v w1 H1 l1 W1 r1
  cases x with
  | bl k => cases r1; exact ⟨k, rfl, Ret.now (Ret.mono l1 p1) W1 (.bl _)⟩
  | _ => exact p1.elim
theorem ed_if (hc : TD X W c ta) (ha : ED X W a da) (hb : ED X W b db) : ED X W (.IfExp c a b pos) (dIfE ta da db) := by
  refine PEimp (pe_ifExp hc ha hb) fun σ H Q h => ?_
  obtain ⟨w, ρ, R, A, p⟩ := h
  refine ⟨w, ρ, R, A, p.bind.imp fun x R1 p1 => ?_⟩
  intro w1 H1 l1 W1
  cases x with
  | true => rw [if_pos rfl] at p1 ⊢; exact ⟨w1, ρ, R1, A.step l1 W1, Post.mono l1 p1 fun _ _ q => Ret.mono l1 q⟩
  | false => rw [if_neg Bool.false_ne_true] at p1 ⊢; exact ⟨w1, ρ, R1, A.step l1 W1, Post.mono l1 p1 fun _ _ q => Ret.mono l1 q⟩
theorem fl_if {fa fb : DA} (hc : TD X W c ta) (ha : FL X W a fa) (hb : FL X W b fb) : FL X W (.IfExp c a b pos) (dIfE ta fa fb) := by
  refine PEimp (pe_ifExp hc ha hb) fun σ H Q h => ?_
  obtain ⟨w, ρ, R, A, p⟩ := h
  refine ⟨w, ρ, R, A, p.bind.imp fun x R1 p1 => ?_⟩
  intro w1 H1 l1 W1
  cases x with
  | true => rw [if_pos rfl] at p1 ⊢; exact ⟨w1, ρ, R1, A.step l1 W1, Post.mono l1 p1 fun xs R2 q a vs w2 H2 l2 W2 ha => q a vs w2 H2 (l1.trans l2) W2 (l1.back W1 ha)⟩
  | false => rw [if_neg Bool.false_ne_true] at p1 ⊢; exact ⟨w1, ρ, R1, A.step l1 W1, Post.mono l1 p1 fun xs R2 q a vs w2 H2 l2 W2 ha => q a vs w2 H2 (l1.trans l2) W2 (l1.back W1 ha)⟩

/-! arguments, displays -/
theorem ad_nil : AD X W [] dNil := PAimp pa_nil fun σ H Q h => by
  obtain ⟨w, ρ, R, A, p⟩ := h
  exact p [] w H .refl A.W .nil
theorem ad_cons {es : List Expr} {dr : DA} (ha : ED X W e da) (hr : AD X W es dr) (hs : starEach (e :: es) X.env = (false, eval e X.env) :: starEach es X.env := by rfl) : AD X W (e :: es) (dCons da dr) := by
  refine PAimp (pa_cons ha hr hs) fun σ H Q h => ?_
  obtain ⟨w, ρ, R, A, p⟩ := h
  refine ⟨w, ρ, R, A, p.bind.imp fun x R1 p1 => ?_⟩
  intro v w1 H1 l1 W1 r1
  refine ⟨w1, ρ, R1, A.step l1 W1, (Post.bind p1).mono l1 fun xs R2 p2 => ?_⟩
  intro vs w2 H2 l2 W2 r2
  exact p2 (v :: vs) w2 H2 (l1.trans l2) W2 (.cons (r1.mono l2.le) r2)
/-- a fresh list may be shared -/
theorem ed_fz {d : DA} (h : FL X W e d) : ED X W e (dFz d) := by
  refine PEimp h fun σ H Q h => ?_
  obtain ⟨w, ρ, R, A, p⟩ := h
  refine ⟨w, ρ, R, A, p.bind.imp fun xs R1 p1 => ?_⟩
  intro a vs w1 H1 l1 W1 ha o e r
  have l2 := Wt.share_le (o := HO.lst vs) o.1
  refine p1 _ (w1.share a (.lst vs)) H1 ⟨l1.le.trans l2, fun b u h1 h2 => ?_⟩ (W1.share o e) (.lst upd_same (r.mono l2))
  obtain ⟨h3, h4⟩ := l1.fr b u h1 h2
  exact ⟨h3, Wt.out_share h4 (ne_of_none h1 ha)⟩
theorem RelDs.lenOf {K : PySem.W.Frag} {w : Wt} {vs : List V} {ds : List D} (h : RelDs K w vs ds) {n : Nat} (l : ds.length ≤ n) : vs.length ≤ n := by rw [h.length]; exact l
def dSz (d : DA) : DA := fun ρ R => (d ρ R).bind fun xs R1 => if xs.length ≤ sizeLine then .ok xs R1 else .stuck
theorem ed_tup {es : List Expr} {d : DA} {x1} (h : AD X W es d) : ED X W (.Tuple es x1 pos) (dTup (dSz d)) := by
  refine PEimp (pe_tup h) fun σ H Q h => ?_
  obtain ⟨w, ρ, R, A, p⟩ := h
  refine ⟨w, ρ, R, A, p.bind.bind.imp fun xs R1 p1 => ?_⟩
  intro vs w1 H1 l1 W1 r1
  by_cases c : xs.length ≤ sizeLine
  · simp only [if_pos c] at p1
    exact ⟨r1.lenOf c, fun p hp => (Ret.mono l1 p1).newT W1 hp r1⟩
  · simp only [if_neg c] at p1
    exact p1.elim
theorem out_new {K : PySem.W.Frag} {w : Wt} {H : Hp} {R : Wd} (W : WR K w H R) {p : Addr} (hp : H p = none) : w.out p := W.fresh hp
theorem upd_grow {H : Hp} {p : Addr} {o : HO} (hp : H p = none) : ∀ a u, H a = some u → upd H p o a = some u := fun a u e => (upd_ne (ne_of_none e hp)).trans e
theorem fl_lst {es : List Expr} {d : DA} (h : AD X W es d) : FL X W (.List es pos) (dSz d) := by
  refine PEimp (pe_lst h) fun σ H Q h => ?_
  obtain ⟨w, ρ, R, A, p⟩ := h
  refine ⟨w, ρ, R, A, p.bind.imp fun xs R1 p1 => ?_⟩
  intro vs w1 H1 l1 W1 r1
  by_cases c : xs.length ≤ sizeLine
  · simp only [if_pos c] at p1
    exact ⟨r1.lenOf c, fun p hp => p1 p vs w1 _ (l1.trans (.new hp)) (W1.grow (upd_grow hp)) (l1.back W1 hp) (out_new W1 hp) upd_same r1⟩
  · simp only [if_neg c] at p1
    exact p1.elim
theorem fl_nil : FL X W (.List [] pos) dNil := by
  refine PEimp (pe_lst (ad_nil (W := W))) fun σ H Q h => ?_
  obtain ⟨w, ρ, R, A, p⟩ := h
  refine ⟨w, ρ, R, A, fun vs w1 H1 l1 W1 r1 => ?_⟩
  cases r1
  exact ⟨Nat.zero_le _, fun q hp => p q [] w1 _ (l1.trans (.new hp)) (W1.grow (upd_grow hp)) (l1.back W1 hp) (out_new W1 hp) upd_same .nil⟩

/-! calls -/
theorem Ro.post {K : PySem.W.Frag} {w w1 : Wt} {H H1 : Hp} {σ : L2.St} {r : Ro} {Q : VK} (h : Post K W w H σ r.rs fun x R' => Ret K w H R' x Q) (le : Stp w H w1 H1) : RetR K w1 H1 r Q := by
  cases r with
  | some p => exact Ret.mono le h
  | none => exact h
theorem rd_call {es : List Expr} {d : DA} {g : Wd → List D → Ro} {σ : L2.St} {H : Hp} {Q : VK} (h : rdE X.K W (dCall g d) σ H Q) : tCB (cOf X.K g) (rdA X.K W d) σ H Q := by
  obtain ⟨w, ρ, R, A, p⟩ := h
  refine ⟨w, ρ, R, A, p.bind.imp fun xs R1 p1 => ?_⟩
  intro vs w1 H1 l1 W1 r1
  exact ⟨w1, R1, xs, W1, r1, Ro.post p1 l1⟩
variable {es : List Expr} {d : DA} {g : Wd → List D → Ro} {p : Pos}
/-- a built-in function by its name -/
theorem ed_bf {x : Str} {id : String} (hc : CaD X (.builtin id) g) (hg : Gl X x) (hm : X.mg x = none) (ha : AD X W (e :: es) d) (hv : bootBuiltins x = some (.builtin id) := by decide +kernel) (hn : x ≠ "__name__" := by decide) (hdb : (x == ("__debug__" : Str)) = false := by decide)
    (hs : starEach (e :: es) X.env = (false, eval e X.env) :: starEach es X.env := by rfl) (hp : ((backTo pos (starEach es X.env)).any fun x => x.1) = false := by rfl) : ED X W (.Call (.Name x p) (e :: es) [] pos) (dCall g d) :=
  PEimp (pe_callB hc hg hm hv ha hn hdb hs hp) fun _ _ _ h => rd_call (es := es) h
/-- a built-in class by its name -/
theorem ed_bt {x : Str} {T : String} (hc : CaD X (.type T) g) (hg : Gl X x) (hm : X.mg x = none) (ha : AD X W (e :: es) d) (hv : bootBuiltins x = some (.type T) := by decide +kernel) (hn : x ≠ "__name__" := by decide) (hdb : (x == ("__debug__" : Str)) = false := by decide)
    (hs : starEach (e :: es) X.env = (false, eval e X.env) :: starEach es X.env := by rfl) (hp : ((backTo pos (starEach es X.env)).any fun x => x.1) = false := by rfl) : ED X W (.Call (.Name x p) (e :: es) [] pos) (dCall g d) :=
  PEimp (pe_callTy hc hg hm hv ha hn hdb hs hp) fun _ _ _ h => rd_call (es := es) h
end

/-! ### methods of built-in types -/
def oTy : O → Option String
  | .lst _ => some "list"
  | .dK _ => some "dict" | .dT _ => some "dict" | .dL _ => some "dict" | .lkK _ => some "dict" | .lkT _ => some "dict"
  | .fz (.lst _) => some "list"
  | .fz (.dic _) => some "dict" | .fz (.dct _) => some "dict"
  | _ => none
/-- the built-in type, of those with methods -/
def tyOf (R : Wd) : D → Option String
  | .str _ => some "str" | .int _ => some "int"
  | .lst _ => some "list" | .sub i k => if (lstOf R (.sub i k)).isSome then some "list" else none
  | .dic _ => some "dict" | .dct _ => some "dict"
  | .ref i => R[i]?.bind oTy
  | _ => none
def dMeth (T : String) (g : Wd → D → List D → Ro) (o : DE) (a : DA) : DE := fun ρ R => (o ρ R).bind fun x R1 => if tyOf R1 x = some T then (a ρ R1).bind fun xs R2 => (g R2 x xs).rs else .stuck
section
variable {X : Cx} {W : WX} {o e : Expr} {es : List Expr} {dO : DE} {d : DA} {g : Wd → D → List D → Ro} {name : Str} {apos cpos : Pos} {T id : String}
theorem list_is {pins : List (Addr × Obj)} {σ : L2.St} {H : Hp} {s : Shared} {p : Addr} {xs : List V} (I : L2.Inv X pins σ H s) (hq : SqL X.K H p xs) :
    s.TypeIs (.ref p) "list" ∧ ∀ a, Value.ref p = .ref a → ∃ ob, s.heap.get? a = some ob ∧ ob.dict = none := by
  obtain ⟨its, _, pl, _⟩ := I.list hq
  refine ⟨pl.isList.typeIs, fun a e => ?_⟩
  cases e
  obtain ⟨o, n, e, c, hd, _⟩ := pl
  exact ⟨o, e, hd⟩
theorem ty_is {pins : List (Addr × Obj)} {σ : L2.St} {H : Hp} {s : Shared} {x : V} {v : Value} {w : Wt} {R : Wd} {y : D} (I : L2.Inv X pins σ H s) (r : RelV x v) (Wr : WR X.K w H R) (ry : RelD X.K w x y) (ty : tyOf R y = some T) :
    s.TypeIs v T ∧ ∀ a, v = .ref a → ∃ ob, s.heap.get? a = some ob ∧ ob.dict = none := by
  have lst : ∀ {xs : List D}, lstOf R y = some xs → T = "list" → s.TypeIs v T ∧ ∀ a, v = .ref a → ∃ ob, s.heap.get? a = some ob ∧ ob.dict = none := fun e hT => by
    obtain ⟨a, vs, rfl, h1, _⟩ := lst_rel Wr ry e
    cases r; subst hT
    exact list_is I (.of h1)
  have dk : ∀ {xs : List (Key × D)}, dkOf R y = some xs → T = "dict" → s.TypeIs v T ∧ ∀ a, v = .ref a → ∃ ob, s.heap.get? a = some ob ∧ ob.dict = none := fun e hT => by
    obtain ⟨a, vs, rfl, h1, _⟩ := dk_rel Wr ry e
    cases r; subst hT
    obtain ⟨a1, a2, _⟩ := isD_at I (.inl ⟨_, h1⟩)
    exact ⟨a1, a2⟩
  have dt : ∀ {xs : List (List Key × D)}, dtOf R y = some xs → T = "dict" → s.TypeIs v T ∧ ∀ a, v = .ref a → ∃ ob, s.heap.get? a = some ob ∧ ob.dict = none := fun e hT => by
    obtain ⟨a, vs, rfl, h1, _⟩ := dt_rel Wr ry e
    cases r; subst hT
    obtain ⟨a1, a2, _⟩ := isD_at I (.inr ⟨_, h1⟩)
    exact ⟨a1, a2⟩
  cases y with
  | str z =>
    cases ry
    obtain ⟨t, rfl⟩ := r
    simp only [tyOf, Option.some.injEq] at ty; subst ty
    exact ⟨typeIs_str s z t, fun _ e => nomatch e⟩
  | int z =>
    cases ry
    obtain ⟨t, rfl⟩ := r
    simp only [tyOf, Option.some.injEq] at ty; subst ty
    exact ⟨typeIs_int s z t, fun _ e => nomatch e⟩
  | lst xs => simp only [tyOf, Option.some.injEq] at ty; exact lst rfl ty.symm
  | dic xs => simp only [tyOf, Option.some.injEq] at ty; exact dk rfl ty.symm
  | dct xs => simp only [tyOf, Option.some.injEq] at ty; exact dt rfl ty.symm
  | sub i k =>
    simp only [tyOf] at ty
    cases e : lstOf R (.sub i k) with
    | none => simp [e] at ty
    | some xs => simp [e] at ty; exact lst e ty.symm
  | ref i =>
    simp only [tyOf] at ty
    cases e : R[i]? with
    | none => simp [e] at ty
    | some ob =>
      simp only [e, Option.bind_some] at ty
      cases ob with
      | lst xs => simp only [oTy, Option.some.injEq] at ty; exact lst (xs := xs) (by simp [lstOf, e, oLst]) ty.symm
      | dK xs => simp only [oTy, Option.some.injEq] at ty; exact dk (xs := xs) (by simp [dkOf, e, oDk]) ty.symm
      | dT xs => simp only [oTy, Option.some.injEq] at ty; exact dt (xs := xs) (by simp [dtOf, e, oDt]) ty.symm
      | dL xs => simp only [oTy, Option.some.injEq] at ty; exact dk (by simp only [dkOf, e, Option.bind_some, oDk]; rfl) ty.symm
      | lkK xs => simp only [oTy, Option.some.injEq] at ty; exact dk (xs := xs) (by simp [dkOf, e, oDk]) ty.symm
      | lkT xs => simp only [oTy, Option.some.injEq] at ty; exact dt (xs := xs) (by simp [dtOf, e, oDt]) ty.symm
      | fz d =>
        cases d with
        | lst xs => simp only [oTy, Option.some.injEq] at ty; exact lst (xs := xs) (by simp [lstOf, e, oLst]) ty.symm
        | dic xs => simp only [oTy, Option.some.injEq] at ty; exact dk (xs := xs) (by simp [dkOf, e, oDk]) ty.symm
        | dct xs => simp only [oTy, Option.some.injEq] at ty; exact dt (xs := xs) (by simp [dtOf, e, oDt]) ty.symm
        | _ => simp [oTy] at ty
      | _ => simp [oTy] at ty
  | _ => simp [tyOf] at ty
theorem ed_meth0 (pa : PlainAttrs T) (slot : Slot T name id) (hty : typeOf (.builtin id) = pure (.type "method_descriptor")) (hm : MtD X id g) (ho : ED X W o dO)
    (hbase : attributeBase o name X.env (eval o X.env) = eval o X.env := by rfl) (hline : (apos.endLine == cpos.line) = true := by rfl) : ED X W (.Call (.Attribute o name apos) [] [] cpos) (dMeth T g dO dNil) := by
  refine ⟨fun pins s σ H Q I h => ?_⟩
  obtain ⟨w, ρ, R, A, p⟩ := h
  have ho' : rdE X.K W dO σ H fun x H1 => ∃ w1 R1 y, WR X.K w1 H1 R1 ∧ RelD X.K w1 x y ∧ tyOf R1 y = some T ∧ mOf X.K g x [] H1 Q := by
    refine ⟨w, ρ, R, A, p.bind.imp fun y R1 p1 v w1 H1 l1 W1 r1 => ?_⟩
    by_cases c : tyOf R1 y = some T
    · simp only [if_pos c] at p1
      exact ⟨w1, R1, y, W1, r1, c, w1, R1, y, [], W1, r1, .nil, Ro.post p1 l1⟩
    · simp only [if_neg c] at p1
      exact p1.elim
  refine wpAny_Call_method0_late hbase hline (thn (ho.run pins s σ H _ I ho') fun v s1 ⟨x, H1, I1, rv, w1, R1, y, W1, r1, ty, q1⟩ => ?_)
  obtain ⟨h1, h2⟩ := ty_is I1 rv W1 r1 ty
  exact ⟨T, id, pa, slot, hty, h1, h2, Calls.callWith_builtin rfl (PySem.evalArgs_none (hm pins s1 σ H1 x [] v [] Q I1 rv .nil q1))⟩
theorem ed_meth (pa : PlainAttrs T) (slot : Slot T name id) (hty : typeOf (.builtin id) = pure (.type "method_descriptor")) (hm : MtD X id g) (ho : ED X W o dO) (ha : AD X W (e :: es) d)
    (hbase : attributeBase o name X.env (eval o X.env) = eval o X.env := by rfl)
    (hfew : ((backTo cpos (starEach (e :: es) X.env)).all (fun x => !x.1) && (backToKw cpos (keywordEach [] X.env)).all (fun x => x.1.isSome)
      && decide ((e :: es).length + ([] : List Keyword).length + (if ([] : List Keyword).isEmpty then 0 else 1) < 30)) = true := by rfl)
    (hline : (apos.endLine == cpos.line) = true := by rfl) (hs : starEach (e :: es) X.env = (false, eval e X.env) :: starEach es X.env := by rfl) (hplain : (backTo cpos (starEach es X.env)).any (·.1) = false := by rfl) :
    ED X W (.Call (.Attribute o name apos) (e :: es) [] cpos) (dMeth T g dO d) := by
  refine ⟨fun pins s σ H Q I h => ?_⟩
  obtain ⟨w, ρ, R, A, p⟩ := h
  have ho' : rdE X.K W dO σ H fun x H1 => (∃ w1 R1 y, WR X.K w1 H1 R1 ∧ RelD X.K w1 x y ∧ tyOf R1 y = some T) ∧ rdA X.K W d σ H1 fun xs H2 => mOf X.K g x xs H2 Q := by
    refine ⟨w, ρ, R, A, p.bind.imp fun y R1 p1 v w1 H1 l1 W1 r1 => ?_⟩
    by_cases c : tyOf R1 y = some T
    · simp only [if_pos c] at p1
      refine ⟨⟨w1, R1, y, W1, r1, c⟩, w1, ρ, R1, A.step l1 W1, (Post.bind p1).mono l1 fun xs R2 p2 vs w2 H2 l2 W2 r2 => ?_⟩
      exact ⟨w2, R2, y, xs, W2, r1.mono l2.le, r2, Ro.post p2 (l1.trans l2)⟩
    · simp only [if_neg c] at p1
      exact p1.elim
  refine wpAny_Call_method_late hbase hfew hline rfl (thn (ho.run pins s σ H _ I ho') fun v s1 ⟨x, H1, I1, rv, ⟨w1, R1, y, W1, r1, ty⟩, q1⟩ => ?_)
  obtain ⟨h1, h2⟩ := ty_is I1 rv W1 r1 ty
  refine ⟨T, id, pa, slot, hty, h1, h2, ?_⟩
  have hA := ha.run cpos pins s1 σ H1 _ I1 q1
  rw [hs] at hA ⊢
  refine Calls.callWith_builtin (by show (false || (backTo cpos (starEach es X.env)).any (·.1)) = false; rw [hplain] <;> rfl) (Calls.evalArgs_plain ?_)
  exact thn hA fun us s2 ⟨vs, H2, I2, r2, q2⟩ => hm pins s2 σ H2 x vs v us Q I2 rv r2 q2
end
end Y
end
section
set_option Elab.async false
set_option linter.all false
set_option maxRecDepth 100000
set_option maxHeartbeats 4000000
namespace Y
open PySem PySem.Spec PyProof.Rows L2
open Classical

/-! ### targets of names -/
inductive Tg where
  | nm (i : Nat) | tp2 (a b : Tg) | tp3 (a b c : Tg) | tp4 (a b c d : Tg)
def Tg.vs : Tg → List Nat
  | .nm i => [i]
  | .tp2 a b => a.vs ++ b.vs
  | .tp3 a b c => a.vs ++ b.vs ++ c.vs
  | .tp4 a b c d => a.vs ++ b.vs ++ c.vs ++ d.vs
def Tg.g (K : PySem.W.Frag) : Tg → TG
  | .nm i => gName i
  | .tp2 a b => gTup K 2 (gCons (a.g K) (gCons (b.g K) gNil))
  | .tp3 a b c => gTup K 3 (gCons (a.g K) (gCons (b.g K) (gCons (c.g K) gNil)))
  | .tp4 a b c d => gTup K 4 (gCons (a.g K) (gCons (b.g K) (gCons (c.g K) (gCons (d.g K) gNil))))
def Tg.bind : Tg → D → Rho → Option Rho
  | .nm i, x, ρ => some (ρ.set i (some x))
  | .tp2 a b, x, ρ => match x with
    | .tup [p, q] => (a.bind p ρ).bind (b.bind q)
    | _ => none
  | .tp3 a b c, x, ρ => match x with
    | .tup [p, q, r] => ((a.bind p ρ).bind (b.bind q)).bind (c.bind r)
    | _ => none
  | .tp4 a b c d, x, ρ => match x with
    | .tup [p, q, r, s] => (((a.bind p ρ).bind (b.bind q)).bind (c.bind r)).bind (d.bind s)
    | _ => none
theorem wipe_set {σ : L2.St} {i : Nat} {v : Option V} : ∀ {vs : List Nat}, i ∈ vs → wipe (σ.set i v) vs = wipe σ vs
  | u :: vs, h => by
    show (wipe (σ.set i v) vs).set u none = (wipe σ vs).set u none
    by_cases c : i = u
    · subst c
      by_cases c2 : i ∈ vs
      · rw [wipe_set c2]
      · have : ∀ (vs : List Nat) (σ : L2.St), i ∉ vs → (wipe (σ.set i v) vs).set i none = (wipe σ vs).set i none := by
          intro vs
          induction vs with
          | nil => intro σ _; show (σ.set i v).set i none = σ.set i none; rw [List.set_set]
          | cons u vs ih =>
            intro σ hn
            simp only [List.mem_cons, not_or] at hn
            show ((wipe (σ.set i v) vs).set u none).set i none = ((wipe σ vs).set u none).set i none
            rw [List.set_comm _ _ (Ne.symm hn.1), ih σ hn.2, List.set_comm _ _ hn.1]
        exact this vs σ c2
    · rcases List.mem_cons.mp h with e | h
      · exact absurd e c
      · rw [wipe_set h]
theorem wipe_idem {σ : L2.St} : ∀ {vs us : List Nat}, (∀ u ∈ us, u ∈ vs) → wipe (wipe σ us) vs = wipe σ vs
  | vs, [], _ => rfl
  | vs, u :: us, h => by
    show wipe ((wipe σ us).set u none) vs = wipe σ vs
    rw [wipe_set (h u List.mem_cons_self)]
    exact wipe_idem fun x hx => h x (List.mem_cons_of_mem _ hx)
theorem RelS.set {K : PySem.W.Frag} {w : Wt} {σ : L2.St} {ρ : Rho} (h : RelS K w σ ρ) (i : Nat) {v : V} {d : D} (r : RelD K w v d) : RelS K w (σ.set i (some v)) (ρ.set i (some d)) := by
  refine ⟨by simp [h.len], fun j e z => ?_⟩
  by_cases c : i = j
  · subst c
    by_cases hl : i < ρ.length
    · rw [List.getElem?_set_self hl] at z
      cases z
      exact ⟨v, List.getElem?_set_self (by rw [h.len]; exact hl), r⟩
    · rw [List.getElem?_eq_none (by simpa using hl)] at z; cases z
  · rw [List.getElem?_set_ne c] at z
    obtain ⟨v', a, b⟩ := h.at_ j e z
    exact ⟨v', by rw [List.getElem?_set_ne c]; exact a, b⟩
theorem RelS.forget {K : PySem.W.Frag} {w : Wt} {σ : L2.St} {ρ : Rho} (h : RelS K w σ ρ) (i : Nat) : RelS K w (σ.set i none) (ρ.set i none) := by
  refine ⟨by simp [h.len], fun j e z => ?_⟩
  by_cases c : i = j
  · subst c
    by_cases hl : i < ρ.length
    · rw [List.getElem?_set_self hl] at z; cases z
    · rw [List.getElem?_eq_none (by simpa using hl)] at z; cases z
  · rw [List.getElem?_set_ne c] at z
    obtain ⟨v', a, b⟩ := h.at_ j e z
    exact ⟨v', by rw [List.getElem?_set_ne c]; exact a, b⟩
def wipeR (ρ : Rho) : List Nat → Rho
  | [] => ρ
  | v :: vs => (wipeR ρ vs).set v none
theorem RelS.wipe {K : PySem.W.Frag} {w : Wt} {σ : L2.St} {ρ : Rho} (h : RelS K w σ ρ) : ∀ vs : List Nat, RelS K w (L2.wipe σ vs) (wipeR ρ vs)
  | [] => h
  | v :: vs => (RelS.wipe h vs).forget v
section
variable {K : PySem.W.Frag} {w : Wt} {H : Hp} {R : Wd} (W : WR K w H R)
theorem Tg.run (W : WR K w H R) : ∀ (t : Tg) {σ : L2.St} {ρ ρ' : Rho} {v : V} {x : D} {us : List Nat} {Q : L2.St → Hp → Prop}, RelS K w σ ρ → RelD K w v x → t.bind x ρ = some ρ' → (∀ u ∈ t.vs, u ∈ us) →
    (∀ σ', RelS K w σ' ρ' → L2.wipe σ' us = L2.wipe σ us → Q σ' H) → t.g K v σ H Q
  | .nm i, σ, ρ, ρ', v, x, us, Q, hs, r, e, hu, q => by
    simp only [Tg.bind, Option.some.injEq] at e
    subst e
    exact q _ (hs.set i r) (wipe_set (hu i (by simp [Tg.vs])))
  | .tp2 a b, σ, ρ, ρ', v, x, us, Q, hs, r, e, hu, q => by
    simp only [Tg.bind] at e
    split at e
    · rename_i p1 p2
      cases r with
      | tup h1 h2 =>
        cases h2 with
        | cons r1 h2 => cases h2 with
          | cons r2 h2 =>
            cases h2
            obtain ⟨ρ1, e1, e⟩ := Option.bind_eq_some_iff.mp e
            refine ⟨_, _, rfl, SqT.of (W.sub _ _ h1), rfl, _, _, rfl, Tg.run W a hs r1 e1 (fun u h => hu u (by simp [Tg.vs, h])) fun σ1 s1 w1 => ?_⟩
            exact ⟨_, _, rfl, Tg.run W b s1 r2 e (fun u h => hu u (by simp [Tg.vs, h])) fun σ2 s2 w2 => ⟨rfl, q σ2 s2 (w2.trans w1)⟩⟩
    · cases e
  | .tp3 a b c, σ, ρ, ρ', v, x, us, Q, hs, r, e, hu, q => by
    simp only [Tg.bind] at e
    split at e
    · rename_i p1 p2 p3
      cases r with
      | tup h1 h2 =>
        cases h2 with
        | cons r1 h2 => cases h2 with
          | cons r2 h2 => cases h2 with
            | cons r3 h2 =>
              cases h2
              obtain ⟨ρ2, e2, e⟩ := Option.bind_eq_some_iff.mp e
              obtain ⟨ρ1, e1, e2⟩ := Option.bind_eq_some_iff.mp e2
              refine ⟨_, _, rfl, SqT.of (W.sub _ _ h1), rfl, _, _, rfl, Tg.run W a hs r1 e1 (fun u h => hu u (by simp [Tg.vs, h])) fun σ1 s1 w1 => ?_⟩
              refine ⟨_, _, rfl, Tg.run W b s1 r2 e2 (fun u h => hu u (by simp [Tg.vs, h])) fun σ2 s2 w2 => ?_⟩
              exact ⟨_, _, rfl, Tg.run W c s2 r3 e (fun u h => hu u (by simp [Tg.vs, h])) fun σ3 s3 w3 => ⟨rfl, q σ3 s3 ((w3.trans w2).trans w1)⟩⟩
    · cases e
  | .tp4 a b c d, σ, ρ, ρ', v, x, us, Q, hs, r, e, hu, q => by
    simp only [Tg.bind] at e
    split at e
    · rename_i p1 p2 p3 p4
      cases r with
      | tup h1 h2 =>
        cases h2 with
        | cons r1 h2 => cases h2 with
          | cons r2 h2 => cases h2 with
            | cons r3 h2 => cases h2 with
              | cons r4 h2 =>
                cases h2
                obtain ⟨ρ3, e3, e⟩ := Option.bind_eq_some_iff.mp e
                obtain ⟨ρ2, e2, e3⟩ := Option.bind_eq_some_iff.mp e3
                obtain ⟨ρ1, e1, e2⟩ := Option.bind_eq_some_iff.mp e2
                refine ⟨_, _, rfl, SqT.of (W.sub _ _ h1), rfl, _, _, rfl, Tg.run W a hs r1 e1 (fun u h => hu u (by simp [Tg.vs, h])) fun σ1 s1 w1 => ?_⟩
                refine ⟨_, _, rfl, Tg.run W b s1 r2 e2 (fun u h => hu u (by simp [Tg.vs, h])) fun σ2 s2 w2 => ?_⟩
                refine ⟨_, _, rfl, Tg.run W c s2 r3 e3 (fun u h => hu u (by simp [Tg.vs, h])) fun σ3 s3 w3 => ?_⟩
                exact ⟨_, _, rfl, Tg.run W d s3 r4 e (fun u h => hu u (by simp [Tg.vs, h])) fun σ4 s4 w4 => ⟨rfl, q σ4 s4 (((w4.trans w3).trans w2).trans w1)⟩⟩
    · cases e
end

/-! ### statements -/
def Rs.toS {α : Type} (r : Rs α) (ρ : Rho) (f : α → Wd → SRs) : SRs := match r with
  | .ok a R => f a R
  | .exc c R => .exc c ρ R
  | .stuck => .stuck
def dNext : DS := fun ρ R => .nx ρ R
def dSeq (a b : DS) : DS := fun ρ R => match a ρ R with
  | .nx ρ' R' => b ρ' R'
  | r => r
def dIfS (c : DT) (a b : DS) : DS := fun ρ R => (c ρ R).toS ρ fun k R1 => if k = true then a ρ R1 else b ρ R1
def dSet (i : Nat) (e : DE) : DS := fun ρ R => (e ρ R).toS ρ fun x R1 => .nx (ρ.set i (some x)) R1
def dAsg (t : Tg) (e : DE) : DS := fun ρ R => (e ρ R).toS ρ fun x R1 => match t.bind x ρ with
  | some ρ' => .nx ρ' R1
  | none => .stuck
/-- a fresh list becomes a cell of its own -/
def dSetL (i : Nat) (e : DA) : DS := fun ρ R => (e ρ R).toS ρ fun xs R1 => .nx (ρ.set i (some (.ref R1.length))) (R1 ++ [.lst xs])
def dRet (e : DE) : DS := fun ρ R => (e ρ R).toS ρ fun x R1 => .rt x R1
def dRetN : DS := fun _ R => .rt .non R
def dExp (e : DE) : DS := fun ρ R => (e ρ R).toS ρ fun _ R1 => .nx ρ R1
def dBrk : DS := fun ρ R => .bk ρ R
def dCnt : DS := fun ρ R => .ct ρ R
section
variable {X : Cx} {W : WX} {st : Stmt} {rest : List Stmt} {a b : DS} {e c : Expr} {da : DE} {pos : Pos} {K : PySem.W.Frag} {w w1 : Wt} {σ : L2.St} {H H1 : Hp} {ρ : Rho} {R : Wd}
theorem Rs.post {α : Type} {r : Rs α} {f : α → Wd → SRs} {E : Ends} (A : At K w σ H ρ R) (h : SPost K W w H (r.toS ρ f) E) : Post K W w H σ r fun x R1 => SPost K W w H (f x R1) E := by
  cases r with
  | ok x R1 => exact h
  | exc c R1 => exact h σ w H .refl A.S
  | stuck => exact h
theorem sd_nil : SsD X W [] dNext := PSsimp pss_nil fun E σ H h => by
  obtain ⟨w, ρ, R, A, p⟩ := h
  exact p σ w H .refl A
theorem SPost.seq {r : SRs} {E : Ends} (h : SPost K W w H (match r with
    | .nx ρ' R' => b ρ' R'
    | r => r) E) : SPost K W w H r { E with nx := rdS K W b E } := by
  cases r with
  | nx ρ' R' => exact fun σ' w' H' l A' => ⟨w', ρ', R', A', SPost.mono l h⟩
  | _ => exact h
theorem sd_cons (h1 : SD X W st a) (h2 : SsD X W rest b) : SsD X W (st :: rest) (dSeq a b) := PSsimp (pss_cons h1 h2) fun E σ H h => by
  obtain ⟨w, ρ, R, A, p⟩ := h
  exact ⟨w, ρ, R, A, p.seq⟩
theorem sd_one (h1 : SD X W st a) : SsD X W [st] a := pss_one h1
theorem sd_pass : SD X W (.Pass pos) dNext := PSimp ps_pass fun E σ H h => by
  obtain ⟨w, ρ, R, A, p⟩ := h
  exact p σ w H .refl A
theorem sd_brk : SD X W (.Break pos) dBrk := PSimp ps_break fun E σ H h => by
  obtain ⟨w, ρ, R, A, p⟩ := h
  exact p σ w H .refl A
theorem sd_cnt : SD X W (.Continue pos) dCnt := PSimp ps_continue fun E σ H h => by
  obtain ⟨w, ρ, R, A, p⟩ := h
  exact p σ w H .refl A
theorem sd_exp (h : ED X W e da) (hs : swapsWith e none pos.line X.env = pure false := by rfl) : SD X W (.Expr e pos) (dExp da) := PSimp (ps_expr h hs) fun E σ H h => by
  obtain ⟨w, ρ, R, A, p⟩ := h
  exact ⟨w, ρ, R, A, (Rs.post A p).imp fun x R1 p1 v w1 H1 l1 W1 r1 => p1 σ w1 H1 l1 (A.step l1 W1)⟩
theorem sd_ret (h : ED X W e da) : SD X W (.Return (some e) pos) (dRet da) := PSimp (ps_ret h) fun E σ H h => by
  obtain ⟨w, ρ, R, A, p⟩ := h
  exact ⟨w, ρ, R, A, (Rs.post A p).imp fun x R1 p1 v w1 H1 l1 W1 r1 => p1 v w1 H1 l1 W1 r1⟩
theorem sd_retN : SD X W (.Return none pos) dRetN := PSimp ps_retN fun E σ H h => by
  obtain ⟨w, ρ, R, A, p⟩ := h
  exact Ret.now p A.W .non
theorem sd_if {tc : DT} {sa sb : List Stmt} (hc : TD X W c tc) (ha : SsD X W sa a) (hb : SsD X W sb b) : SD X W (.If c sa sb pos) (dIfS tc a b) := PSimp (ps_if hc ha hb) fun E σ H h => by
  obtain ⟨w, ρ, R, A, p⟩ := h
  refine ⟨w, ρ, R, A, (Rs.post A p).imp fun x R1 p1 w1 H1 l1 W1 => ?_⟩
  cases x with
  | true => rw [if_pos rfl] at p1 ⊢; exact ⟨w1, ρ, R1, A.step l1 W1, p1.mono l1⟩
  | false => rw [if_neg Bool.false_ne_true] at p1 ⊢; exact ⟨w1, ρ, R1, A.step l1 W1, p1.mono l1⟩
theorem sd_set {i : Nat} {x : Str} {pos' : Pos} (hN : X.N.Nodup) (hi : X.N[i]? = some x) (hx : Loc X.env.scope x) (he : ED X W e da) (hs : swapsWith e (some (.Name x pos')) pos.line X.env = pure false := by rfl) (hf : X.fn x = true ∨ X.env.scope.names.lookup x = some .local := by first | exact .inl rfl | exact .inr rfl | assumption) :
    SD X W (.Assign [.Name x pos'] e pos) (dSet i da) := PSimp (ps_set hN hi hx he hs hf) fun E σ H h => by
  obtain ⟨w, ρ, R, A, p⟩ := h
  exact ⟨w, ρ, R, A, (Rs.post A p).imp fun x R1 p1 v w1 H1 l1 W1 r1 => p1 _ w1 H1 l1 ⟨W1, (A.S.mono l1.le).set i r1⟩⟩
/-- a fresh list, as a cell -/
theorem new_lst {a : Addr} {vs : List V} {xs : List D} (W1 : WR K w H R) (o : w.out a) (e : H a = some (.lst vs)) (r : RelDs K w vs xs) : WR K (w.cell R.length a) H (R ++ [.lst xs]) ∧ w.le (w.cell R.length a) ∧ RelD K (w.cell R.length a) (.ref a) (.ref R.length) := by
  have le := Wt.cell_le (p := a) (W1.hi R.length (Nat.le_refl _)).1
  have m : (w.cell R.length a).m R.length = some a := by show (if R.length = R.length then some a else w.m R.length) = some a; rw [if_pos rfl]
  exact ⟨W1.newCell o e ⟨a, vs, m, o.1, e, r.mono le⟩, le, .ref m⟩
theorem new_dk {a : Addr} {vs : List (Key × V)} {xs : List (Key × D)} (W1 : WR K w H R) (o : w.out a) (e : H a = some (.dK vs)) (r : RelK K w vs xs) : WR K (w.cell R.length a) H (R ++ [.dK xs]) ∧ w.le (w.cell R.length a) ∧ RelD K (w.cell R.length a) (.ref a) (.ref R.length) := by
  have le := Wt.cell_le (p := a) (W1.hi R.length (Nat.le_refl _)).1
  have m : (w.cell R.length a).m R.length = some a := by show (if R.length = R.length then some a else w.m R.length) = some a; rw [if_pos rfl]
  exact ⟨W1.newCell o e ⟨(W1.hi R.length (Nat.le_refl _)).2.2, a, vs, m, o.1, e, r.mono le⟩, le, .ref m⟩
theorem new_dt {a : Addr} {vs : List (List Key × V)} {xs : List (List Key × D)} (W1 : WR K w H R) (o : w.out a) (e : H a = some (.dT vs)) (r : RelK K w vs xs) : WR K (w.cell R.length a) H (R ++ [.dT xs]) ∧ w.le (w.cell R.length a) ∧ RelD K (w.cell R.length a) (.ref a) (.ref R.length) := by
  have le := Wt.cell_le (p := a) (W1.hi R.length (Nat.le_refl _)).1
  have m : (w.cell R.length a).m R.length = some a := by show (if R.length = R.length then some a else w.m R.length) = some a; rw [if_pos rfl]
  exact ⟨W1.newCell o e ⟨(W1.hi R.length (Nat.le_refl _)).2.2, a, vs, m, o.1, e, r.mono le⟩, le, .ref m⟩
theorem Stp.cell {w0 : Wt} {H0 : Hp} {a : Addr} {n : Nat} (l : Stp w0 H0 w H) (ha : H0 a = none) (le : w.le (w.cell n a)) : Stp w0 H0 (w.cell n a) H :=
  ⟨l.le.trans le, fun b u h1 h2 => by
    obtain ⟨h3, h4⟩ := l.fr b u h1 h2
    refine ⟨h3, h4.1, fun i => ?_, h4.2.2⟩
    show (if i = n then some a else w.m i) ≠ some b
    split
    · intro z; cases z; rw [ha] at h1; cases h1
    · exact h4.2.1 i⟩
/-- an expression whose fresh list becomes a cell; its value is the handle -/
def dNewL (d : DA) : DE := fun ρ R => (d ρ R).bind fun xs R1 => .ok (.ref R1.length) (R1 ++ [.lst xs])
theorem ed_newL {d : DA} (h : FL X W e d) : ED X W e (dNewL d) := PEimp h fun σ H Q h => by
  obtain ⟨w, ρ, R, A, p⟩ := h
  refine ⟨w, ρ, R, A, p.bind.imp fun xs R1 p1 a vs w1 H1 l1 W1 ha o e1 r => ?_⟩
  obtain ⟨n1, n2, n3⟩ := new_lst W1 o e1 r
  exact p1 _ _ _ (l1.cell ha n2) n1 n3
abbrev FK (X : Cx) (W : WX) (e : Expr) (d : Rho → Wd → Rs (List (Key × D))) : Prop := PE X e (rdFK X.K W d)
abbrev FT (X : Cx) (W : WX) (e : Expr) (d : Rho → Wd → Rs (List (List Key × D))) : Prop := PE X e (rdFT X.K W d)
def dNewK (d : Rho → Wd → Rs (List (Key × D))) : DE := fun ρ R => (d ρ R).bind fun xs R1 => .ok (.ref R1.length) (R1 ++ [.dK xs])
theorem ed_newK {d : Rho → Wd → Rs (List (Key × D))} (h : FK X W e d) : ED X W e (dNewK d) := PEimp h fun σ H Q h => by
  obtain ⟨w, ρ, R, A, p⟩ := h
  refine ⟨w, ρ, R, A, p.bind.imp fun xs R1 p1 a vs w1 H1 l1 W1 ha o e1 r => ?_⟩
  obtain ⟨n1, n2, n3⟩ := new_dk W1 o e1 r
  exact p1 _ _ _ (l1.cell ha n2) n1 n3
def dNewT (d : Rho → Wd → Rs (List (List Key × D))) : DE := fun ρ R => (d ρ R).bind fun xs R1 => .ok (.ref R1.length) (R1 ++ [.dT xs])
theorem ed_newT {d : Rho → Wd → Rs (List (List Key × D))} (h : FT X W e d) : ED X W e (dNewT d) := PEimp h fun σ H Q h => by
  obtain ⟨w, ρ, R, A, p⟩ := h
  refine ⟨w, ρ, R, A, p.bind.imp fun xs R1 p1 a vs w1 H1 l1 W1 ha o e1 r => ?_⟩
  obtain ⟨n1, n2, n3⟩ := new_dt W1 o e1 r
  exact p1 _ _ _ (l1.cell ha n2) n1 n3
theorem pe_frz {t : TE} (h : PE X e t) : PE X e fun σ H Q => t σ H fun v H1 => ∃ d u, v = .ref d ∧ H1 d = some u ∧ Mut (some u) ∧ ∀ od, Q v (upd H1 d (.frz od u)) := by
  refine ⟨fun pins s σ H Q I hw => thn (h.run pins s σ H _ I hw) fun v s1 ⟨x, H1, I1, r, d, u, e1, e2, mu, q⟩ => ?_⟩
  obtain ⟨od, I2⟩ := I1.lock e2 mu
  exact ⟨x, _, I2, r, q od⟩
theorem frz_new {H0 : Hp} {w0 : Wt} {a : Addr} {u : HO} (l1 : Stp w0 H0 w H) (W1 : WR K w H R) (ha : H0 a = none) (o : w.out a) (od : Obj) : Stp w0 H0 (w.share a (.frz od u)) (upd H a (.frz od u)) ∧ WR K (w.share a (.frz od u)) (upd H a (.frz od u)) R := by
  have W2 : WR K w (upd H a (.frz od u)) R := W1.other fun b v e c => by
    refine (upd_ne ?_).trans e
    rintro rfl
    rcases c with c | ⟨i, c | ⟨k, c⟩⟩
    · exact c o.1
    · exact o.2.1 i c
    · exact o.2.2 i k c
  refine ⟨⟨l1.le.trans (Wt.share_le o.1), fun b v h1 h2 => ?_⟩, W2.share o upd_same⟩
  obtain ⟨h3, h4⟩ := l1.fr b v h1 h2
  have ne := ne_of_none h1 ha
  exact ⟨(upd_ne ne).trans h3, Wt.out_share h4 ne⟩
def dFzK (d : Rho → Wd → Rs (List (Key × D))) : DE := fun ρ R => (d ρ R).bind fun xs R1 => .ok (.dic xs) R1
theorem ed_fzK {d : Rho → Wd → Rs (List (Key × D))} (h : FK X W e d) : ED X W e (dFzK d) := PEimp (pe_frz h) fun σ H Q h => by
  obtain ⟨w, ρ, R, A, p⟩ := h
  refine ⟨w, ρ, R, A, p.bind.imp fun xs R1 p1 a vs w1 H1 l1 W1 ha o e r => ⟨a, _, rfl, e, trivial, fun od => ?_⟩⟩
  obtain ⟨n1, n2⟩ := frz_new (u := .dK vs) l1 W1 ha o od
  have r' := r.mono (Wt.share_le (o := HO.frz od (.dK vs)) o.1)
  exact p1 _ _ _ n1 n2 (.dic upd_same r'.1 r'.2)
def dFzT (d : Rho → Wd → Rs (List (List Key × D))) : DE := fun ρ R => (d ρ R).bind fun xs R1 => .ok (.dct xs) R1
theorem ed_fzT {d : Rho → Wd → Rs (List (List Key × D))} (h : FT X W e d) : ED X W e (dFzT d) := PEimp (pe_frz h) fun σ H Q h => by
  obtain ⟨w, ρ, R, A, p⟩ := h
  refine ⟨w, ρ, R, A, p.bind.imp fun xs R1 p1 a vs w1 H1 l1 W1 ha o e r => ⟨a, _, rfl, e, trivial, fun od => ?_⟩⟩
  obtain ⟨n1, n2⟩ := frz_new (u := .dT vs) l1 W1 ha o od
  have r' := r.mono (Wt.share_le (o := HO.frz od (.dT vs)) o.1)
  exact p1 _ _ _ n1 n2 (.dct upd_same r'.1 r'.2)
theorem sd_asg {tg : Expr} {t : Tg} (he : ED X W e da) (hg : PG X tg (t.g X.K)) (hs : swapsWithSole [tg] e pos.line X.env = pure false := by rfl) (hw : swappedStores [tg] e X.env = pure none := by rfl)
    (h1 : (assignEach [tg] X.env).map (·.2) = [assign tg X.env] := by rfl) : SD X W (.Assign [tg] e pos) (dAsg t da) := PSimp (ps_asg he hg hs hw h1) fun E σ H h => by
  obtain ⟨w, ρ, R, A, p⟩ := h
  refine ⟨w, ρ, R, A, (Rs.post A p).imp fun x R1 p1 v w1 H1 l1 W1 r1 => ?_⟩
  cases e : t.bind x ρ with
  | none => rw [e] at p1; exact p1.elim
  | some ρ' =>
    rw [e] at p1
    exact Tg.run W1 t (A.S.mono l1.le) r1 e (us := t.vs) (fun _ h => h) fun σ' s' _ => p1 σ' w1 H1 l1 ⟨W1, s'⟩
/-- a, b = x, y on both sides -/
def dPar (i j : Nat) (d : DA) : DS := fun ρ R => (d ρ R).toS ρ fun xs R1 => match xs with
  | [x, y] => .nx ((ρ.set i (some x)).set j (some y)) R1
  | _ => .stuck
theorem sd_par {i j : Nat} {x y : Str} {e1 e2 : Expr} {d : DA} {px py pt : Pos} {kt k2 pt2} (hc : X.calm = true) (hN : X.N.Nodup) (hi : X.N[i]? = some x) (hj : X.N[j]? = some y) (hij : i ≠ j)
    (hx : X.env.scope.names.lookup x = some .local) (hy : X.env.scope.names.lookup y = some .local) (ha : AD X W [e1, e2] d)
    (hw : swappedStores [.Tuple [.Name x px, .Name y py] kt pt] (.Tuple [e1, e2] k2 pt2) X.env = pure (some [x, y]))
    (hs : swapsWithSole [.Tuple [.Name x px, .Name y py] kt pt] (.Tuple [e1, e2] k2 pt2) pos.line X.env = pure false := by rfl) :
    SD X W (.Assign [.Tuple [.Name x px, .Name y py] kt pt] (.Tuple [e1, e2] k2 pt2) pos) (dPar i j d) := PSimp (ps_par hc hN hi hj hij hx hy ha hw hs) fun E σ H h => by
  obtain ⟨w, ρ, R, A, p⟩ := h
  refine ⟨w, ρ, R, A, (Rs.post A p).imp fun xs R1 p1 vs w1 H1 l1 W1 r1 => ?_⟩
  match xs, p1 with
  | [x, y], p1 =>
    cases r1 with
    | cons ra r1 => cases r1 with
      | cons rb r1 => cases r1; exact ⟨_, _, rfl, p1 _ w1 H1 l1 ⟨W1, ((A.S.mono l1.le).set i ra).set j rb⟩⟩
  | [], p1 => exact p1.elim
  | [_], p1 => exact p1.elim
  | _ :: _ :: _ :: _, p1 => exact p1.elim
end

/-! ### while -/
def whN (c : DT) (b : DS) : Nat → Rho → Wd → Option SRs
  | 0, _, _ => none
  | n + 1, ρ, R => match c ρ R with
    | .ok k R1 => if k = true then
        match b ρ R1 with
        | .nx ρ2 R2 => whN c b n ρ2 R2
        | .ct ρ2 R2 => whN c b n ρ2 R2
        | .bk ρ2 R2 => some (.nx ρ2 R2)
        | r => some r
      else some (.nx ρ R1)
    | .exc x R1 => some (.exc x ρ R1)
    | .stuck => some .stuck
theorem whN_succ {c : DT} {b : DS} : ∀ {n : Nat} {ρ : Rho} {R : Wd} {r : SRs}, whN c b n ρ R = some r → whN c b (n + 1) ρ R = some r
  | 0, _, _, _, h => by simp [whN] at h
  | n + 1, ρ, R, r, h => by
    rw [whN] at h ⊢
    cases e : c ρ R with
    | ok k R1 =>
      simp only [e] at h ⊢
      by_cases hk : k = true
      · simp only [if_pos hk] at h ⊢
        cases e2 : b ρ R1 with
        | nx ρ2 R2 => simp only [e2] at h ⊢; exact whN_succ h
        | ct ρ2 R2 => simp only [e2] at h ⊢; exact whN_succ h
        | _ => simp only [e2] at h ⊢; exact h
      · simp only [if_neg hk] at h ⊢; exact h
    | _ => simp only [e] at h ⊢; exact h
theorem whN_mono {c : DT} {b : DS} {n m : Nat} {ρ : Rho} {R : Wd} {r : SRs} (h : whN c b n ρ R = some r) (l : n ≤ m) : whN c b m ρ R = some r := by
  induction l with
  | refl => exact h
  | step _ ih => exact whN_succ ih
noncomputable def dWhile (c : DT) (b : DS) : DS := fun ρ R => if h : ∃ r n, whN c b n ρ R = some r then h.choose else .stuck
theorem dWhile_of {c : DT} {b : DS} {n : Nat} {ρ : Rho} {R : Wd} {r : SRs} (h : whN c b n ρ R = some r) : dWhile c b ρ R = r := by
  have ex : ∃ r n, whN c b n ρ R = some r := ⟨r, n, h⟩
  unfold dWhile
  rw [dif_pos ex]
  obtain ⟨n2, h2⟩ := ex.choose_spec
  have a := whN_mono h (Nat.le_max_left n n2)
  have b := whN_mono h2 (Nat.le_max_right n n2)
  rw [a] at b
  exact (Option.some.inj b).symm
theorem dWhile_eq (c : DT) (b : DS) (ρ : Rho) (R : Wd) : dWhile c b ρ R = match c ρ R with
    | .ok k R1 => if k = true then
        match b ρ R1 with
        | .nx ρ2 R2 => dWhile c b ρ2 R2
        | .ct ρ2 R2 => dWhile c b ρ2 R2
        | .bk ρ2 R2 => .nx ρ2 R2
        | r => r
      else .nx ρ R1
    | .exc x R1 => .exc x ρ R1
    | .stuck => .stuck := by
  have next : ∀ (ρ2 : Rho) (R2 : Wd), (∀ n, whN c b (n + 1) ρ R = whN c b n ρ2 R2) → dWhile c b ρ R = dWhile c b ρ2 R2 := by
    intro ρ2 R2 h
    by_cases ex : ∃ r n, whN c b n ρ2 R2 = some r
    · obtain ⟨r, n, e⟩ := ex
      rw [dWhile_of e, dWhile_of ((h n).trans e)]
    · have ex' : ¬ ∃ r n, whN c b n ρ R = some r := by
        rintro ⟨r, n, e⟩
        cases n with
        | zero => simp [whN] at e
        | succ n => exact ex ⟨r, n, (h n).symm.trans e⟩
      unfold dWhile
      rw [dif_neg ex, dif_neg ex']
  cases e : c ρ R with
  | ok k R1 =>
    by_cases hk : k = true
    · simp only [if_pos hk]
      cases e2 : b ρ R1 with
      | nx ρ2 R2 => exact next ρ2 R2 fun n => by rw [whN]; simp only [e, if_pos hk, e2]
      | ct ρ2 R2 => exact next ρ2 R2 fun n => by rw [whN]; simp only [e, if_pos hk, e2]
      | _ => exact dWhile_of (n := 1) (by rw [whN]; simp only [e, if_pos hk, e2])
    · simp only [if_neg hk]
      exact dWhile_of (n := 1) (by rw [whN]; simp only [e, if_neg hk])
  | _ => exact dWhile_of (n := 1) (by rw [whN]; simp only [e])
section
variable {X : Cx} {W : WX} {c : Expr} {body : List Stmt} {dc : DT} {db : DS} {pos : Pos}
theorem sd_while (hp : PassesOwn (model X.prog X.w) X.A X.env X.xe) (hc : TD X W c dc) (hb : SsD X W body db) : SD X W (.While c body [] pos) (dWhile dc db) := PSimp (ps_while hp hc hb) fun E σ H h => by
  obtain ⟨w, ρ, R, A, p⟩ := h
  by_cases ex : ∃ r n, whN dc db n ρ R = some r
  · obtain ⟨r, n, e⟩ := ex
    rw [dWhile_of e] at p
    refine ⟨fun m σ1 H1 => ∃ w1 ρ1 R1, At X.K w1 σ1 H1 ρ1 R1 ∧ ∃ r1, whN dc db m ρ1 R1 = some r1 ∧ SPost X.K W w1 H1 r1 E, ⟨n, w, ρ, R, A, r, e, p⟩, ?_⟩
    rintro m σ1 H1 ⟨w1, ρ1, R1, A1, r1, e1, p1⟩
    cases m with
    | zero => simp [whN] at e1
    | succ m =>
      rw [whN] at e1
      refine ⟨w1, ρ1, R1, A1, ?_⟩
      cases ec : dc ρ1 R1 with
      | ok k R2 =>
        simp only [ec] at e1
        intro w2 H2 l2 W2
        by_cases hk : k = true
        · rw [if_pos hk]
          simp only [if_pos hk] at e1
          refine ⟨fun σ' H' => ∃ w' ρ' R', At X.K w' σ' H' ρ' R' ∧ ∃ r', whN dc db m ρ' R' = some r' ∧ SPost X.K W w' H' r' E, fun σ' H' h' => ⟨m, Nat.lt_succ_self m, h'⟩, w2, ρ1, R2, A1.step l2 W2, ?_⟩
          cases eb : db ρ1 R2 with
          | nx ρ3 R3 => simp only [eb] at e1; exact fun σ3 w3 H3 l3 A3 => ⟨w3, ρ3, R3, A3, r1, e1, p1.mono (l2.trans l3)⟩
          | ct ρ3 R3 => simp only [eb] at e1; exact fun σ3 w3 H3 l3 A3 => ⟨w3, ρ3, R3, A3, r1, e1, p1.mono (l2.trans l3)⟩
          | bk ρ3 R3 => simp only [eb, Option.some.injEq] at e1; subst e1; exact fun σ3 w3 H3 l3 A3 => p1 σ3 w3 H3 (l2.trans l3) A3
          | rt d R3 => simp only [eb, Option.some.injEq] at e1; subst e1; exact Ret.mono l2 p1
          | exc x ρ3 R3 => simp only [eb, Option.some.injEq] at e1; subst e1; exact fun σ3 w3 H3 l3 s3 => p1 σ3 w3 H3 (l2.trans l3) s3
          | stuck => simp only [eb, Option.some.injEq] at e1; subst e1; exact p1
        · rw [if_neg hk]
          simp only [if_neg hk, Option.some.injEq] at e1
          subst e1
          exact p1 σ1 w2 H2 l2 (A1.step l2 W2)
      | exc x R2 =>
        simp only [ec, Option.some.injEq] at e1
        subst e1
        exact p1 σ1 w1 H1 .refl A1.S
      | stuck => simp only [ec, Option.some.injEq] at e1; subst e1; exact p1
  · unfold dWhile at p
    rw [dif_neg ex] at p
    exact p.elim
end
end Y
end
section
set_option Elab.async false
set_option linter.all false
set_option maxRecDepth 100000
set_option maxHeartbeats 4000000
namespace Y
open PySem PySem.Spec PyProof.Rows L2
open Classical

/-! ### what is walked -/
def ItsR (K : PySem.W.Frag) (J : It) (w : Wt) (ds : List D) (ok : Wd → Prop) : Prop := ∀ w' H' R', w.le w' → WR K w' H' R' → ok R' →
  (∀ i d, ds[i]? = some d → J.go i H' ∧ ∀ x H'', J.yld i H' x H'' → ∃ w'', Stp w' H' w'' H'' ∧ WR K w'' H'' R' ∧ RelD K w'' x d) ∧ ∀ i, ds.length ≤ i → J.stop i H'
abbrev DI := Rho → Wd → Rs (List D × (Wd → Prop))
def rdI (K : PySem.W.Frag) (W : WX) (d : DI) : TI := fun σ H P => ∃ w ρ R, At K w σ H ρ R ∧ Post K W w H σ (d ρ R) fun p R' => ∀ J w' H', Stp w H w' H' → WR K w' H' R' → ItsR K J w' p.1 p.2 → p.1.length ≤ sizeLine → P J H'
abbrev ID (X : Cx) (W : WX) (tg e : Expr) (d : DI) : Prop := PI X tg e (rdI X.K W d)
theorem ItsR.mono {K : PySem.W.Frag} {J : It} {w w' : Wt} {ds : List D} {ok : Wd → Prop} (h : ItsR K J w ds ok) (l : w.le w') : ItsR K J w' ds ok := fun w2 H2 R2 l2 => h w2 H2 R2 (l.trans l2)

noncomputable def forD (t : Tg) (ok : Wd → Prop) (b : DS) : List D → Rho → Wd → SRs
  | [], ρ, R => if ok R then .nx ρ R else .stuck
  | x :: xs, ρ, R => if ok R then match t.bind x ρ with
      | none => .stuck
      | some ρ1 => match b ρ1 R with
        | .nx ρ2 R2 => forD t ok b xs ρ2 R2
        | .ct ρ2 R2 => forD t ok b xs ρ2 R2
        | .bk ρ2 R2 => .nx ρ2 R2
        | r => r
    else .stuck
noncomputable def dFor (t : Tg) (d : DI) (b : DS) : DS := fun ρ R => (d ρ R).toS ρ fun p R1 => forD t p.2 b p.1 ρ R1
section
variable {X : Cx} {W : WX} {tg iter : Expr} {body : List Stmt} {di : DI} {db : DS} {pos : Pos} {t : Tg}
theorem sd_for (hp : PassesOwn (model X.prog X.w) X.A X.env X.xe) (hc : X.calm = true) (hi : ID X W tg iter di) (hg : PG X tg (t.g X.K)) (hb : SsD X W body db)
    (hs : ∀ x, foldedSetIterable iter X.env x = pure x := by intro _; rfl) : SD X W (.For tg iter body [] pos) (dFor t di db) := PSimp (ps_for hp hc hi hg hb hs) fun E σ H h => by
  obtain ⟨w, ρ, R, A, p⟩ := h
  refine ⟨w, ρ, R, A, (Rs.post A p).imp fun q R1 p1 J w1 H1 l1 W1 hI _ => ?_⟩
  obtain ⟨ds, ok⟩ := q
  have p1 : SPost X.K W w H (forD t ok db ds ρ R1) E := p1
  have hI : ItsR X.K J w1 ds ok := hI
  refine ⟨fun i m σ2 H2 => m + i = ds.length ∧ ∃ w2 ρ2 R2, w1.le w2 ∧ At X.K w2 σ2 H2 ρ2 R2 ∧ SPost X.K W w2 H2 (forD t ok db (ds.drop i) ρ2 R2) E,
    ⟨ds.length, by omega, w1, ρ, R1, .refl _, A.step l1 W1, by rw [List.drop_zero]; exact p1.mono l1⟩, ?_⟩
  rintro i m σ2 H2 ⟨hm, w2, ρ2, R2, l2, A2, p2⟩
  cases e : ds.drop i with
  | nil =>
    have hl : ds.length ≤ i := by
      have := congrArg List.length e
      simp at this; omega
    rw [e, forD] at p2
    by_cases c : ok R2
    · rw [if_pos c] at p2
      exact .inl ⟨(hI w2 H2 R2 l2 A2.W c).2 i hl, p2 σ2 w2 H2 .refl A2⟩
    · rw [if_neg c] at p2; exact p2.elim
  | cons x xs =>
    have hx : ds[i]? = some x := by
      have := congrArg (fun l => l[0]?) e
      simpa [List.getElem?_drop] using this
    have hxs : ds.drop (i + 1) = xs := by
      have := congrArg List.tail e
      simpa [List.tail_drop] using this
    rw [e, forD] at p2
    by_cases c : ok R2
    · rw [if_pos c] at p2
      obtain ⟨hgo, hy⟩ := (hI w2 H2 R2 l2 A2.W c).1 i x hx
      refine .inr ⟨hgo, fun σ3 H3 => ∃ w3 ρ3 R3, w1.le w3 ∧ At X.K w3 σ3 H3 ρ3 R3 ∧ SPost X.K W w3 H3 (forD t ok db xs ρ3 R3) E, ?_, ?_⟩
      · rintro σ3 H3 ⟨w3, ρ3, R3, l3, A3, p3⟩
        have hlt : i < ds.length := by
          rcases Nat.lt_or_ge i ds.length with h | h
          · exact h
          · rw [List.getElem?_eq_none h] at hx; cases hx
        exact ⟨m - 1, by omega, by omega, w3, ρ3, R3, l3, A3, by rw [hxs]; exact p3⟩
      · intro v H3 y3
        obtain ⟨w3, l3, W3, r3⟩ := hy v H3 y3
        cases eb : t.bind x ρ2 with
        | none => rw [eb] at p2; exact p2.elim
        | some ρ3 =>
          rw [eb] at p2
          refine Tg.run W3 t (A2.S.mono l3.le) r3 eb (us := t.vs) (fun _ h => h) fun σ3 s3 _ => ?_
          refine ⟨w3, ρ3, R2, ⟨W3, s3⟩, ?_⟩
          have p2 : SPost X.K W w2 H2 (match db ρ3 R2 with
            | .nx ρ2 R2 => forD t ok db xs ρ2 R2
            | .ct ρ2 R2 => forD t ok db xs ρ2 R2
            | .bk ρ2 R2 => .nx ρ2 R2
            | r => r) E := p2
          cases ed : db ρ3 R2 with
          | nx ρ4 R4 => rw [ed] at p2; exact fun σ4 w4 H4 l4 A4 => ⟨w4, ρ4, R4, l2.trans (l3.trans l4).le, A4, p2.mono (l3.trans l4)⟩
          | ct ρ4 R4 => rw [ed] at p2; exact fun σ4 w4 H4 l4 A4 => ⟨w4, ρ4, R4, l2.trans (l3.trans l4).le, A4, p2.mono (l3.trans l4)⟩
          | bk ρ4 R4 => rw [ed] at p2; exact fun σ4 w4 H4 l4 A4 => p2 σ4 w4 H4 (l3.trans l4) A4
          | rt d R4 => rw [ed] at p2; exact Ret.mono l3 p2
          | exc x ρ4 R4 => rw [ed] at p2; exact fun σ4 w4 H4 l4 A4 => p2 σ4 w4 H4 (l3.trans l4) A4
          | stuck => rw [ed] at p2; exact p2
    · rw [if_neg c] at p2; exact p2.elim
end

/-! ### comprehensions -/
def W0 : WX := fun _ _ _ _ => False
def dYes : DT := fun _ R => .ok true R
abbrev PTsD (X : Cx) (W : WX) (es : List Expr) (t : DT) : Prop := PTs X es (rdT X.K W t)
theorem ptd_nil {X : Cx} {W : WX} : PTsD X W [] dYes := ⟨fun pins s σ H Q I h => by
  obtain ⟨w, ρ, R, A, p⟩ := h
  exact pts_nil.run pins s σ H Q I (p w H .refl A.W)⟩
theorem ptd_one {X : Cx} {W : WX} {c : Expr} {t : DT} (h : TD X W c t) : PTsD X W [c] t := pts_one h
noncomputable def lcD (t : Tg) (ok : Wd → Prop) (tt : DT) (e : DE) : List D → Rho → Wd → Option (List D × Wd)
  | [], _, R => if ok R then some ([], R) else none
  | x :: xs, ρ, R => if ok R then match t.bind x ρ with
      | none => none
      | some ρ1 => match tt ρ1 R with
        | .ok k R2 => if k = true then
            match e ρ1 R2 with
            | .ok y R3 => (lcD t ok tt e xs ρ R3).map fun p => (y :: p.1, p.2)
            | _ => none
          else lcD t ok tt e xs ρ R2
        | _ => none
    else none
def ofO {α : Type} (o : Option (α × Wd)) : Rs α := match o with
  | some (a, R) => .ok a R
  | none => .stuck
noncomputable def dLc (t : Tg) (d : DI) (tt : DT) (e : DE) : DA := fun ρ R => (d ρ R).bind fun p R1 => ofO (lcD t p.2 tt e p.1 (wipeR ρ t.vs) R1)
theorem ofO_post {α : Type} {K : PySem.W.Frag} {W : WX} {w : Wt} {H : Hp} {σ : L2.St} {o : Option (α × Wd)} {P : α → Wd → Prop} (h : Post K W w H σ (ofO o) P) : ∃ a R, o = some (a, R) ∧ P a R := by
  cases o with
  | some p => exact ⟨_, _, rfl, h⟩
  | none => exact h.elim
theorem Stp.poke {w w' : Wt} {H H' : Hp} {p : Addr} {o : HO} (h : Stp w H w' H') (hp : H p = none) : Stp w H w' (upd H' p o) :=
  ⟨h.le, fun a u h1 h2 => ⟨(upd_ne (ne_of_none h1 hp)).trans (h.fr a u h1 h2).1, (h.fr a u h1 h2).2⟩⟩
theorem WR.poke {K : PySem.W.Frag} {w : Wt} {H : Hp} {R : Wd} {p : Addr} {o : HO} (h : WR K w H R) (hp : w.out p) : WR K w (upd H p o) R := h.other fun a u e c => by
  refine (upd_ne ?_).trans e
  rintro rfl
  rcases c with c | ⟨i, c | ⟨k, c⟩⟩
  · exact c hp.1
  · exact hp.2.1 i c
  · exact hp.2.2 i k c
theorem drop_cons {α : Type} {l : List α} {i : Nat} {x : α} {xs : List α} (e : l.drop i = x :: xs) : l[i]? = some x ∧ l.drop (i + 1) = xs ∧ i < l.length := by
  refine ⟨?_, ?_, ?_⟩
  · have := congrArg (fun l => l[0]?) e
    simpa [List.getElem?_drop] using this
  · have := congrArg List.tail e
    simpa [List.tail_drop] using this
  · have := congrArg List.length e
    simp at this; omega
theorem drop_nil {α : Type} {l : List α} {i : Nat} (e : l.drop i = []) : l.length ≤ i := by
  have := congrArg List.length e
  simp at this; omega
section
variable {X : Cx} {W : WX} {tg iter elt kx : Expr} {ifs : List Expr} {scope : Scope} {own : List (Str × Nat)} {di : DI} {tt : DT} {de dk : DE} {pos : Pos} {t : Tg}
theorem rd_lc {σ : L2.St} {H : Hp} {Q : VK} (h : rdF X.K W (dLc t di tt de) σ H Q) : tLc (rdI X.K W di) (t.g X.K) (rdT X.K W0 tt) (rdE X.K W0 de) t.vs σ H Q := by
  obtain ⟨w, ρ, R, A, p⟩ := h
  refine ⟨w, ρ, R, A, p.bind.imp fun q R1 p1 J w1 H1 l1 W1 hI hz D hD => ?_⟩
  obtain ⟨ds, ok⟩ := q
  have hI : ItsR X.K J w1 ds ok := hI
  have hz : ds.length ≤ sizeLine := hz
  obtain ⟨ys, R', e, p1⟩ := ofO_post p1
  have e : lcD t ok tt de ds (wipeR ρ t.vs) R1 = some (ys, R') := e
  have hD0 : H D = none := l1.back W1 hD
  refine ⟨fun i m H2 => m + i = ds.length ∧ ∃ w2 R2 acc vs zs, Stp w H w2 H2 ∧ w1.le w2 ∧ WR X.K w2 H2 R2 ∧ w2.out D ∧ H2 D = some (.lst vs) ∧ RelDs X.K w2 vs acc ∧ acc.length ≤ i ∧ lcD t ok tt de (ds.drop i) (wipeR ρ t.vs) R2 = some (zs, R') ∧ ys = acc ++ zs,
    ⟨ds.length, by omega, w1, R1, [], [], ys, l1.poke hD0, .refl _, W1.poke (out_new W1 hD), out_new W1 hD, upd_same, .nil, Nat.le_refl _, by rw [List.drop_zero]; exact e, rfl⟩, ?_⟩
  rintro i m H2 ⟨hm, w2, R2, acc, vs, zs, l2, le2, W2, o2, h2, r2, ha, e2, ey⟩
  cases ed : ds.drop i with
  | nil =>
    rw [ed, lcD] at e2
    by_cases c : ok R2
    · rw [if_pos c] at e2
      cases e2
      rw [List.append_nil] at ey
      subst ey
      exact .inl ⟨(hI w2 H2 _ le2 W2 c).2 i (drop_nil ed), p1 D vs w2 H2 l2 W2 hD0 o2 h2 r2⟩
    · rw [if_neg c] at e2; cases e2
  | cons x xs =>
    obtain ⟨hx, hxs, hlt⟩ := drop_cons ed
    rw [ed, lcD] at e2
    by_cases c : ok R2
    · rw [if_pos c] at e2
      obtain ⟨hgo, hy⟩ := (hI w2 H2 R2 le2 W2 c).1 i x hx
      refine .inr ⟨hgo, fun H3 => ∃ w3 R3 acc vs zs, Stp w H w3 H3 ∧ w1.le w3 ∧ WR X.K w3 H3 R3 ∧ w3.out D ∧ H3 D = some (.lst vs) ∧ RelDs X.K w3 vs acc ∧ acc.length ≤ i + 1 ∧ lcD t ok tt de xs (wipeR ρ t.vs) R3 = some (zs, R') ∧ ys = acc ++ zs, ?_, ?_⟩
      · rintro H3 ⟨w3, R3, acc3, vs3, zs3, q1, q2, q3, q4, q5, q6, q7, q8, q9⟩
        exact ⟨m - 1, by omega, by omega, w3, R3, acc3, vs3, zs3, q1, q2, q3, q4, q5, q6, q7, by rw [hxs]; exact q8, q9⟩
      · intro v H3 y3
        obtain ⟨w3, l3, W3, r3⟩ := hy v H3 y3
        cases eb : t.bind x (wipeR ρ t.vs) with
        | none => rw [eb] at e2; cases e2
        | some ρ3 =>
          rw [eb] at e2
          have e2 : (match tt ρ3 R2 with
        | .ok k R2 => if k = true then
            match de ρ3 R2 with
            | .ok y R3 => (lcD t ok tt de xs (wipeR ρ t.vs) R3).map fun p => (y :: p.1, p.2)
            | _ => none
          else lcD t ok tt de xs (wipeR ρ t.vs) R2
        | _ => none) = some (zs, R') := e2
          refine Tg.run W3 t (((A.S.mono l2.le).mono l3.le).wipe t.vs) r3 eb (us := t.vs) (fun _ h => h) fun σ3 s3 wp => ⟨wp.trans (wipe_idem fun _ h => h), ?_⟩
          obtain ⟨h3, o3⟩ := l3.fr D _ h2 o2
          refine ⟨w3, ρ3, R2, ⟨W3, s3⟩, ?_⟩
          cases et : tt ρ3 R2 with
          | ok k R4 =>
            rw [et] at e2
            have e2 : (if k = true then
            match de ρ3 R4 with
            | .ok y R3 => (lcD t ok tt de xs (wipeR ρ t.vs) R3).map fun p => (y :: p.1, p.2)
            | _ => none
          else lcD t ok tt de xs (wipeR ρ t.vs) R4) = some (zs, R') := e2
            intro w4 H4 l4 W4
            obtain ⟨h4, o4⟩ := l4.fr D _ h3 o3
            by_cases hk : k = true
            · rw [if_pos hk] at e2 ⊢
              refine ⟨w4, ρ3, R4, ⟨W4, s3.mono l4.le⟩, ?_⟩
              cases ee : de ρ3 R4 with
              | ok y R5 =>
                rw [ee] at e2
                obtain ⟨⟨zs5, R5'⟩, e5, e6⟩ := Option.map_eq_some_iff.mp e2
                cases e6
                intro u w5 H5 l5 W5 r5
                obtain ⟨h5, o5⟩ := l5.fr D _ h4 o4
                have lall : Stp w H w5 H5 := ((l2.trans l3).trans l4).trans l5
                have ra : RelDs X.K w5 vs acc := r2.mono ((l3.trans l4).trans l5).le
                refine ⟨vs, h5, ?_, ⟨w5, R5, acc ++ [y], vs ++ [u], zs5, lall.poke hD0, le2.trans ((l3.trans l4).trans l5).le, W5.poke o5, o5, upd_same, ra.snoc r5, by simp; omega, e5, by rw [ey]; simp⟩⟩
                rw [ra.length]; omega
              | exc _ _ => rw [ee] at e2; cases e2
              | stuck => rw [ee] at e2; cases e2
            · rw [if_neg hk] at e2 ⊢
              exact ⟨w4, R4, acc, vs, zs, (l2.trans l3).trans l4, le2.trans (l3.trans l4).le, W4, o4, h4, r2.mono (l3.trans l4).le, by omega, e2, ey⟩
          | exc _ _ => rw [et] at e2; cases e2
          | stuck => rw [et] at e2; cases e2
    · rw [if_neg c] at e2; cases e2
theorem fl_lc (hc : X.calm = true) (hN : X.N.Nodup) (hi : ID X W tg iter di) (ok : BlkOk X.N X.env.scope scope own) (ho : own.map (·.2) = t.vs)
    (hg : ∀ (s : Shared) (H : Hp) (C : Addr) (cl : List (Str × Addr)) (fp : List Addr), PG (X.blk s H scope (compEnvC scope cl C X.env) fp) tg (t.g X.K))
    (ht : ∀ (s : Shared) (H : Hp) (C : Addr) (cl : List (Str × Addr)) (fp : List Addr), PTsD (X.blk s H scope (compEnvC scope cl C X.env) fp) W0 ifs tt)
    (he : ∀ (s : Shared) (H : Hp) (C : Addr) (cl : List (Str × Addr)) (fp : List Addr), ED (X.blk s H scope (compEnvC scope cl C X.env) fp) W0 elt de) (hs : ∀ x, foldedSetIterable iter X.env x = pure x := by intro _; rfl) :
    FL X W (.ListComp elt [⟨tg, iter, ifs, 0⟩] scope pos) (dLc t di tt de) :=
  PEimp (pe_lc hc hN hi ok hg ht he hs) fun σ H Q h => by rw [ho]; exact rd_lc h
/-- y = [..] on one line: the fresh list is shared, or a cell -/
theorem sd_setLc {i : Nat} {y : Str} {py spos : Pos} (hc : X.calm = true) (hN : X.N.Nodup) (hy : X.N[i]? = some y) (hyl : X.env.scope.names.lookup y = some .local)
    (hsw : swapsWith (.ListComp elt [⟨tg, iter, ifs, 0⟩] scope pos) (some (.Name y py)) spos.line X.env = pure true) (hi : ID X W tg iter di) (ok : BlkOk X.N X.env.scope scope own) (ho : own.map (·.2) = t.vs)
    (hg : ∀ (s : Shared) (H : Hp) (C : Addr) (cl : List (Str × Addr)) (fp : List Addr), PG (X.blk s H scope (compEnvC scope cl C X.env) fp) tg (t.g X.K))
    (ht : ∀ (s : Shared) (H : Hp) (C : Addr) (cl : List (Str × Addr)) (fp : List Addr), PTsD (X.blk s H scope (compEnvC scope cl C X.env) fp) W0 ifs tt)
    (he : ∀ (s : Shared) (H : Hp) (C : Addr) (cl : List (Str × Addr)) (fp : List Addr), ED (X.blk s H scope (compEnvC scope cl C X.env) fp) W0 elt de) (hs : ∀ x, foldedSetIterable iter X.env x = pure x := by intro _; rfl) :
    SD X W (.Assign [.Name y py] (.ListComp elt [⟨tg, iter, ifs, 0⟩] scope pos) spos) (dSet i (dFz (dLc t di tt de))) := PSimp (ps_setLc hc hN hy hyl hsw hi ok hg ht he hs) fun E σ H h => by
  obtain ⟨w, ρ, R, A, p⟩ := h
  rw [ho]
  refine rd_lc (W := W) (tt := tt) (de := de) ⟨w, ρ, R, A, ?_⟩
  have p' := (Rs.post A p).bind
  refine p'.imp fun xs R1 p1 a vs w1 H1 l1 W1 ha o e r => ?_
  have l2 := Wt.share_le (o := HO.lst vs) o.1
  refine p1 _ (w1.share a (.lst vs)) H1 ⟨l1.le.trans l2, fun b u h1 h2 => ?_⟩ ⟨W1.share o e, ((A.S.mono l1.le).mono l2).set i (.lst upd_same (r.mono l2))⟩
  obtain ⟨h3, h4⟩ := l1.fr b u h1 h2
  exact ⟨h3, Wt.out_share h4 (ne_of_none h1 ha)⟩
theorem sd_setLcC {i : Nat} {y : Str} {py spos : Pos} (hc : X.calm = true) (hN : X.N.Nodup) (hy : X.N[i]? = some y) (hyl : X.env.scope.names.lookup y = some .local)
    (hsw : swapsWith (.ListComp elt [⟨tg, iter, ifs, 0⟩] scope pos) (some (.Name y py)) spos.line X.env = pure true) (hi : ID X W tg iter di) (ok : BlkOk X.N X.env.scope scope own) (ho : own.map (·.2) = t.vs)
    (hg : ∀ (s : Shared) (H : Hp) (C : Addr) (cl : List (Str × Addr)) (fp : List Addr), PG (X.blk s H scope (compEnvC scope cl C X.env) fp) tg (t.g X.K))
    (ht : ∀ (s : Shared) (H : Hp) (C : Addr) (cl : List (Str × Addr)) (fp : List Addr), PTsD (X.blk s H scope (compEnvC scope cl C X.env) fp) W0 ifs tt)
    (he : ∀ (s : Shared) (H : Hp) (C : Addr) (cl : List (Str × Addr)) (fp : List Addr), ED (X.blk s H scope (compEnvC scope cl C X.env) fp) W0 elt de) (hs : ∀ x, foldedSetIterable iter X.env x = pure x := by intro _; rfl) :
    SD X W (.Assign [.Name y py] (.ListComp elt [⟨tg, iter, ifs, 0⟩] scope pos) spos) (dSet i (dNewL (dLc t di tt de))) := PSimp (ps_setLc hc hN hy hyl hsw hi ok hg ht he hs) fun E σ H h => by
  obtain ⟨w, ρ, R, A, p⟩ := h
  rw [ho]
  refine rd_lc (W := W) (tt := tt) (de := de) ⟨w, ρ, R, A, ?_⟩
  have p' := (Rs.post A p).bind
  refine p'.imp fun xs R1 p1 a vs w1 H1 l1 W1 ha o e r => ?_
  obtain ⟨n1, n2, n3⟩ := new_lst W1 o e r
  exact p1 _ _ _ (l1.cell ha n2) ⟨n1, ((A.S.mono l1.le).mono n2).set i n3⟩

/-! dict comprehensions -/
def kD : D → Option Key
  | .int i => some (.inl i)
  | .str x => some (.inr x)
  | _ => none
theorem kD_rel {K : PySem.W.Frag} {w : Wt} {v : V} {d : D} {k : Key} (r : RelD K w v d) (e : kD d = some k) : v = kV k := by
  cases r with
  | int i => simp [kD] at e; subst e; rfl
  | str i => simp [kD] at e; subst e; rfl
  | _ => simp [kD] at e
noncomputable def dcD (t : Tg) (ok : Wd → Prop) (tt : DT) (dk de : DE) : List D → List (Key × D) → Rho → Wd → Option (List (Key × D) × Wd)
  | [], acc, _, R => if ok R then some (acc, R) else none
  | x :: xs, acc, ρ, R => if ok R then match t.bind x ρ with
      | none => none
      | some ρ1 => match tt ρ1 R with
        | .ok c R2 => if c = true then
            match dk ρ1 R2 with
            | .ok k R3 => match de ρ1 R3, kD k with
              | .ok y R4, some k => dcD t ok tt dk de xs (pA k y acc) ρ R4
              | _, _ => none
            | _ => none
          else dcD t ok tt dk de xs acc ρ R2
        | _ => none
    else none
noncomputable def dDc (t : Tg) (d : DI) (tt : DT) (dk de : DE) : Rho → Wd → Rs (List (Key × D)) := fun ρ R => (d ρ R).bind fun p R1 => ofO (dcD t p.2 tt dk de p.1 [] (wipeR ρ t.vs) R1)
theorem pA_len {κ α : Type} [DecidableEq κ] (k : κ) (v : α) : ∀ l : List (κ × α), (pA k v l).length ≤ l.length + 1
  | [] => Nat.le_refl _
  | p :: r => by
    unfold pA
    split
    · simp
    · simp; exact pA_len k v r
theorem pA_keys {κ α : Type} [DecidableEq κ] (k : κ) (v : α) : ∀ l : List (κ × α), (pA k v l).map (·.1) = if k ∈ l.map (·.1) then l.map (·.1) else l.map (·.1) ++ [k]
  | [] => rfl
  | p :: r => by
    unfold pA
    by_cases c : p.1 = k
    · simp [c]
    · have c' : ¬ k = p.1 := fun z => c z.symm
      rw [if_neg c, List.map_cons, pA_keys k v r, List.map_cons]
      by_cases m : k ∈ r.map (·.1)
      · rw [if_pos m, if_pos (List.mem_cons_of_mem _ m)]
      · rw [if_neg m, if_neg (by simp only [List.mem_cons, not_or]; exact ⟨c', m⟩)]; rfl
theorem pA_nodup {κ α : Type} [DecidableEq κ] (k : κ) (v : α) {l : List (κ × α)} (h : (l.map (·.1)).Nodup) : ((pA k v l).map (·.1)).Nodup := by
  rw [pA_keys]
  split
  · exact h
  · rename_i n
    exact List.nodup_append.mpr ⟨h, by simp, fun a ha b hb => by rintro rfl; simp at hb; subst hb; exact n ha⟩
theorem rd_dc {σ : L2.St} {H : Hp} {Q : VK} (h : rdFK X.K W (dDc t di tt dk de) σ H Q) : tDc (rdI X.K W di) (t.g X.K) (rdT X.K W0 tt) (rdE X.K W0 dk) (rdE X.K W0 de) t.vs σ H Q := by
  obtain ⟨w, ρ, R, A, p⟩ := h
  refine ⟨w, ρ, R, A, p.bind.imp fun q R1 p1 J w1 H1 l1 W1 hI hz D hD => ?_⟩
  obtain ⟨ds, ok⟩ := q
  have hI : ItsR X.K J w1 ds ok := hI
  have hz : ds.length ≤ sizeLine := hz
  obtain ⟨ys, R', e, p1⟩ := ofO_post p1
  have e : dcD t ok tt dk de ds [] (wipeR ρ t.vs) R1 = some (ys, R') := e
  have hD0 : H D = none := l1.back W1 hD
  refine ⟨fun i m H2 => m + i = ds.length ∧ ∃ w2 R2 acc vs, Stp w H w2 H2 ∧ w1.le w2 ∧ WR X.K w2 H2 R2 ∧ w2.out D ∧ H2 D = some (.dK vs) ∧ RelK X.K w2 vs acc ∧ (acc.map (·.1)).Nodup ∧ acc.length ≤ i ∧ dcD t ok tt dk de (ds.drop i) acc (wipeR ρ t.vs) R2 = some (ys, R'),
    ⟨ds.length, by omega, w1, R1, [], [], l1.poke hD0, .refl _, W1.poke (out_new W1 hD), out_new W1 hD, upd_same, .nil, List.nodup_nil, Nat.le_refl _, by rw [List.drop_zero]; exact e⟩, ?_⟩
  rintro i m H2 ⟨hm, w2, R2, acc, vs, l2, le2, W2, o2, h2, r2, nd, ha, e2⟩
  cases ed : ds.drop i with
  | nil =>
    rw [ed, dcD] at e2
    by_cases c : ok R2
    · rw [if_pos c] at e2
      cases e2
      exact .inl ⟨(hI w2 H2 _ le2 W2 c).2 i (drop_nil ed), p1 D vs w2 H2 l2 W2 hD0 o2 h2 r2⟩
    · rw [if_neg c] at e2; cases e2
  | cons x xs =>
    obtain ⟨hx, hxs, hlt⟩ := drop_cons ed
    rw [ed, dcD] at e2
    by_cases c : ok R2
    · rw [if_pos c] at e2
      obtain ⟨hgo, hy⟩ := (hI w2 H2 R2 le2 W2 c).1 i x hx
      refine .inr ⟨hgo, fun H3 => ∃ w3 R3 acc vs, Stp w H w3 H3 ∧ w1.le w3 ∧ WR X.K w3 H3 R3 ∧ w3.out D ∧ H3 D = some (.dK vs) ∧ RelK X.K w3 vs acc ∧ (acc.map (·.1)).Nodup ∧ acc.length ≤ i + 1 ∧ dcD t ok tt dk de xs acc (wipeR ρ t.vs) R3 = some (ys, R'), ?_, ?_⟩
      · rintro H3 ⟨w3, R3, acc3, vs3, q1, q2, q3, q4, q5, q6, q7, q8, q9⟩
        exact ⟨m - 1, by omega, by omega, w3, R3, acc3, vs3, q1, q2, q3, q4, q5, q6, q7, q8, by rw [hxs]; exact q9⟩
      · intro v H3 y3
        obtain ⟨w3, l3, W3, r3⟩ := hy v H3 y3
        cases eb : t.bind x (wipeR ρ t.vs) with
        | none => rw [eb] at e2; cases e2
        | some ρ3 =>
          rw [eb] at e2
          have e2 : (match tt ρ3 R2 with
        | .ok c R2 => if c = true then
            match dk ρ3 R2 with
            | .ok k R3 => match de ρ3 R3, kD k with
              | .ok y R4, some k => dcD t ok tt dk de xs (pA k y acc) (wipeR ρ t.vs) R4
              | _, _ => none
            | _ => none
          else dcD t ok tt dk de xs acc (wipeR ρ t.vs) R2
        | _ => none) = some (ys, R') := e2
          refine Tg.run W3 t (((A.S.mono l2.le).mono l3.le).wipe t.vs) r3 eb (us := t.vs) (fun _ h => h) fun σ3 s3 wp => ⟨wp.trans (wipe_idem fun _ h => h), ?_⟩
          obtain ⟨h3, o3⟩ := l3.fr D _ h2 o2
          refine ⟨w3, ρ3, R2, ⟨W3, s3⟩, ?_⟩
          cases et : tt ρ3 R2 with
          | ok k R4 =>
            simp only [et] at e2
            intro w4 H4 l4 W4
            obtain ⟨h4, o4⟩ := l4.fr D _ h3 o3
            by_cases hk : k = true
            · rw [if_pos hk] at e2 ⊢
              refine ⟨w4, ρ3, R4, ⟨W4, s3.mono l4.le⟩, ?_⟩
              cases ek : dk ρ3 R4 with
              | ok kd R5 =>
                simp only [ek] at e2
                intro u w5 H5 l5 W5 r5
                obtain ⟨h5, o5⟩ := l5.fr D _ h4 o4
                refine ⟨w5, ρ3, R5, ⟨W5, (s3.mono l4.le).mono l5.le⟩, ?_⟩
                cases ee : de ρ3 R5 with
                | ok y R6 =>
                  cases ekd : kD kd with
                  | none => simp [ee, ekd] at e2
                  | some k =>
                    simp only [ee, ekd] at e2
                    intro z w6 H6 l6 W6 r6
                    obtain ⟨h6, o6⟩ := l6.fr D _ h5 o5
                    have lall : Stp w H w6 H6 := (((l2.trans l3).trans l4).trans l5).trans l6
                    have l36 := ((l3.trans l4).trans l5).trans l6
                    have ra : RelK X.K w6 vs acc := r2.mono l36.le
                    refine ⟨vs, k, kD_rel r5 ekd, h6, by rw [ra.length]; omega, ⟨w6, R6, pA k y acc, putK vs k z, lall.poke hD0, le2.trans l36.le, W6.poke o6, o6, upd_same, ra.put k r6 nd, pA_nodup k y nd, ?_, e2⟩⟩
                    have := pA_len k y acc
                    omega
                | exc _ _ => simp [ee] at e2
                | stuck => simp [ee] at e2
              | exc _ _ => simp [ek] at e2
              | stuck => simp [ek] at e2
            · rw [if_neg hk] at e2 ⊢
              exact ⟨w4, R4, acc, vs, (l2.trans l3).trans l4, le2.trans (l3.trans l4).le, W4, o4, h4, r2.mono (l3.trans l4).le, nd, by omega, e2⟩
          | exc _ _ => simp [et] at e2
          | stuck => simp [et] at e2
    · rw [if_neg c] at e2; cases e2
theorem fk_dc (hc : X.calm = true) (hN : X.N.Nodup) (hi : ID X W tg iter di) (ok : BlkOk X.N X.env.scope scope own) (ho : own.map (·.2) = t.vs)
    (hg : ∀ (s : Shared) (H : Hp) (C : Addr) (cl : List (Str × Addr)) (fp : List Addr), PG (X.blk s H scope (compEnvC scope cl C X.env) fp) tg (t.g X.K))
    (ht : ∀ (s : Shared) (H : Hp) (C : Addr) (cl : List (Str × Addr)) (fp : List Addr), PTsD (X.blk s H scope (compEnvC scope cl C X.env) fp) W0 ifs tt)
    (hk : ∀ (s : Shared) (H : Hp) (C : Addr) (cl : List (Str × Addr)) (fp : List Addr), ED (X.blk s H scope (compEnvC scope cl C X.env) fp) W0 kx dk)
    (he : ∀ (s : Shared) (H : Hp) (C : Addr) (cl : List (Str × Addr)) (fp : List Addr), ED (X.blk s H scope (compEnvC scope cl C X.env) fp) W0 elt de) (hs : ∀ x, foldedSetIterable iter X.env x = pure x := by intro _; rfl) :
    FK X W (.DictComp kx elt [⟨tg, iter, ifs, 0⟩] scope pos) (dDc t di tt dk de) :=
  PEimp (pe_dc hc hN hi ok hg ht hk he hs) fun σ H Q h => by rw [ho]; exact rd_dc h
end
end Y
end
section
set_option Elab.async false
set_option linter.all false
set_option maxRecDepth 100000
set_option maxHeartbeats 4000000
namespace Y
open PySem PySem.Spec PyProof.Rows L2
open Classical

/-! ### handles below n -/
mutual
inductive Bl (n : Nat) : D → Prop
  | non : Bl n .non
  | bl (b : Bool) : Bl n (.bl b)
  | int (i : Int) : Bl n (.int i)
  | str (x : Str) : Bl n (.str x)
  | obj (a : Addr) : Bl n (.obj a)
  | lst {xs : List D} : Bls n xs → Bl n (.lst xs)
  | tup {xs : List D} : Bls n xs → Bl n (.tup xs)
  | dic {kvs : List (Key × D)} : Bls n (kvs.map (·.2)) → Bl n (.dic kvs)
  | dct {kvs : List (List Key × D)} : Bls n (kvs.map (·.2)) → Bl n (.dct kvs)
  | ref {i : Nat} : i < n → Bl n (.ref i)
  | sub {i : Nat} {k : Key} : i < n → Bl n (.sub i k)
  | sl {xs : List D} : Bls n xs → Bl n (.sl xs)
inductive Bls (n : Nat) : List D → Prop
  | nil : Bls n []
  | cons {d : D} {ds : List D} : Bl n d → Bls n ds → Bls n (d :: ds)
end
def OBl (n : Nat) : O → Prop
  | .lst xs => Bls n xs
  | .dK kvs => Bls n (kvs.map (·.2))
  | .dT kvs => Bls n (kvs.map (·.2))
  | .dL kvs => ∀ p ∈ kvs, Bls n p.2
  | .ins _ fs => Bls n (fs.map (·.2))
  | .lkK kvs => Bls n (kvs.map (·.2))
  | .lkT kvs => Bls n (kvs.map (·.2))
  | .fz d => Bl n d
  | .dead => True
def Clean (R R' : Wd) : Prop := R.length ≤ R'.length ∧ ∀ i, i < R.length → R'[i]? = R[i]? ∨ ∀ o, R'[i]? = some o → OBl R.length o
theorem bls_iff {n : Nat} {xs : List D} : Bls n xs ↔ ∀ x ∈ xs, Bl n x := by
  induction xs with
  | nil => exact ⟨fun _ x h => absurd h (by simp), fun _ => .nil⟩
  | cons d ds ih =>
    constructor
    · intro h x hx
      cases h with
      | cons a b => rcases List.mem_cons.mp hx with rfl | hx
                    · exact a
                    · exact ih.mp b x hx
    · intro h
      exact .cons (h d List.mem_cons_self) (ih.mpr fun x hx => h x (List.mem_cons_of_mem _ hx))
@[simp] theorem Bl_non {n : Nat} : Bl n .non := .non
@[simp] theorem Bl_bl {n : Nat} {b : Bool} : Bl n (.bl b) := .bl b
@[simp] theorem Bl_int {n : Nat} {b : Int} : Bl n (.int b) := .int b
@[simp] theorem Bl_str {n : Nat} {b : Str} : Bl n (.str b) := .str b
@[simp] theorem Bl_obj {n : Nat} {b : Addr} : Bl n (.obj b) := .obj b
@[simp] theorem Bl_lst {n : Nat} {xs : List D} : Bl n (.lst xs) ↔ ∀ x ∈ xs, Bl n x := ⟨fun h => by cases h with | lst h => exact bls_iff.mp h, fun h => .lst (bls_iff.mpr h)⟩
@[simp] theorem Bl_sl {n : Nat} {xs : List D} : Bl n (.sl xs) ↔ ∀ x ∈ xs, Bl n x := ⟨fun h => by cases h with | sl h => exact bls_iff.mp h, fun h => .sl (bls_iff.mpr h)⟩
@[simp] theorem Bl_tup {n : Nat} {xs : List D} : Bl n (.tup xs) ↔ ∀ x ∈ xs, Bl n x := ⟨fun h => by cases h with | tup h => exact bls_iff.mp h, fun h => .tup (bls_iff.mpr h)⟩
@[simp] theorem Bl_dic {n : Nat} {xs : List (Key × D)} : Bl n (.dic xs) ↔ ∀ x ∈ xs, Bl n x.2 := ⟨fun h => by cases h with | dic h => exact fun x hx => bls_iff.mp h _ (List.mem_map.mpr ⟨x, hx, rfl⟩), fun h => .dic (bls_iff.mpr fun x hx => by obtain ⟨p, hp, rfl⟩ := List.mem_map.mp hx; exact h p hp)⟩
@[simp] theorem Bl_dct {n : Nat} {xs : List (List Key × D)} : Bl n (.dct xs) ↔ ∀ x ∈ xs, Bl n x.2 := ⟨fun h => by cases h with | dct h => exact fun x hx => bls_iff.mp h _ (List.mem_map.mpr ⟨x, hx, rfl⟩), fun h => .dct (bls_iff.mpr fun x hx => by obtain ⟨p, hp, rfl⟩ := List.mem_map.mp hx; exact h p hp)⟩
@[simp] theorem Bl_ref {n i : Nat} : Bl n (.ref i) ↔ i < n := ⟨fun h => by cases h with | ref h => exact h, .ref⟩
@[simp] theorem Bl_sub {n i : Nat} {k : Key} : Bl n (.sub i k) ↔ i < n := ⟨fun h => by cases h with | sub h => exact h, .sub⟩
section
variable {K : PySem.W.Frag} {w w' : Wt} {H : Hp} {R R' : Wd}
theorem WR.m_lt (W : WR K w H R) {i : Nat} {a : Addr} (e : w.m i = some a) : i < R.length := by
  rcases Nat.lt_or_ge i R.length with h | h
  · exact h
  · rw [(W.hi i h).1] at e; cases e
theorem WR.i_lt (W : WR K w H R) {i : Nat} {k : Key} {a : Addr} (e : w.inn i k = some a) : i < R.length := by
  rcases Nat.lt_or_ge i R.length with h | h
  · exact h
  · rw [(W.hi i h).2.1 k] at e; cases e
theorem RelD.toBl (W : WR K w H R) {v : V} {d : D} (h : RelD K w v d) : Bl R.length d :=
  RelD.rec (motive_1 := fun v d _ => Bl R.length d) (motive_2 := fun vs ds _ => Bls R.length ds) .non .bl .int .str (fun _ _ h => .lst h) (fun _ _ h => .tup h) (fun _ _ _ h => .dic h) (fun _ _ _ h => .dct h)
    (fun h => .ref (W.m_lt h)) (fun h => .sub (W.i_lt h)) .obj (fun _ _ h => .sl h) .nil (fun _ _ a b => .cons a b) h
theorem RelDs.bl (W : WR K w H R) {vs : List V} {ds : List D} (h : RelDs K w vs ds) : Bls R.length ds := by
  induction ds generalizing vs with
  | nil => exact .nil
  | cons d ds ih => cases h with | cons a b => exact .cons (a.toBl W) (ih b)
theorem InnR.bl (W : WR K w H R) {i : Nat} : ∀ {kv : List (Key × V)} {kvs : List (Key × List D)}, InnR K w H i kv kvs → ∀ p ∈ kvs, Bls R.length p.2
  | [], [], _, p, hp => nomatch hp
  | a :: r, b :: r', ⟨_, ⟨_, _, _, _, _, _, e6⟩, t⟩, p, hp => by
    rcases List.mem_cons.mp hp with rfl | hp
    · exact e6.bl W
    · exact InnR.bl W t p hp
  | [], _ :: _, h, _, _ => h.elim
  | _ :: _, [], h, _, _ => h.elim
theorem CellR.bl (W : WR K w H R) {i : Nat} {o : O} (h : CellR K w H i o) : OBl R.length o := by
  cases o with
  | lst xs => obtain ⟨_, _, _, _, _, r⟩ := h; exact r.bl W
  | dK xs => obtain ⟨_, _, _, _, _, _, r⟩ := h; exact r.2.bl W
  | dT xs => obtain ⟨_, _, _, _, _, _, r⟩ := h; exact r.2.bl W
  | dL xs => obtain ⟨_, _, _, _, _, r⟩ := h; exact r.bl W
  | ins C xs => obtain ⟨_, _, _, _, _, _, r⟩ := h; exact r.2.bl W
  | lkK xs => obtain ⟨_, _, _, _, _, _, _, r⟩ := h; exact r.2.bl W
  | lkT xs => obtain ⟨_, _, _, _, _, _, _, r⟩ := h; exact r.2.bl W
  | fz d => obtain ⟨_, _, r⟩ := h; exact r.toBl W
  | dead => trivial
/-- the cells from n on are no more spoken of -/
def Wt.cut (w : Wt) (n : Nat) : Wt := ⟨w.hs, fun i => if i < n then w.m i else none, fun i k => if i < n then w.inn i k else none, fun i => if i < n then w.lk i else none⟩
theorem cut_m {n i : Nat} (h : i < n) : (w.cut n).m i = w.m i := if_pos h
theorem cut_i {n i : Nat} (h : i < n) (k : Key) : (w.cut n).inn i k = w.inn i k := if_pos h
theorem cut_l {n i : Nat} (h : i < n) : (w.cut n).lk i = w.lk i := if_pos h
mutual
theorem RelD.cut {n : Nat} {v : V} : ∀ {d : D}, Bl n d → RelD K w v d → RelD K (w.cut n) v d
  | .non, _, h => by cases h; exact .non
  | .bl _, _, h => by cases h; exact .bl _
  | .int _, _, h => by cases h; exact .int _
  | .str _, _, h => by cases h; exact .str _
  | .obj _, _, h => by cases h; exact .obj _
  | .lst xs, b, h => by cases h with | lst h1 h2 => exact .lst h1 (RelDs.cut (by cases b; assumption) h2)
  | .sl xs, b, h => by cases h with | sl h1 h2 => exact .sl h1 (RelDs.cut (by cases b; assumption) h2)
  | .tup xs, b, h => by cases h with | tup h1 h2 => exact .tup h1 (RelDs.cut (by cases b; assumption) h2)
  | .dic kvs, b, h => by cases h with | dic h1 h2 h3 => exact .dic h1 h2 (RelKs.cut kvs (by cases b; assumption) h3)
  | .dct kvs, b, h => by cases h with | dct h1 h2 h3 => exact .dct h1 h2 (RelTs.cut kvs (by cases b; assumption) h3)
  | .ref i, b, h => by cases h with | ref h1 => exact .ref ((cut_m (by cases b; assumption)).trans h1)
  | .sub i k, b, h => by cases h with | sub h1 => exact .sub ((cut_i (by cases b; assumption) k).trans h1)
theorem RelDs.cut {n : Nat} {vs : List V} : ∀ {ds : List D}, Bls n ds → RelDs K w vs ds → RelDs K (w.cut n) vs ds
  | [], _, h => by cases h; exact .nil
  | d :: ds, b, h => by cases h with | cons h1 h2 => exact .cons (RelD.cut (by cases b; assumption) h1) (RelDs.cut (by cases b; assumption) h2)
theorem RelKs.cut {n : Nat} {vs : List V} : ∀ (kvs : List (Key × D)), Bls n (kvs.map (·.2)) → RelDs K w vs (kvs.map (·.2)) → RelDs K (w.cut n) vs (kvs.map (·.2))
  | [], _, h => by cases h; exact .nil
  | (k, d) :: ds, b, h => by cases h with | cons h1 h2 => exact .cons (RelD.cut (by cases b; assumption) h1) (RelKs.cut ds (by cases b; assumption) h2)
theorem RelTs.cut {n : Nat} {vs : List V} : ∀ (kvs : List (List Key × D)), Bls n (kvs.map (·.2)) → RelDs K w vs (kvs.map (·.2)) → RelDs K (w.cut n) vs (kvs.map (·.2))
  | [], _, h => by cases h; exact .nil
  | (k, d) :: ds, b, h => by cases h with | cons h1 h2 => exact .cons (RelD.cut (by cases b; assumption) h1) (RelTs.cut ds (by cases b; assumption) h2)
end
theorem InnR.cut {n i : Nat} (hi : i < n) : ∀ {kv : List (Key × V)} {kvs : List (Key × List D)}, (∀ p ∈ kvs, Bls n p.2) → InnR K w H i kv kvs → InnR K (w.cut n) H i kv kvs
  | [], [], _, _ => trivial
  | a :: r, b :: r', hb, ⟨e, ⟨c, vs, e2, e3, e4, e5, e6⟩, t⟩ =>
    ⟨e, ⟨c, vs, e2, (cut_i hi _).trans e3, e4, e5, e6.cut (hb b List.mem_cons_self)⟩, InnR.cut hi (fun p hp => hb p (List.mem_cons_of_mem _ hp)) t⟩
  | [], _ :: _, _, h => h.elim
  | _ :: _, [], _, h => h.elim
theorem CellR.cut {n i : Nat} {o : O} (hi : i < n) (hb : OBl n o) (h : CellR K w H i o) : CellR K (w.cut n) H i o := by
  have m : ∀ {a}, w.m i = some a → (w.cut n).m i = some a := fun e => (cut_m hi).trans e
  have l : (w.cut n).lk i = w.lk i := cut_l hi
  cases o with
  | lst xs => obtain ⟨a, vs, e1, e2, e3, e4⟩ := h; exact ⟨a, vs, m e1, e2, e3, e4.cut hb⟩
  | dK xs => obtain ⟨e0, a, vs, e1, e2, e3, e4⟩ := h; exact ⟨l.trans e0, a, vs, m e1, e2, e3, e4.1, e4.2.cut hb⟩
  | dT xs => obtain ⟨e0, a, vs, e1, e2, e3, e4⟩ := h; exact ⟨l.trans e0, a, vs, m e1, e2, e3, e4.1, e4.2.cut hb⟩
  | dL xs => obtain ⟨a, vs, e1, e2, e3, e4⟩ := h; exact ⟨a, vs, m e1, e2, e3, e4.cut hi hb⟩
  | ins C xs => obtain ⟨a, dx, vs, e1, e2, e3, e4⟩ := h; exact ⟨a, dx, vs, m e1, e2, e3, e4.1, e4.2.cut hb⟩
  | lkK xs => obtain ⟨a, o, vs, e1, e0, e2, e3, e4⟩ := h; exact ⟨a, o, vs, m e1, l.trans e0, e2, e3, e4.1, e4.2.cut hb⟩
  | lkT xs => obtain ⟨a, o, vs, e1, e0, e2, e3, e4⟩ := h; exact ⟨a, o, vs, m e1, l.trans e0, e2, e3, e4.1, e4.2.cut hb⟩
  | fz d => obtain ⟨a, e1, e2⟩ := h; exact ⟨a, m e1, e2.cut hb⟩
  | dead => trivial
theorem WR.cut (W : WR K w H R') {n : Nat} (hn : n ≤ R'.length) (hb : ∀ i o, i < n → R'[i]? = some o → OBl n o) : WR K (w.cut n) H (R'.take n) := by
  have mm : ∀ {i a}, (w.cut n).m i = some a → w.m i = some a ∧ i < n := fun {i a} e => by
    by_cases h : i < n
    · exact ⟨(cut_m h).symm.trans e, h⟩
    · rw [show (w.cut n).m i = none from if_neg h] at e; cases e
  have ii : ∀ {i k a}, (w.cut n).inn i k = some a → w.inn i k = some a := fun {i k a} e => by
    by_cases h : i < n
    · exact (cut_i h k).symm.trans e
    · rw [show (w.cut n).inn i k = none from if_neg h] at e; cases e
  refine ⟨W.sub, fun i hi => ?_, fun i j a e1 e2 => W.mi i j a (mm e1).1 (mm e2).1, fun i j k l a e1 e2 => W.ii i j k l a (ii e1) (ii e2), fun i j k a e1 e2 => W.mn i j k a (mm e1).1 (ii e2), fun i a e => W.lm i a (mm e).1, fun i k a e => W.li i k a (ii e), fun i o e => ?_⟩
  · have h : ¬ i < n := by rw [List.length_take] at hi; omega
    exact ⟨if_neg h, fun k => if_neg h, if_neg h⟩
  · by_cases h : i < n
    · rw [List.getElem?_take_of_lt h] at e
      exact (W.cell i o e).cut h (hb i o h e)
    · rw [List.getElem?_eq_none (by rw [List.length_take]; omega)] at e; cases e
theorem Wt.le.cut {n : Nat} (W : WR K w H R) (l : w.le w') (hn : R.length ≤ n) : w.le (w'.cut n) := by
  refine ⟨l.hs, fun i a e => ?_, fun i k a e => ?_, fun i o e => ?_⟩
  · have : i < n := Nat.lt_of_lt_of_le (W.m_lt e) hn
    exact (cut_m this).trans (l.m _ _ e)
  · have : i < n := Nat.lt_of_lt_of_le (W.i_lt e) hn
    exact (cut_i this k).trans (l.inn _ _ _ e)
  · have : i < n := by
      rcases Nat.lt_or_ge i n with h | h
      · exact h
      · rw [(W.hi i (Nat.le_trans hn h)).2.2] at e; cases e
    exact (cut_l this).trans (l.lk _ _ e)
theorem Wt.out_cut {n : Nat} {a : Addr} (h : w.out a) : (w.cut n).out a := by
  refine ⟨h.1, fun i e => ?_, fun i k e => ?_⟩
  · by_cases c : i < n
    · exact h.2.1 i ((cut_m c).symm.trans e)
    · rw [show (w.cut n).m i = none from if_neg c] at e; cases e
  · by_cases c : i < n
    · exact h.2.2 i k ((cut_i c k).symm.trans e)
    · rw [show (w.cut n).inn i k = none from if_neg c] at e; cases e
theorem Stp.cut {H' : Hp} {n : Nat} (W : WR K w H R) (l : Stp w H w' H') (hn : R.length ≤ n) : Stp w H (w'.cut n) H' :=
  ⟨Wt.le.cut W l.le hn, fun a o h1 h2 => ⟨(l.fr a o h1 h2).1, Wt.out_cut (l.fr a o h1 h2).2⟩⟩
theorem Clean.bl (W : WR K w H R) (c : Clean R R') : ∀ i o, i < R.length → R'[i]? = some o → OBl R.length o := fun i o hi e => by
  rcases c.2 i hi with h | h
  · rw [h] at e; exact (W.cell i o e).bl W
  · exact h o e
end
theorem Clean.refl (R : Wd) (L : Wd) : Clean R (R ++ L) := ⟨by simp, fun i hi => .inl (List.getElem?_append_left hi)⟩
theorem Clean.rfl' (R : Wd) : Clean R R := ⟨Nat.le_refl _, fun i hi => .inl rfl⟩
theorem Clean.set {R R' : Wd} (c : Clean R R') (i : Nat) {o : O} (ho : OBl R.length o) : Clean R (R'.set i o) := by
  refine ⟨by rw [List.length_set]; exact c.1, fun j hj => ?_⟩
  by_cases q : i = j
  · subst q
    refine .inr fun o' e => ?_
    rw [List.getElem?_set_self (Nat.lt_of_lt_of_le hj c.1)] at e
    cases e; exact ho
  · rw [List.getElem?_set_ne q]; exact c.2 j hj

/-! ### a def's end -/
inductive Mode where
  | cut | keep | all
noncomputable def fin (R R' : Wd) (d : D) : Mode → Rs D
  | .cut => if Clean R R' ∧ Bl R.length d then .ok d (R'.take R.length) else .stuck
  | .keep => match d with
    | .ref c => match R'[c]? with
      | some o => if Clean R R' ∧ R.length ≤ c ∧ OBl R.length o then .ok (.ref R.length) (R'.take R.length ++ [o]) else .stuck
      | none => .stuck
    | _ => .stuck
  | .all => .ok d R'
noncomputable def finX (R R' : Wd) (c : Exn) : Rs D := if Clean R R' ∧ (∀ fs, c.pay = some fs → ∀ p ∈ fs, Bl R.length p.2) then .exc c (R'.take R.length) else .stuck
def startR (n : Nat) (ds : List D) : Rho := ds.map some ++ List.replicate (n - ds.length) none
noncomputable def fnD (n : Nat) (m : Mode) (body : DS) : List D → Wd → Rs D := fun ds R => match body (startR n ds) R with
  | .rt d R' => fin R R' d m
  | .nx _ R' => fin R R' .non m
  | .exc c _ R' => finX R R' c
  | _ => .stuck
def spD (K : PySem.W.Frag) (n : Nat) (g : List D → Wd → Rs D) : Sp := fun vs H Q E => vs.length = n ∧ ∃ w R ds, WR K w H R ∧ RelDs K w vs ds ∧ match g ds R with
  | .ok x R' => Ret K w H R' x Q
  | .exc c R' => ∀ o w' H', Stp w H w' H' → WR K w' H' R' → ExR K w' H' c o → E (.ref c.cls) o H'
  | .stuck => False
section
variable {K : PySem.W.Frag} {w w' : Wt} {H H' : Hp} {R R' : Wd}
theorem WR.keep {c : Nat} {o : O} (W : WR K w H R) (W' : WR K w' H' R') (l : Stp w H w' H') (cl : Clean R R') (hc : R.length ≤ c) (e : R'[c]? = some o) (ho : OBl R.length o) {v : V} (r : RelD K w' v (.ref c)) :
    ∃ w2, Stp w H w2 H' ∧ WR K w2 H' (R'.take R.length ++ [o]) ∧ RelD K w2 v (.ref R.length) := by
  cases r with
  | @ref i a hm =>
  have hcl : c < R'.length := W'.m_lt hm
  have hl : (R'.take R.length).length = R.length := by rw [List.length_take]; have := cl.1; omega
  have mR : ∀ {i b}, w.m i = some b → i < R.length := fun e => W.m_lt e
  let w2 : Wt := ⟨w'.hs, fun i => if i < R.length then w'.m i else if i = R.length then w'.m c else none, fun i k => if i < R.length then w'.inn i k else if i = R.length then w'.inn c k else none, fun i => if i < R.length then w'.lk i else if i = R.length then w'.lk c else none⟩
  have m1 : ∀ {i}, i < R.length → w2.m i = w'.m i := fun h => if_pos h
  have m2 : w2.m R.length = w'.m c := by show (if R.length < R.length then _ else if R.length = R.length then w'.m c else none) = _; rw [if_neg (Nat.lt_irrefl _), if_pos rfl]
  have i1 : ∀ {i k}, i < R.length → w2.inn i k = w'.inn i k := fun h => if_pos h
  have i2 : ∀ {k}, w2.inn R.length k = w'.inn c k := fun {k} => by show (if R.length < R.length then _ else if R.length = R.length then w'.inn c k else none) = _; rw [if_neg (Nat.lt_irrefl _), if_pos rfl]
  have l1 : ∀ {i}, i < R.length → w2.lk i = w'.lk i := fun h => if_pos h
  have l2 : w2.lk R.length = w'.lk c := by show (if R.length < R.length then _ else if R.length = R.length then w'.lk c else none) = _; rw [if_neg (Nat.lt_irrefl _), if_pos rfl]
  have m3 : ∀ {i}, R.length < i → w2.m i = none := fun {i} h => by show (if i < R.length then _ else if i = R.length then _ else none) = _; rw [if_neg (by omega), if_neg (by omega)]
  have i3 : ∀ {i k}, R.length < i → w2.inn i k = none := fun {i k} h => by show (if i < R.length then _ else if i = R.length then _ else none) = _; rw [if_neg (by omega), if_neg (by omega)]
  have l3 : ∀ {i}, R.length < i → w2.lk i = none := fun {i} h => by show (if i < R.length then _ else if i = R.length then _ else none) = _; rw [if_neg (by omega), if_neg (by omega)]
  -- where an address comes from
  let f : Nat → Nat := fun i => if i = R.length then c else i
  have mm : ∀ {i b}, w2.m i = some b → w'.m (f i) = some b ∧ i ≤ R.length := fun {i b} z => by
    rcases Nat.lt_trichotomy i R.length with h | h | h
    · exact ⟨by show w'.m (if i = R.length then c else i) = _; rw [if_neg (by omega), ← m1 h]; exact z, by omega⟩
    · subst h; exact ⟨by show w'.m (if R.length = R.length then c else _) = _; rw [if_pos rfl, ← m2]; exact z, by omega⟩
    · rw [m3 h] at z; cases z
  have mi : ∀ {i k b}, w2.inn i k = some b → w'.inn (f i) k = some b ∧ i ≤ R.length := fun {i k b} z => by
    rcases Nat.lt_trichotomy i R.length with h | h | h
    · exact ⟨by show w'.inn (if i = R.length then c else i) k = _; rw [if_neg (by omega), ← i1 h]; exact z, by omega⟩
    · subst h; exact ⟨by show w'.inn (if R.length = R.length then c else _) k = _; rw [if_pos rfl, ← i2]; exact z, by omega⟩
    · rw [i3 h] at z; cases z
  have finj : ∀ {i j}, i ≤ R.length → j ≤ R.length → f i = f j → i = j := fun {i j} h1 h2 z => by
    have z' : (if i = R.length then c else i) = (if j = R.length then c else j) := z
    by_cases a : i = R.length <;> by_cases b : j = R.length
    · omega
    · rw [if_pos a, if_neg b] at z'; omega
    · rw [if_neg a, if_pos b] at z'; omega
    · rw [if_neg a, if_neg b] at z'; exact z'
  have relB : ∀ {v : V} {d : D}, Bl R.length d → RelD K w' v d → RelD K w2 v d := fun {v d} b r => by
    refine RelD.imp (w := w'.cut R.length) (w' := w2) ⟨fun _ _ h => h, fun _ _ h => h, fun _ _ _ h => h, fun _ _ h => h, fun i a e => ?_, fun i k a e => ?_⟩ ?_
    · by_cases h : i < R.length
      · rw [m1 h]; exact (cut_m h).symm.trans e
      · rw [show (w'.cut R.length).m i = none from if_neg h] at e; cases e
    · by_cases h : i < R.length
      · rw [i1 h]; exact (cut_i h k).symm.trans e
      · rw [show (w'.cut R.length).inn i k = none from if_neg h] at e; cases e
    exact r.cut b
  have relsB : ∀ {vs : List V} {ds : List D}, Bls R.length ds → RelDs K w' vs ds → RelDs K w2 vs ds := fun {vs ds} b r => by
    induction ds generalizing vs with
    | nil => cases r; exact .nil
    | cons d ds ih => cases r with | cons r1 r2 => cases b with | cons b1 b2 => exact .cons (relB b1 r1) (ih b2 r2)
  have cellB : ∀ {i o}, (i ≤ R.length) → OBl R.length o → CellR K w' H' (f i) o → CellR K w2 H' i o := fun {i o} hi hb h => by
    have em : ∀ {a}, w'.m (f i) = some a → w2.m i = some a := fun {a} z => by
      rcases Nat.lt_or_ge i R.length with h | h
      · have z' : w'.m (if i = R.length then c else i) = some a := z
        rw [if_neg (by omega)] at z'; rw [m1 h]; exact z'
      · have : i = R.length := by omega
        subst this
        have z' : w'.m (if R.length = R.length then c else _) = some a := z
        rw [if_pos rfl] at z'; rw [m2]; exact z'
    have ei : ∀ {k a}, w'.inn (f i) k = some a → w2.inn i k = some a := fun {k a} z => by
      rcases Nat.lt_or_ge i R.length with h | h
      · have z' : w'.inn (if i = R.length then c else i) k = some a := z
        rw [if_neg (by omega)] at z'; rw [i1 h]; exact z'
      · have : i = R.length := by omega
        subst this
        have z' : w'.inn (if R.length = R.length then c else _) k = some a := z
        rw [if_pos rfl] at z'; rw [i2]; exact z'
    have el : w2.lk i = w'.lk (f i) := by
      rcases Nat.lt_or_ge i R.length with h | h
      · show _ = w'.lk (if i = R.length then c else i)
        rw [if_neg (by omega), l1 h]
      · have : i = R.length := by omega
        subst this
        show _ = w'.lk (if R.length = R.length then c else _)
        rw [if_pos rfl, l2]
    cases o with
    | lst xs => obtain ⟨a, vs, e1, e2, e3, e4⟩ := h; exact ⟨a, vs, em e1, e2, e3, relsB hb e4⟩
    | dK xs => obtain ⟨e0, a, vs, e1, e2, e3, e4⟩ := h; exact ⟨el.trans e0, a, vs, em e1, e2, e3, e4.1, relsB hb e4.2⟩
    | dT xs => obtain ⟨e0, a, vs, e1, e2, e3, e4⟩ := h; exact ⟨el.trans e0, a, vs, em e1, e2, e3, e4.1, relsB hb e4.2⟩
    | dL xs =>
      obtain ⟨a, vs, e1, e2, e3, e4⟩ := h
      refine ⟨a, vs, em e1, e2, e3, ?_⟩
      have : ∀ {kv : List (Key × V)} {kvs : List (Key × List D)}, (∀ p ∈ kvs, Bls R.length p.2) → InnR K w' H' (f i) kv kvs → InnR K w2 H' i kv kvs := fun {kv kvs} hb h => by
        induction kvs generalizing kv with
        | nil => cases kv with
          | nil => trivial
          | cons _ _ => exact h.elim
        | cons q kvs ih =>
          cases kv with
          | nil => exact h.elim
          | cons p kv =>
            obtain ⟨e, ⟨b, vs, x1, x2, x3, x4, x5⟩, t⟩ := h
            exact ⟨e, ⟨b, vs, x1, ei x2, x3, x4, relsB (hb q List.mem_cons_self) x5⟩, ih (fun p hp => hb p (List.mem_cons_of_mem _ hp)) t⟩
      exact this hb e4
    | ins C xs => obtain ⟨a, dx, vs, e1, e2, e3, e4⟩ := h; exact ⟨a, dx, vs, em e1, e2, e3, e4.1, relsB hb e4.2⟩
    | lkK xs => obtain ⟨a, o, vs, e1, e0, e2, e3, e4⟩ := h; exact ⟨a, o, vs, em e1, el.trans e0, e2, e3, e4.1, relsB hb e4.2⟩
    | lkT xs => obtain ⟨a, o, vs, e1, e0, e2, e3, e4⟩ := h; exact ⟨a, o, vs, em e1, el.trans e0, e2, e3, e4.1, relsB hb e4.2⟩
    | fz d => obtain ⟨a, e1, e2⟩ := h; exact ⟨a, em e1, relB hb e2⟩
    | dead => trivial
  refine ⟨w2, ⟨⟨l.le.hs, fun i a e => ?_, fun i k a e => ?_, fun i o e => ?_⟩, fun b u h1 h2 => ?_⟩, ⟨W'.sub, fun i hi => ?_, fun i j b z1 z2 => ?_, fun i j k q b z1 z2 => ?_, fun i j k b z1 z2 => ?_, fun i b z => W'.lm _ b (mm z).1, fun i k b z => W'.li _ k b (mi z).1, fun i o' z => ?_⟩, .ref (m2.trans hm)⟩
  · rw [m1 (W.m_lt e)]; exact l.le.m _ _ e
  · rw [i1 (W.i_lt e)]; exact l.le.inn _ _ _ e
  · have : i < R.length := by
      rcases Nat.lt_or_ge i R.length with h | h
      · exact h
      · rw [(W.hi i h).2.2] at e; cases e
    rw [l1 this]; exact l.le.lk _ _ e
  · obtain ⟨h3, h4⟩ := l.fr b u h1 h2
    exact ⟨h3, h4.1, fun i z => h4.2.1 _ (mm z).1, fun i k z => h4.2.2 _ k (mi z).1⟩
  · have : R.length < i := by simp only [List.length_append, hl, List.length_cons, List.length_nil] at hi; omega
    exact ⟨m3 this, fun k => i3 this, l3 this⟩
  · exact finj (mm z1).2 (mm z2).2 (W'.mi _ _ b (mm z1).1 (mm z2).1)
  · obtain ⟨q1, q2⟩ := W'.ii _ _ k q b (mi z1).1 (mi z2).1
    exact ⟨finj (mi z1).2 (mi z2).2 q1, q2⟩
  · exact W'.mn _ _ k b (mm z1).1 (mi z2).1
  · rcases Nat.lt_or_ge i R.length with h | h
    · rw [List.getElem?_append_left (by rw [hl]; exact h), List.getElem?_take_of_lt h] at z
      refine cellB (Nat.le_of_lt h) (cl.bl W i o' h z) ?_
      show CellR K w' H' (if i = R.length then c else i) o'
      rw [if_neg (by omega)]
      exact W'.cell i o' z
    · rw [List.getElem?_append_right (by rw [hl]; exact h), hl] at z
      have hi : i = R.length := by
        rcases Nat.lt_or_ge R.length i with h2 | h2
        · rw [List.getElem?_eq_none (by simp; omega)] at z; cases z
        · omega
      subst hi
      simp at z
      subst z
      refine cellB (Nat.le_refl _) ho ?_
      show CellR K w' H' (if R.length = R.length then c else _) o
      rw [if_pos rfl]
      exact W'.cell c o e
theorem fin_noexc {m : Mode} {d : D} {c : Exn} {R2 : Wd} (e : fin R R' d m = .exc c R2) : False := by
  cases m with
  | cut =>
    simp only [fin] at e
    split at e <;> simp at e
  | keep =>
    cases d with
    | ref i =>
      simp only [fin] at e
      cases q : R'[i]? with
      | none => simp [q] at e
      | some o => simp only [q] at e; split at e <;> simp at e
    | _ => simp [fin] at e
  | all => simp [fin] at e
theorem fin_ret {m : Mode} {d : D} {Q : VK} (W : WR K w H R) (h : match fin R R' d m with
  | .ok x R' => Ret K w H R' x Q
  | .exc _ _ => False
  | .stuck => False) : Ret K w H R' d Q := by
  intro v w' H' l W' r
  cases m with
  | cut =>
    by_cases c : Clean R R' ∧ Bl R.length d
    · simp only [fin, if_pos c] at h
      exact h v _ H' (l.cut W (Nat.le_refl _)) (W'.cut c.1.1 (c.1.bl W)) (r.cut c.2)
    · simp only [fin, if_neg c] at h
  | keep =>
    cases d with
    | ref c =>
      cases e : R'[c]? with
      | none => simp only [fin, e] at h
      | some o =>
        by_cases q : Clean R R' ∧ R.length ≤ c ∧ OBl R.length o
        · simp only [fin, e, if_pos q] at h
          obtain ⟨w2, s2, W2, r2⟩ := W.keep W' l q.1 q.2.1 e q.2.2 r
          exact h v w2 H' s2 W2 r2
        · simp only [fin, e, if_neg q] at h
    | _ => simp only [fin] at h
  | all => exact h v w' H' l W' r
end
theorem relS_start {K : PySem.W.Frag} {w : Wt} {vs : List V} {ds : List D} (h : RelDs K w vs ds) (N : List Str) : RelS K w (L2.start N vs) (startR N.length ds) := by
  refine ⟨by simp [L2.start, startR, h.length], fun i d e => ?_⟩
  unfold startR at e
  by_cases c : i < ds.length
  · rw [List.getElem?_append_left (by simpa using c), List.getElem?_map] at e
    obtain ⟨d', e1, e2⟩ := Option.map_eq_some_iff.mp e
    cases e2
    obtain ⟨v, e3, r⟩ := h.get e1
    exact ⟨v, by unfold L2.start; rw [List.getElem?_append_left (by simpa [h.length] using c), List.getElem?_map, e3]; rfl, r⟩
  · rw [List.getElem?_append_right (by simpa using c)] at e
    simp only [List.length_map] at e
    by_cases c2 : i - ds.length < N.length - ds.length
    · rw [List.getElem?_replicate, if_pos c2] at e; cases e
    · rw [List.getElem?_replicate, if_neg c2] at e; cases e
/-! ### defs, where no repr is under way -/
structure FnG (P : Program) (w : World) (K : PySem.W.Frag) (mg : Str → Option Value) (base : Heap) (k : Nat) (f : Addr) (fd : FuncData) (ps : List Str) (sp : Sp) : Prop where
  len : ∀ vs H Q E, sp vs H Q E → vs.length = ps.length
  go : ∀ (A : Around) (out : List Env) (s : Shared) (H : Hp) (args : Args) (us : List Value) (vs : List V) (Q : VK) (E : XK), A.guards = some [] → Room k A → Env0 P w K mg base A out s H →
    BindsTo s fd args (ps.zip us) → Vals vs us → sp vs H Q E → codeAny (model P w) A (.call (.ref f) args) (CR (L2N.CX P w) out P w H s Q E) s
section
variable {P : Program} {w : World} {K : PySem.W.Frag} {mg : Str → Option Value} {base : Heap} {x qual : Str} {params : Arguments} {body : List Stmt} {scope : Scope} {dvs : List V} {kws : List (Str × V)} {f : Addr} {fd : FuncData}
abbrev FnY (P : Program) (w : World) (K : PySem.W.Frag) (mg : Str → Option Value) (base : Heap) (k : Nat) (f : Addr) (fd : FuncData) (ps : List Str) (g : List D → Wd → Rs D) : Prop := FnG P w K mg base k f fd ps (spD K ps.length g)
/-- the context of a def's body -/
abbrev CxD (P : Program) (w : World) (K : PySem.W.Frag) (mg : Str → Option Value) (base : Heap) (N : List Str) (qual : Str) (scope : Scope) (f : Addr) (cdv : Value) (A : Around) (outer : List Env) (s : Shared) (H : Hp) (E : XK) : Cx := cxOf (L2N.CX P w) P w K mg base N qual scope f cdv A outer s H E
abbrev WD (E : XK) : WX := fun c o _ H => E c o H
theorem okG {N ps : List Str} {k : Nat} {sp : Sp} (F : FunD K x qual params body scope dvs kws f fd) (S : FnScope N ps scope) (len : ∀ vs H Q E, sp vs H Q E → vs.length = ps.length)
    (hb : ∀ (cdv : Value) (A : Around) (out : List Env) (s : Shared) (H : Hp) (vs : List V) (Q : VK) (E : XK), A.guards = some [] → Room k (A.deeper (envOfC qual scope s.heap.objs.size f cdv)) → sp vs H Q E →
      ∃ t, PSs (CxD P w K mg base N qual scope f cdv A out s H E) body t ∧ t { nx := fun _ H' => Q .non H', rt := Q } (L2.start N vs) H) : FnG P w K mg base (k + 1) f fd ps sp := by
  obtain ⟨oc, od, dV, kV, doc, pm, an, cdv, ct, osl, rfl, lk, code, _, _⟩ := F.ex
  refine ⟨len, fun A out s H args us vs Q E hG hr e0 bd rv sv => ?_⟩
  have inK : K.In s.heap := e0.mod.kin.keeps fun b o e => (e0.bs b o e).1
  refine codeAny_call_function hr.depth (inK _ _ lk) rfl S.co S.gen rfl (PySem.W.codeRec_of inK code) (bd _ _ _ _ ?_)
  refine wpAny_newFunctionEnv_cells S.kind (fun y hy => ?_) fun env he s1 ic => ?_
  · rcases S.par y.1 (List.of_mem_zip hy).1 with q | q
    · exact .inl q
    · exact .inr ⟨q, PySem.W.cellsFrom_some _ _ _ (.inl q)⟩
  · subst he
    have lim : s.heap.NoLimit := e0.mod.nolimit.keeps fun b o e => (e0.bs b o e).1
    refine ⟨lim.keeps ic.toInCall.keep, codeAny_func ?_⟩
    obtain ⟨t, pt, ht⟩ := hb cdv A out s H vs Q E hG (hr.deeper _) sv
    have I0 := inv_start (CX := L2N.CX P w) (E := E) S hr.hd e0 (len _ _ _ _ sv) rv ic
    have back : ∀ {σ2 : L2.St} {H2 : Hp} {v : V} {u : Value} {s2 : Shared}, L2.Inv (CxD P w K mg base N qual scope f cdv A out s H E) [] σ2 H2 s2 → RelV v u → Q v H2 → CE out P w H s Q u s2 :=
      fun {σ2 H2 v u s2} J rr q => ⟨v, H2, J.os, J.bare, J.base, J.hok, rr, q⟩
    refine wpAny_mono (pt.run [] s1 _ H _ I0 ht) (fun fl s2 h2 => ?_) fun _ _ h2 => h2
    match fl, h2 with
    | .ret u, ⟨v, σ2, H2, J, rr, q⟩ => exact back J rr q
    | .next, ⟨σ2, H2, J, q⟩ => exact back (v := V.non) (u := Value.none) J rfl q
    | .brk, ⟨_, _, _, q⟩ => exact (show False from q).elim
    | .cont, ⟨_, _, _, q⟩ => exact (show False from q).elim
theorem ok_def {N ps : List Str} {k : Nat} {m : Mode} {db : DS} (F : FunD K x qual params body scope dvs kws f fd) (S : FnScope N ps scope)
    (h : ∀ (cdv : Value) (A : Around) (outer : List Env) (s : Shared) (H : Hp) (E : XK), A.guards = some [] → Room k (A.deeper (envOfC qual scope s.heap.objs.size f cdv)) → SsD (CxD P w K mg base N qual scope f cdv A outer s H E) (WD E) body db) :
    FnY P w K mg base (k + 1) f fd ps (fnD N.length m db) := by
  refine okG F S (fun _ _ _ _ h => h.1) fun cdv A outer s H vs Q E hG hr hsp => ⟨_, h cdv A outer s H E hG hr, ?_⟩
  obtain ⟨_, w, R, ds, W, r, q⟩ := hsp
  have SS : RelS K w (L2.start N vs) (startR N.length ds) := relS_start r N
  refine ⟨w, _, R, ⟨W, SS⟩, ?_⟩
  have q : match (match db (startR N.length ds) R with
      | .rt d R' => fin R R' d m
      | .nx _ R' => fin R R' .non m
      | .exc c _ R' => finX R R' c
      | _ => .stuck) with
    | .ok x R' => Ret K w H R' x Q
    | .exc c R' => ∀ o w' H', Stp w H w' H' → WR K w' H' R' → ExR K w' H' c o → E (.ref c.cls) o H'
    | .stuck => False := q
  have fine : ∀ (R' : Wd) (d : D), (match fin R R' d m with
    | .ok x R' => Ret K w H R' x Q
    | .exc c R' => ∀ o w' H', Stp w H w' H' → WR K w' H' R' → ExR K w' H' c o → E (.ref c.cls) o H'
    | .stuck => False) → Ret K w H R' d Q := fun R' d q => fin_ret W (by
      cases e : fin R R' d m with
      | ok x R2 => rw [e] at q; exact q
      | stuck => rw [e] at q; exact q
      | exc c R2 =>
        exact (fin_noexc e).elim)
  cases e : db (startR N.length ds) R with
  | rt d R' => rw [e] at q; exact fine R' d q
  | nx ρ' R' => rw [e] at q; exact fun σ w' H' l A' => fine R' .non q .non w' H' l A'.W .non
  | bk ρ' R' => rw [e] at q; exact q.elim
  | ct ρ' R' => rw [e] at q; exact q.elim
  | stuck => rw [e] at q; exact q.elim
  | exc c ρ' R' =>
    rw [e] at q
    have q : match finX R R' c with
      | .ok x R' => Ret K w H R' x Q
      | .exc c R' => ∀ o w' H', Stp w H w' H' → WR K w' H' R' → ExR K w' H' c o → E (.ref c.cls) o H'
      | .stuck => False := q
    unfold finX at q
    by_cases cc : Clean R R' ∧ (∀ fs, c.pay = some fs → ∀ p ∈ fs, Bl R.length p.2)
    · rw [if_pos cc] at q
      intro σ' w1 H1 l1 s1 o w2 H2 l2 W2 ex
      refine q o (w2.cut R.length) H2 ((l1.trans l2).cut W (Nat.le_refl _)) (W2.cut cc.1.1 (cc.1.bl W)) ?_
      cases o with
      | none => exact ex
      | some d =>
        obtain ⟨fs, fv, e1, e2, e3⟩ := ex
        exact ⟨fs, fv, e1, e2, e3.1, e3.2.cut (bls_iff.mpr fun x hx => by obtain ⟨p, hp, rfl⟩ := List.mem_map.mp hx; exact cc.2 fs e1 p hp)⟩
    · rw [if_neg cc] at q; exact q.elim
end

/-! ### a def called by its name -/
structure Gf (P : Program) (w : World) (K : PySem.W.Frag) (mg : Str → Option Value) (base : Heap) (x : Str) (k n : Nat) (g : List D → Wd → Rs D) : Prop where
  ex : ∃ (f : Addr) (fd : FuncData) (ps : List Str), ps.length = n ∧ FnY P w K mg base k f fd ps g ∧ mg x = some (.ref f) ∧ PySem.W.keepIn K (.ref f) = true ∧ Binds K fd ps []
def dCallF (n : Nat) (g : List D → Wd → Rs D) (a : DA) : DE := fun ρ R => (a ρ R).bind fun xs R1 => if xs.length = n then g xs R1 else .stuck
/-- the table of modules is there -/
def SM (h : Heap) : Prop := ∃ o es ep, h.get? sysModules = some o ∧ o.data = .dict es ep
/-- what every context gives -/
structure Ok (X : Cx) (W : WX) (k : Nat) : Prop where
  room : Room k X.A
  grd : X.A.guards = some []
  tk : L2N.Takes X W
  sm : SM X.base
  calm : X.calm = true
section
variable {X : Cx} {W : WX} {e : Expr} {es : List Expr} {d : DA} {x : Str} {k j n : Nat} {g : List D → Wd → Rs D} {p pos : Pos}
/-- f(values) -/
theorem run_g {f : Addr} {fd : FuncData} {ps : List Str} {sp : Sp} {pins : List (Addr × Obj)} {σ : L2.St} {H : Hp} {s : Shared} {Q : VK} {us : List Value} {vs : List V} (F : FnG X.prog X.w X.K X.mg X.base k f fd ps sp) (O : Ok X W j) (hk : k ≤ j) (b : Binds X.K fd ps [])
    (I : L2.Inv X pins σ H s) (rv : Vals vs us) (h : sp vs H Q fun c o H => W c o σ H) : wpAny (model X.prog X.w) X.A (call (.ref f) us) (EP X pins σ Q) X.xe s := by
  have l : us.length = ps.length := rv.length.symm.trans (F.len _ _ _ _ h)
  have b2 := b s us I.kIn (by simpa using l)
  rw [List.append_nil] at b2
  refine wpAny_call (codeAny_mono (F.go X.A X.stack s H ⟨us, []⟩ us vs Q _ O.grd (O.room.mono hk) I.env0 b2 rv h) fun r s2 q => ?_)
  match r, q with
  | .ok (.ret u), q => exact I.after q
  | .ok .next, q => exact (show False from q).elim
  | .ok .brk, q => exact (show False from q).elim
  | .ok .cont, q => exact (show False from q).elim
  | .error x, q => exact L2N.passAt O.tk σ pins H s x s2 I q
theorem ed_fn (F : Gf X.prog X.w X.K X.mg X.base x k n g) (O : Ok X W j) (hk : k ≤ j) (hg : Gl X x) (ha : AD X W (e :: es) d) (hdb : (x == ("__debug__" : Str)) = false := by decide)
    (he : starEach (e :: es) X.env = (false, eval e X.env) :: starEach es X.env := by rfl) (hpl : (backTo pos (starEach es X.env)).any (·.1) = false := by rfl) : ED X W (.Call (.Name x p) (e :: es) [] pos) (dCallF n g d) := by
  obtain ⟨f, fd, ps, hn, F, gm, kp, b⟩ := F.ex
  refine ⟨fun pins s σ H Q I h => ?_⟩
  obtain ⟨w, ρ, R, A, q⟩ := h
  have h' : rdA X.K W d σ H fun vs H1 => spD X.K ps.length g vs H1 Q fun c o H => W c o σ H := by
    refine ⟨w, ρ, R, A, q.bind.imp fun xs R1 p1 vs w1 H1 l1 W1 r1 => ?_⟩
    by_cases c : xs.length = n
    · rw [if_pos c] at p1
      refine ⟨by rw [r1.length, c, hn], w1, R1, xs, W1, r1, ?_⟩
      cases eg : g xs R1 with
      | ok y R2 => rw [eg] at p1; exact Ret.mono l1 p1
      | exc c R2 => rw [eg] at p1; exact fun o w' H' l W' ex => p1 o w' H' (l1.trans l) W' ex
      | stuck => rw [eg] at p1; exact p1.elim
    · rw [if_neg c] at p1; exact p1.elim
  refine wpAny_Call_Name_kw (ld_glob I hg gm ?_ hdb)
  exact PySem.W.callWith_K (h₀ := X.base) I.ok.mod.kin kp (thn (ha.run pos pins s σ H _ I h') fun us s1 ⟨vs, H1, I1, rr, q1⟩ => ⟨I1.kIn, run_g F O hk b I1 rr q1⟩) he hpl
end

/-! ### the law -/
section
variable {P : Program} {w : World} {K : PySem.W.Frag} {mg mb : Str → Option Value} {k : Nat} {fa a : Addr} {fd : FuncData} {x : Str} {sp : Sp} {s₁ : Shared} {vs : List Value} {ns : List Int}
/-- from an abstract heap that holds the script, or nothing -/
theorem law_from {H : Hp} (KX : K.In s₁.heap) (hns : s₁.heap.Ns mainGlobals mg) (hb : s₁.heap.Ns builtinsNs mb) (hbb : ∀ x : Str, x ≠ "__name__" → mb x = bootBuiltins x) (hlim : s₁.heap.NoLimit) (hg : s₁.gens = #[]) (hr : Room k callerA)
    (ha : s₁.heap.get? a = some { cls := .type "list", data := .seq vs.toArray }) (sm : SM s₁.heap) (F : ∀ b : Heap, K.In b → b.Ns mainGlobals mg → SM b → FnG P w K mg b k fa fd [x] sp) (bd : ∀ (s : Shared) (u : Value), BindsTo s fd ⟨[u], []⟩ [(x, u)])
    (hO : Only H) (hsp : sp [.ref a] H (fun v _ => v = .bl true) fun _ _ _ => False) (hok : HOk P w H s₁.heap) (one : ∀ b, H b ≠ none → b = a) (hK : H a ≠ none → K.lookup a = none) :
    codeAny (model P w) callerA (.call (.ref fa) ⟨[.ref a], []⟩) (fun r s' => r = .ok (.ret (.bool true)) ∧ OldK s₁.heap s'.heap ∧ s'.os = s₁.os ∧ AllBare s'.gens) s₁ := by
  have free : ∀ {b : Addr} {o : Obj}, s₁.heap.get? b = some o → (∀ vs n, o.data ≠ .seq vs n) → H b = none := fun {b o} e d => by
    cases q : H b with
    | none => rfl
    | some u =>
      have eb := one b (by rw [q]; simp)
      rw [eb, ha] at e
      cases e
      exact absurd rfl (d _ _)
  have keepN : ∀ {b : Addr} {m : Str → Option Value}, s₁.heap.Ns b m → (hidT s₁.heap H).Ns b m := fun {b m} ⟨o, es, ep, e, d, r⟩ =>
    ⟨o, es, ep, hidT_get e (free e fun _ _ z => by rw [d] at z; cases z), d, r⟩
  have KB : K.In (hidT s₁.heap H) := fun b o e => by
    refine hidT_get (KX b o e) ?_
    cases q : H b with
    | none => rfl
    | some u =>
      have eb := one b (by rw [q]; simp)
      rw [eb] at q e
      rw [hK (by rw [q]; simp)] at e
      cases e
  obtain ⟨mc, lim1, lim2⟩ := hlim
  have M : Mod K mg (hidT s₁.heap H) := ⟨KB, keepN hns, ⟨mb, keepN hb, hbb⟩, mc, keepN lim1, lim2⟩
  have e0 : Env0 P w K mg (hidT s₁.heap H) callerA [] s₁ H := ⟨rfl, M, fun _ _ => of_hidT, Nat.le_of_eq (hidT_size _ _), trivial, fun b z => (List.not_mem_nil z).elim, hok, .of_eq hg⟩
  have sm2 : SM (hidT s₁.heap H) := by
    obtain ⟨o, es, ep, e, d⟩ := sm
    exact ⟨o, es, ep, hidT_get e (free e fun _ _ z => by rw [d] at z; cases z), d⟩
  refine codeAny_mono ((F _ KB (keepN hns) sm2).go callerA [] s₁ H ⟨[.ref a], []⟩ [.ref a] [.ref a] _ _ rfl hr e0 (bd s₁ _) (.cons rfl .nil) hsp) fun r s2 h => ?_
  match r, h with
  | .error e, h =>
    obtain ⟨_, _, _, _, _, _, _, _, _, _, _, _, z⟩ := h
    exact (show False from z).elim
  | .ok .next, h => exact (show False from h).elim
  | .ok .brk, h => exact (show False from h).elim
  | .ok .cont, h => exact (show False from h).elim
  | .ok (.ret u), ⟨v, H2, os2, bare2, un, hok2, rr, q⟩ =>
    subst q
    have eu : u = Value.bool true := rr
    subst eu
    refine ⟨rfl, OldK.of_keep fun b o e => ?_, os2, bare2⟩
    rcases hO b with z | ⟨ob, xs, z⟩
    · exact un.keep b o e z (fun z => (List.not_mem_nil z).elim) (fun z => (List.not_mem_nil z).elim)
    · obtain ⟨e1, _⟩ := hok b _ z
      obtain ⟨e2, _⟩ := hok2 b _ (un.frzs b ob _ z)
      rw [e] at e1
      cases e1
      exact e2
theorem law_end {l : PySem.W.OpenLaw} {n : Nat} {q : Program} {loose : List Str} {XP : (Str → Option Value) → Heap → Prop} {YP : World → Heap → Prop} {d : DefRec} (hn : l.most = some n) (hz : n ≤ sizeLine) (hdf : d.params.defaults = []) (hr : Room k callerA)
    (F : ∀ (w : World) (mg : Str → Option Value) (fa : Addr) (h : Heap), YP w h → h.Ns mainGlobals mg → mg d.name = some (.ref fa) → ∃ (K : PySem.W.Frag) (fd : FuncData) (sp : Sp), K.In h ∧ SM h ∧ (∀ (s : Shared) (u : Value), BindsTo s fd ⟨[u], []⟩ [(x, u)]) ∧
      (∀ (H : Hp) (a : Addr) (ns : List Int), ns.length ≤ n → SqL K H a (ns.map V.int) → sp [.ref a] H (fun v _ => v = .bl true) fun _ _ _ => False) ∧ ∀ b : Heap, K.In b → b.Ns mainGlobals mg → SM b → FnG l.prog w K mg b k fa fd [x] sp) :
    PySem.W.WalkO q loose XP YP l.row.toRowW d [] (fun f vs => PySem.call f vs) := by
  refine Att.attach_call hn hdf fun w s0 s₁ mg mb fa o pm cd doc a vs ns G Y ho hd hcd hmg hobj hints hl hg => ?_
  obtain ⟨K, fd, sp, KX, sm, bd, hsp, FF⟩ := F w mg fa _ Y G.T.g hmg
  have rv := vals_ints hints
  have lz : ns.length ≤ sizeLine := Nat.le_trans hl hz
  cases hk : K.lookup a with
  | some ob =>
    have e := KX a ob hk
    rw [hobj] at e
    cases e
    refine law_from (H := fun _ => none) KX G.T.g G.T.b G.T.builtins G.T.nolimit hg hr hobj sm FF bd (fun _ => .inl rfl) (hsp _ a ns hl (.inr ⟨_, vs.toArray, _, hk, rfl, rfl, rfl, ?_, by simpa using rv⟩)) (fun _ _ z => nomatch z) (fun b z => (z rfl).elim) fun z => (z rfl).elim
    rw [List.size_toArray, hints.length]
    exact lz
  | none =>
    have at_ : (fun b => if b = a then some (HO.frz { cls := .type "list", data := .seq vs.toArray } (.lst (ns.map V.int))) else none) a = some (HO.frz { cls := .type "list", data := .seq vs.toArray } (.lst (ns.map V.int))) := if_pos rfl
    refine law_from (H := fun b => if b = a then some (HO.frz { cls := .type "list", data := .seq vs.toArray } (.lst (ns.map V.int))) else none) KX G.T.g G.T.b G.T.builtins G.T.nolimit hg hr hobj sm FF bd (fun b => ?_) (hsp _ a ns hl (.inl (.inr ⟨_, at_⟩))) (fun b u z => ?_) (fun b z => ?_) fun _ => hk
    · by_cases c : b = a
      · exact .inr ⟨_, _, if_pos c⟩
      · exact .inl (if_neg c)
    · by_cases c : b = a
      · subst c
        have z2 := at_.symm.trans z
        cases z2
        exact ⟨hobj, by rw [List.length_map]; exact lz, vs, _, rv, hobj⟩
      · exact nomatch ((if_neg c).symm.trans z : (none : Option HO) = some u)
    · rcases Classical.em (b = a) with c | c
      · exact c
      · exact (z (if_neg c)).elim
end
end Y
end
section
set_option Elab.async false
set_option linter.all false
set_option maxRecDepth 100000
set_option maxHeartbeats 4000000
namespace Y
open PySem PySem.Spec PyProof.Rows L2
open Classical

/-! ### data read whole -/
def pyK : Key → PyData
  | .inl i => .int i
  | .inr x => .str x
def pyL (f : D → Option PyData) : List D → Option (List PyData)
  | [] => some []
  | x :: xs => match f x, pyL f xs with
    | some a, some b => some (a :: b)
    | _, _ => none
def py : Nat → Wd → D → Option PyData
  | 0, _, _ => none
  | n + 1, R, d => match d with
    | .non => some .none
    | .bl b => some (.bool b)
    | .int i => some (.int i)
    | .str x => some (.str x)
    | .tup xs => (pyL (py n R) xs).map .tuple
    | d => match lstR R d with
      | some xs => (pyL (py n R) xs).map .list
      | none => match dkOf R d with
        | some kvs => (pyL (py n R) (kvs.map (·.2))).map fun vs => .dict ((kvs.map fun p => pyK p.1).zip vs)
        | none => match dtOf R d with
          | some kvs => (pyL (py n R) (kvs.map (·.2))).map fun vs => .dict ((kvs.map fun p => PyData.tuple (p.1.map pyK)).zip vs)
          | none => none
section
variable {X : Cx} {pins : List (Addr × Obj)} {σ : L2.St} {H : Hp} {s : Shared} {w : Wt} {R : Wd}
theorem readsAll_of {f : D → Option PyData} (ih : ∀ (v : V) (d : D) (u : Value) (p : PyData), RelD X.K w v d → RelV v u → f d = some p → ∃ as, Reads s.heap u p as ∧ sysModules ∉ as) :
    ∀ {vs : List V} {ds : List D} {us : List Value} {ps : List PyData}, RelDs X.K w vs ds → Vals vs us → pyL f ds = some ps → ∃ as, ReadsAll s.heap us ps as ∧ sysModules ∉ as
  | _, [], _, _, r, rv, e => by
    cases r; cases rv
    simp only [pyL, Option.some.injEq] at e
    subst e
    exact ⟨[], .nil, by simp⟩
  | _, d :: ds, _, _, r, rv, e => by
    cases r with
    | cons r1 r2 =>
      cases rv with
      | cons q1 q2 =>
        simp only [pyL] at e
        cases e1 : f d with
        | none => simp [e1] at e
        | some a =>
          cases e2 : pyL f ds with
          | none => simp [e1, e2] at e
          | some b =>
            simp only [e1, e2, Option.some.injEq] at e
            subst e
            obtain ⟨as, h1, n1⟩ := ih _ _ _ _ r1 q1 e1
            obtain ⟨bs, h2, n2⟩ := readsAll_of ih r2 q2 e2
            exact ⟨as ++ bs, .cons h1 h2, by simp [n1, n2]⟩
theorem zip_fst {α β : Type} : ∀ {xs : List α} {ys : List β}, xs.length = ys.length → (xs.zip ys).map (·.1) = xs
  | [], [], _ => rfl
  | x :: xs, y :: ys, h => by simp only [List.zip_cons_cons, List.map_cons]; rw [zip_fst (by simpa using h)]
theorem zip_snd {α β : Type} : ∀ {xs : List α} {ys : List β}, xs.length = ys.length → (xs.zip ys).map (·.2) = ys
  | [], [], _ => rfl
  | x :: xs, y :: ys, h => by simp only [List.zip_cons_cons, List.map_cons]; rw [zip_snd (by simpa using h)]
theorem pyL_len {f : D → Option PyData} : ∀ {ds : List D} {ps : List PyData}, pyL f ds = some ps → ps.length = ds.length
  | [], _, e => by simp only [pyL, Option.some.injEq] at e; subst e; rfl
  | d :: ds, ps, e => by
    simp only [pyL] at e
    cases e1 : f d with
    | none => simp [e1] at e
    | some a =>
      cases e2 : pyL f ds with
      | none => simp [e1, e2] at e
      | some b => simp only [e1, e2, Option.some.injEq] at e; subst e; simp [pyL_len e2]
theorem key_reads {k : Key} {u : Value} (h : keyIs k u = true) : Reads s.heap u (pyK k) [] := by
  rcases keyIs_shape h with ⟨i, t, rfl, rfl⟩ | ⟨x, t, rfl, rfl⟩
  · exact .int i t
  · exact .str x t
theorem keys_reads {ks : List Key} {us : List Value} (h : Vals (ks.map kV) us) : ReadsAll s.heap us (ks.map pyK) [] := by
  induction ks generalizing us with
  | nil => cases h; exact .nil
  | cons k ks ih =>
    cases h with
    | cons r t =>
      refine .cons (as := []) (bs := []) ?_ (ih t)
      cases k with
      | inl i => obtain ⟨t, rfl⟩ := r; exact .int i t
      | inr x => obtain ⟨t, rfl⟩ := r; exact .str x t
theorem SM.ne {h : Heap} (S : SM h) {a : Addr} {o : Obj} {vs : Array Value} {n : Nat} (e : h.get? a = some o) (d : o.data = .seq vs n) : a ≠ sysModules := by
  rintro rfl
  obtain ⟨o2, es, ep, e2, d2⟩ := S
  rw [e] at e2; cases e2; rw [d] at d2; cases d2
theorem vals_snd {κ : Type} {kv : List (κ × V)} {vs : List (κ × Value)} (h : KV kv vs) : Vals (kv.map (·.2)) (vs.map (·.2)) := by
  unfold KV at h
  induction h with
  | nil => exact .nil
  | cons r _ ih => exact .cons r.2 ih
theorem kv_fst {κ : Type} {kv : List (κ × V)} {vs : List (κ × Value)} (h : KV kv vs) : kv.map (·.1) = vs.map (·.1) := by
  unfold KV at h
  induction h with
  | nil => rfl
  | cons r _ ih => simp [r.1, ih]
/-- what D says is what is read -/
theorem reads_py (I : L2.Inv X pins σ H s) (W : WR X.K w H R) (S : SM s.heap) : ∀ (n : Nat) {v : V} {d : D} {u : Value} {p : PyData}, RelD X.K w v d → RelV v u → py n R d = some p → ∃ as, Reads s.heap u p as ∧ sysModules ∉ as
  | 0, _, _, _, _, _, _, e => by simp [py] at e
  | n + 1, v, d, u, p, r, rv, e => by
    have lst : ∀ {xs : List D}, lstR R d = some xs → (pyL (py n R) xs).map PyData.list = some p → ∃ as, Reads s.heap u p as ∧ sysModules ∉ as := fun {xs} h1 h2 => by
      obtain ⟨ps, e1, e2⟩ := Option.map_eq_some_iff.mp h2
      subst e2
      obtain ⟨a, vs, rfl, h3, h4⟩ := lstR_rel W r h1
      cases rv
      obtain ⟨its, ri, ⟨o, m, ho, hc, _, hd⟩, _⟩ := I.list h3
      obtain ⟨as, q1, q2⟩ := readsAll_of (fun v d u p r rv e => reads_py I W S n r rv e) h4 ri e1
      refine ⟨_, .list ho hc hd (by simpa using q1), ?_⟩
      simp only [List.mem_cons, not_or]
      exact ⟨(S.ne ho hd).symm, q2⟩
    have dk : ∀ {kvs : List (Key × D)}, dkOf R d = some kvs → ((pyL (py n R) (kvs.map (·.2))).map fun vs => PyData.dict ((kvs.map fun p => pyK p.1).zip vs)) = some p → ∃ as, Reads s.heap u p as ∧ sysModules ∉ as := fun {kvs} h1 h2 => by
      obtain ⟨ps, e1, e2⟩ := Option.map_eq_some_iff.mp h2
      subst e2
      obtain ⟨a, kv, rfl, h3, h4⟩ := dk_rel W r h1
      cases rv
      obtain ⟨_, ns, us, rk, o, es, ep, ho, hx, hd, _, hp, q9⟩ := dk_rd I.hok h3
      have keys : ReadsAll s.heap (es.toList.map (·.key)) (kvs.map fun p => pyK p.1) [] := by
        have ek : kvs.map (fun p => pyK p.1) = (us.map (·.1)).map pyK := by rw [← kv_fst rk, h4.1, List.map_map]; rfl
        rw [ek]
        clear ek rk e1 hd q9
        generalize es.toList = l at hp ⊢
        induction hp with
        | nil => exact .nil
        | cons h1 h2 _ ih => exact .cons (as := []) (bs := []) (key_reads h1) ih
      have vals : es.toList.map (·.val) = us.map (·.2) := by
        clear rk keys hd q9
        generalize es.toList = l at hp ⊢
        induction hp with
        | nil => rfl
        | cons h1 h2 _ ih => simp [h2, ih]
      obtain ⟨as, q1, q2⟩ := readsAll_of (fun v d u p r rv e => reads_py I W S n r rv e) h4.2 (vals_snd rk) e1
      have hl : (kvs.map fun p => pyK p.1).length = ps.length := by have := pyL_len e1; simp at this ⊢; omega
      refine ⟨_, .dict ho hx.1 hd (as := []) (bs := as) ?_ ?_, ?_⟩
      · rw [zip_fst hl]; exact keys
      · rw [zip_snd hl, vals]; exact q1
      · simp only [List.cons_append, List.nil_append, List.mem_cons, not_or]
        exact ⟨fun z => by rw [← z] at ns; simp at ns, q2⟩
    have dt : ∀ {kvs : List (List Key × D)}, dtOf R d = some kvs → ((pyL (py n R) (kvs.map (·.2))).map fun vs => PyData.dict ((kvs.map fun p => PyData.tuple (p.1.map pyK)).zip vs)) = some p → ∃ as, Reads s.heap u p as ∧ sysModules ∉ as := fun {kvs} h1 h2 => by
      obtain ⟨ps, e1, e2⟩ := Option.map_eq_some_iff.mp h2
      subst e2
      obtain ⟨a, kv, rfl, h3, h4⟩ := dt_rel W r h1
      cases rv
      obtain ⟨q7, ns, xs, rk, o, es, ep, ho, hx, hd, he, q8, q9⟩ := dt_rd I.hok h3
      have keys : ReadsAll s.heap (es.toList.map (·.key)) (kvs.map fun p => PyData.tuple (p.1.map pyK)) [] := by
        have ek : kvs.map (fun p => PyData.tuple (p.1.map pyK)) = (kv.map (·.1)).map fun k => PyData.tuple (k.map pyK) := by rw [h4.1, List.map_map]; rfl
        rw [ek, he]
        clear ek h4 e1 he h3 q7 q8 q9
        unfold KT at rk
        induction rk with
        | nil => exact .nil
        | cons hq _ ih =>
          obtain ⟨k1, k2, k3⟩ := hq
          obtain ⟨_, its, ri, ot, h1, h2, m, h3⟩ := (show ObjOk X.prog X.w H s.heap _ (.tup _) from I.hok _ _ k2)
          refine .cons (as := []) (bs := []) ?_ ih
          exact .tuple h1 h2 h3 (by simpa using keys_reads ri)
      have vals : es.toList.map (·.val) = xs.map (·.2.2) := by
        rw [he, List.map_map]; rfl
      have rvs : Vals (kv.map (·.2)) (xs.map (·.2.2)) := by
        clear keys vals he h4 h3 q7 q8 q9
        unfold KT at rk
        induction rk with
        | nil => exact .nil
        | cons hq _ ih => exact .cons hq.2.2 ih
      obtain ⟨as, q1, q2⟩ := readsAll_of (fun v d u p r rv e => reads_py I W S n r rv e) h4.2 rvs e1
      have hl : (kvs.map fun p => PyData.tuple (p.1.map pyK)).length = ps.length := by have := pyL_len e1; simp at this ⊢; omega
      refine ⟨_, .dict ho hx.1 hd (as := []) (bs := as) ?_ ?_, ?_⟩
      · rw [zip_fst hl]; exact keys
      · rw [zip_snd hl, vals]; exact q1
      · simp only [List.cons_append, List.nil_append, List.mem_cons, not_or]
        exact ⟨fun z => by rw [← z] at ns; simp at ns, q2⟩
    have rest : (match lstR R d with
      | some xs => (pyL (py n R) xs).map PyData.list
      | none => match dkOf R d with
        | some kvs => (pyL (py n R) (kvs.map (·.2))).map fun vs => PyData.dict ((kvs.map fun p => pyK p.1).zip vs)
        | none => match dtOf R d with
          | some kvs => (pyL (py n R) (kvs.map (·.2))).map fun vs => PyData.dict ((kvs.map fun p => PyData.tuple (p.1.map pyK)).zip vs)
          | none => none) = some p → ∃ as, Reads s.heap u p as ∧ sysModules ∉ as := fun h => by
      cases e1 : lstR R d with
      | some xs => rw [e1] at h; exact lst e1 h
      | none =>
        rw [e1] at h
        cases e2 : dkOf R d with
        | some kvs => rw [e2] at h; exact dk e2 h
        | none =>
          rw [e2] at h
          cases e3 : dtOf R d with
          | some kvs => rw [e3] at h; exact dt e3 h
          | none => rw [e3] at h; cases h
    cases d with
    | non => cases r; cases rv; simp only [py, Option.some.injEq] at e; subst e; exact ⟨_, .none, by simp⟩
    | bl b => cases r; cases rv; simp only [py, Option.some.injEq] at e; subst e; exact ⟨_, .bool b, by simp⟩
    | int i => cases r; obtain ⟨t, rfl⟩ := rv; simp only [py, Option.some.injEq] at e; subst e; exact ⟨_, .int i t, by simp⟩
    | str i => cases r; obtain ⟨t, rfl⟩ := rv; simp only [py, Option.some.injEq] at e; subst e; exact ⟨_, .str i t, by simp⟩
    | tup xs =>
      simp only [py] at e
      obtain ⟨ps, e1, e2⟩ := Option.map_eq_some_iff.mp e
      subst e2
      cases r with
      | tup h1 h2 =>
        cases rv
        obtain ⟨_, its, ri, o, ho, hc, m, hd⟩ := (show ObjOk X.prog X.w H s.heap _ (.tup _) from I.hok _ _ (W.sub _ _ h1))
        obtain ⟨as, q1, q2⟩ := readsAll_of (fun v d u p r rv e => reads_py I W S n r rv e) h2 ri e1
        exact ⟨_, .tuple ho hc hd (by simpa using q1), q2⟩
    | lst xs => exact rest e
    | dic xs => exact rest e
    | dct xs => exact rest e
    | ref i => exact rest e
    | sub i k => exact rest e
    | obj a => exact rest e
    | sl xs => exact rest e
end
end Y
end
section
set_option Elab.async false
set_option linter.all false
set_option maxRecDepth 100000
set_option maxHeartbeats 4000000
namespace Y
open PySem PySem.Spec PyProof.Rows L2
open Classical

/-! ### what makes a fresh list -/
def RetF (K : PySem.W.Frag) (w : Wt) (H : Hp) (R : Wd) (zs : List D) (Q : VK) : Prop := ∀ a vs w' H', Stp w H w' H' → WR K w' H' R → H a = none → w'.out a → H' a = some (.lst vs) → RelDs K w' vs zs → Q (.ref a) H'
section
variable {K : PySem.W.Frag} {w w' : Wt} {H H' : Hp} {R : Wd} {zs : List D} {Q : VK}
theorem RetF.new (h : RetF K w H R zs Q) (W : WR K w H R) {p : Addr} {vs : List V} (hp : H p = none) (r : RelDs K w vs zs) : Q (.ref p) (upd H p (.lst vs)) := h p vs w _ (.new hp) (W.grow (upd_grow hp)) hp (out_new W hp) upd_same r
theorem RetF.mono (le : Stp w H w' H') {R' : Wd} (W : WR K w' H' R') (h : RetF K w H R zs Q) : RetF K w' H' R zs Q := fun a vs w2 H2 l W2 ha o e r => h a vs w2 H2 (le.trans l) W2 (le.back W ha) o e r
theorem Ret.toF (h : Ret K w H R (.lst zs) Q) : RetF K w H R zs Q := fun a vs w1 H1 l1 W1 ha o e r => by
  have l2 := Wt.share_le (o := HO.lst vs) o.1
  refine h _ (w1.share a (.lst vs)) H1 ⟨l1.le.trans l2, fun b u h1 h2 => ?_⟩ (W1.share o e) (.lst upd_same (r.mono l2))
  obtain ⟨h3, h4⟩ := l1.fr b u h1 h2
  exact ⟨h3, Wt.out_share h4 (ne_of_none h1 ha)⟩
end
def rOfF (K : PySem.W.Frag) (g : Wd → D → D → Option (List D)) : R2 := fun v u H Q => ∃ w R x y zs, WR K w H R ∧ RelD K w v x ∧ RelD K w u y ∧ g R x y = some zs ∧ RetF K w H R zs Q
abbrev OpF (X : Cx) (f : Value → Value → Sem Value) (g : Wd → D → D → Option (List D)) : Prop := OpR X f (rOfF X.K g)
def dBinL (g : Wd → D → D → Option (List D)) (a b : DE) : DA := fun ρ R => (a ρ R).bind fun x R1 => (b ρ R1).bind fun y R2 => match g R2 x y with
  | some z => .ok z R2
  | none => .stuck
def toL (g : Wd → D → D → Option (List D)) : Wd → D → D → Option D := fun R x y => (g R x y).map .lst
section
variable {X : Cx} {W : WX} {f : Value → Value → Sem Value} {gl : Wd → D → D → Option (List D)} {a b : Expr} {da db : DE} {pos : Pos}
theorem OpF.toD (h : OpF X f gl) : OpD X f (toL gl) := OpR.imp h fun x y H Q ⟨w, R, x', y', z, W, r1, r2, e, q⟩ => by
  obtain ⟨zs, e1, e2⟩ := Option.map_eq_some_iff.mp e
  subst e2
  exact ⟨w, R, x', y', zs, W, r1, r2, e1, q.toF⟩
theorem rd_binF {σ : L2.St} {H : Hp} {Q : VK} (h : rdF X.K W (dBinL gl da db) σ H Q) : tOp (rOfF X.K gl) (rdE X.K W da) (rdE X.K W db) σ H Q := by
  obtain ⟨w, ρ, R, A, p⟩ := h
  refine ⟨w, ρ, R, A, p.bind.imp fun x R1 p1 => ?_⟩
  intro v w1 H1 l1 W1 r1
  refine ⟨w1, ρ, R1, A.step l1 W1, (Post.bind p1).mono l1 fun y R2 p2 => ?_⟩
  intro u w2 H2 l2 W2 r2
  cases e : gl R2 x y with
  | none => rw [e] at p2; exact p2.elim
  | some z =>
    rw [e] at p2
    have p2 : RetF X.K w H R2 z Q := p2
    exact ⟨w2, R2, x, y, z, W2, r1.mono l2.le, r2, e, p2.mono (l1.trans l2) W2⟩
theorem fl_bin {op : Operator} (ho : OpF X (binaryOp op) gl) (ha : ED X W a da) (hb : ED X W b db) : FL X W (.BinOp a op b pos) (dBinL gl da db) :=
  PEimp (pe_op ho ha hb) fun _ _ _ h => rd_binF h
end

/-! ### arithmetic -/
def gAdd (R : Wd) : D → D → Option D
  | .int i, .int j => some (.int (i + j))
  | .str a, .str b => if a.length + b.length ≤ sizeLine then some (.str (a ++ b)) else none
  | .tup xs, .tup ys => if xs.length + ys.length ≤ sizeLine then some (.tup (xs ++ ys)) else none
  | _, _ => none
def gSub (R : Wd) : D → D → Option D
  | .int i, .int j => some (.int (i - j))
  | _, _ => none
def gMul (R : Wd) : D → D → Option D
  | .int i, .int j => if i.natAbs.log2 + j.natAbs.log2 < 1000000 then some (.int (i * j)) else none
  | _, _ => none
def gMod (R : Wd) : D → D → Option D
  | .int i, .int j => if 0 < j then some (.int (i % j)) else none
  | _, _ => none
def gDiv (R : Wd) : D → D → Option D
  | .int i, .int j => if 0 < j ∧ j.natAbs.log2 < 9000 then some (.int (i / j)) else none
  | _, _ => none
def gPow (R : Wd) : D → D → Option D
  | .int i, .int j => if 0 ≤ j ∧ (Builtin.Int.intBits i : Int) * j ≤ 2 ^ 27 then some (.int (i ^ j.toNat)) else none
  | _, _ => none
def gAddL (R : Wd) (x y : D) : Option (List D) := match lstOf R x, lstOf R y with
  | some xs, some ys => if xs.length + ys.length ≤ sizeLine then some (xs ++ ys) else none
  | _, _ => none
def gMulL (R : Wd) (x y : D) : Option (List D) := match lstOf R x, y with
  | some xs, .int k => if -(2 ^ 63) ≤ k ∧ k < 2 ^ 63 ∧ xs.length * k.toNat ≤ sizeLine then some (List.replicate k.toNat xs).flatten else none
  | _, _ => none
theorem RelDs.app {K : PySem.W.Frag} {w : Wt} : ∀ {vs : List V} {ds : List D} {us : List V} {es : List D}, RelDs K w vs ds → RelDs K w us es → RelDs K w (vs ++ us) (ds ++ es)
  | _, [], _, _, h, k => by cases h; exact k
  | _, d :: ds, _, _, h, k => by cases h with | cons a b => exact .cons a (RelDs.app b k)
theorem RelDs.rep {K : PySem.W.Frag} {w : Wt} {vs : List V} {ds : List D} (h : RelDs K w vs ds) : ∀ n : Nat, RelDs K w (List.replicate n vs).flatten (List.replicate n ds).flatten
  | 0 => .nil
  | n + 1 => by rw [List.replicate_succ, List.replicate_succ, List.flatten_cons, List.flatten_cons]; exact h.app (RelDs.rep h n)
section
variable {X : Cx}
theorem od_add : OpD X (binaryOp .Add) gAdd := by
  intro pins s σ H x y v u Q I rx ry h
  obtain ⟨w, R, x', y', z, W, r1, r2, e, q⟩ := h
  unfold gAdd at e
  split at e
  · cases e; cases r1; cases r2
    exact op_add pins s σ H _ _ v u Q I rx ry ⟨_, _, rfl, rfl, q.now W (.int _)⟩
  · split at e
    · rename_i c
      cases e; cases r1; cases r2
      exact op_add_str pins s σ H _ _ v u Q I rx ry ⟨_, _, rfl, rfl, c, q.now W (.str _)⟩
    · cases e
  · split at e
    · rename_i xs ys c
      cases e
      cases r1 with
      | tup h1 k1 => cases r2 with
        | tup h2 k2 =>
          have l1 := k1.length
          have l2 := k2.length
          refine op_catA pins s σ H _ _ v u Q I rx ry ⟨_, _, _, _, rfl, rfl, .of (W.sub _ _ h1), .of (W.sub _ _ h2), by omega, fun e => ?_, fun e1 e2 => ?_, fun e1 e2 p hp => ?_⟩
          · subst e; cases k1
            exact q.now W (.tup h2 k2)
          · subst e2; cases k2
            rw [List.append_nil] at q
            exact q.now W (.tup h1 k1)
          · exact q.newT W hp (k1.app k2)
    · cases e
  · cases e
theorem od_sub : OpD X (binaryOp .Sub) gSub := by
  intro pins s σ H x y v u Q I rx ry h
  obtain ⟨w, R, x', y', z, W, r1, r2, e, q⟩ := h
  unfold gSub at e
  split at e
  · cases e; cases r1; cases r2
    exact op_sub pins s σ H _ _ v u Q I rx ry ⟨_, _, rfl, rfl, q.now W (.int _)⟩
  · cases e
theorem od_mul : OpD X (binaryOp .Mult) gMul := by
  intro pins s σ H x y v u Q I rx ry h
  obtain ⟨w, R, x', y', z, W, r1, r2, e, q⟩ := h
  unfold gMul at e
  split at e
  · split at e
    · rename_i c
      cases e; cases r1; cases r2
      exact op_mulW pins s σ H _ _ v u Q I rx ry ⟨_, _, rfl, rfl, c, q.now W (.int _)⟩
    · cases e
  · cases e
theorem od_mod : OpD X (binaryOp .Mod) gMod := by
  intro pins s σ H x y v u Q I rx ry h
  obtain ⟨w, R, x', y', z, W, r1, r2, e, q⟩ := h
  unfold gMod at e
  split at e
  · split at e
    · rename_i c
      cases e; cases r1; cases r2
      exact op_mod pins s σ H _ _ v u Q I rx ry ⟨_, _, rfl, rfl, c, q.now W (.int _)⟩
    · cases e
  · cases e
theorem od_div : OpD X (binaryOp .FloorDiv) gDiv := by
  intro pins s σ H x y v u Q I rx ry h
  obtain ⟨w, R, x', y', z, W, r1, r2, e, q⟩ := h
  unfold gDiv at e
  split at e
  · split at e
    · rename_i c
      cases e; cases r1; cases r2
      exact op_fdivW pins s σ H _ _ v u Q I rx ry ⟨_, _, rfl, rfl, c, q.now W (.int _)⟩
    · cases e
  · cases e
theorem od_pow : OpD X (binaryOp .Pow) gPow := by
  intro pins s σ H x y v u Q I rx ry h
  obtain ⟨w, R, x', y', z, W, r1, r2, e, q⟩ := h
  unfold gPow at e
  split at e
  · split at e
    · rename_i c
      cases e; cases r1; cases r2
      obtain ⟨t, rfl⟩ := rx
      obtain ⟨t', rfl⟩ := ry
      exact pow_int c.1 c.2 ⟨.int _, H, I.tok _, ⟨_, rfl⟩, q.now W (.int _)⟩
    · cases e
  · cases e
theorem of_addL : OpF X (binaryOp .Add) gAddL := by
  intro pins s σ H x y v u Q I rx ry h
  obtain ⟨w, R, x', y', z, W, r1, r2, e, q⟩ := h
  unfold gAddL at e
  split at e
  · split at e
    · rename_i xs ys e1 e2 c
      cases e
      obtain ⟨a, vs, rfl, h1, k1⟩ := lst_rel W r1 e1
      obtain ⟨b, us, rfl, h2, k2⟩ := lst_rel W r2 e2
      have l1 := k1.length
      have l2 := k2.length
      exact op_cat pins s σ H _ _ v u Q I rx ry ⟨_, _, _, _, rfl, rfl, h1, h2, by omega, fun p hp => q.new W hp (k1.app k2)⟩
    · cases e
  · cases e
theorem of_mulL : OpF X (binaryOp .Mult) gMulL := by
  intro pins s σ H x y v u Q I rx ry h
  obtain ⟨w, R, x', y', z, W, r1, r2, e, q⟩ := h
  unfold gMulL at e
  split at e
  · split at e
    · rename_i xs k e1 c
      cases e
      obtain ⟨a, vs, rfl, h1, k1⟩ := lst_rel W r1 e1
      cases r2
      have l1 := k1.length
      exact op_rep pins s σ H _ _ v u Q I rx ry ⟨_, _, _, rfl, rfl, h1, c.1, c.2.1, by rw [l1]; exact c.2.2, fun p hp => q.new W hp (k1.rep _)⟩
    · cases e
  · cases e
end
end Y
end
section
set_option Elab.async false
set_option linter.all false
set_option maxRecDepth 100000
set_option maxHeartbeats 4000000
noncomputable section
namespace Y
open PySem PySem.Spec PyProof.Rows L2
open Classical

/-! ### keys -/
def keyOf : D → Option Key
  | .int i => some (.inl i)
  | .str x => some (.inr x)
  | _ => none
def keysOf : List D → Option (List Key)
  | [] => some []
  | d :: ds => match keyOf d, keysOf ds with
    | some k, some ks => some (k :: ks)
    | _, _ => none
section
variable {X : Cx} {K : PySem.W.Frag} {w : Wt} {H : Hp} {R : Wd}
theorem keyOf_rel {v : V} {d : D} {k : Key} (r : RelD K w v d) (e : keyOf d = some k) : v = kV k := by
  cases r <;> simp only [keyOf, Option.some.injEq, reduceCtorEq] at e <;> subst e <;> rfl
theorem keysOf_rel : ∀ {vs : List V} {ds : List D} {ks : List Key}, RelDs K w vs ds → keysOf ds = some ks → vs = ks.map kV
  | _, [], _, r, e => by cases r; simp only [keysOf, Option.some.injEq] at e; subst e; rfl
  | _, d :: ds, ks, r, e => by
    cases r with
    | cons r1 r2 =>
      simp only [keysOf] at e
      cases e1 : keyOf d with
      | none => simp [e1] at e
      | some k =>
        cases e2 : keysOf ds with
        | none => simp [e1, e2] at e
        | some ks' =>
          simp only [e1, e2, Option.some.injEq] at e
          subst e
          rw [keyOf_rel r1 e1, keysOf_rel r2 e2]
          rfl
/-- what a dict has at a key: none where it is no dict, no key -/
def dGetY (R : Wd) (x y : D) : Option (Option D) := match dkOf R x with
  | some kvs => (keyOf y).map fun k => gA k kvs
  | none => match dtOf R x, y with
    | some kvs, .tup ds => (keysOf ds).map fun k => gA k kvs
    | _, _ => none
def RelO2 (K : PySem.W.Frag) (w : Wt) : Option V → Option D → Prop
  | none, none => True
  | some v, some d => RelD K w v d
  | _, _ => False
theorem RelK.valO {κ : Type} [DecidableEq κ] {kv : List (κ × V)} {kvs : List (κ × D)} (h : RelK K w kv kvs) (k : κ) : RelO2 K w (valV kv k) (gA k kvs) := by
  obtain ⟨h1, h2⟩ := RelK.val k h
  cases e : gA k kvs with
  | none => rw [h1 e]; trivial
  | some d => obtain ⟨v, e1, r⟩ := h2 d e; rw [e1]; exact r
theorem dget_rel (W : WR K w H R) {v u : V} {x y : D} {o : Option D} (rx : RelD K w v x) (ry : RelD K w u y) (e : dGetY R x y = some o) : ∃ a r, v = .ref a ∧ DGet H a u r ∧ RelO2 K w r o := by
  unfold dGetY at e
  split at e
  · rename_i kvs e1
    obtain ⟨k, e2, e3⟩ := Option.map_eq_some_iff.mp e
    subst e3
    obtain ⟨a, kv, rfl, h1, h2⟩ := dk_rel W rx e1
    exact ⟨a, _, rfl, .inl ⟨kv, k, h1, keyOf_rel ry e2, rfl⟩, h2.valO k⟩
  · split at e
    · rename_i kvs ds e1
      obtain ⟨k, e2, e3⟩ := Option.map_eq_some_iff.mp e
      subst e3
      obtain ⟨a, kv, rfl, h1, h2⟩ := dt_rel W rx e1
      cases ry with
      | tup h3 h4 => exact ⟨a, _, rfl, .inr ⟨kv, k, _, h1, rfl, by rw [← keysOf_rel h4 e2]; exact W.sub _ _ h3, rfl⟩, h2.valO k⟩
    · cases e
end

/-! ### order -/
def gLt (R : Wd) : D → D → Option D
  | .int i, .int j => some (.bl (decide (i < j)))
  | .str a, .str b => some (.bl (decide (a.cps.toList < b.cps.toList)))
  | _, _ => none
def gLe (R : Wd) : D → D → Option D
  | .int i, .int j => some (.bl (decide (i ≤ j)))
  | .str a, .str b => some (.bl (!decide (b.cps.toList < a.cps.toList)))
  | _, _ => none
def gGt (R : Wd) : D → D → Option D
  | .int i, .int j => some (.bl (decide (j < i)))
  | .str a, .str b => some (.bl (decide (b.cps.toList < a.cps.toList)))
  | _, _ => none
def gGe (R : Wd) : D → D → Option D
  | .int i, .int j => some (.bl (decide (j ≤ i)))
  | .str a, .str b => some (.bl (!decide (a.cps.toList < b.cps.toList)))
  | _, _ => none
section
variable {X : Cx}
theorem od_lt : OpD X (compareOp .Lt) gLt := by
  intro pins s σ H x y v u Q I rx ry h
  obtain ⟨w, R, x', y', z, W, r1, r2, e, q⟩ := h
  unfold gLt at e
  split at e
  · cases e; cases r1; cases r2; exact op_lt pins s σ H _ _ v u Q I rx ry ⟨_, _, rfl, rfl, q.now W (.bl _)⟩
  · cases e; cases r1; cases r2; exact op_lt_str pins s σ H _ _ v u Q I rx ry ⟨_, _, rfl, rfl, q.now W (.bl _)⟩
  · cases e
theorem od_le : OpD X (compareOp .LtE) gLe := by
  intro pins s σ H x y v u Q I rx ry h
  obtain ⟨w, R, x', y', z, W, r1, r2, e, q⟩ := h
  unfold gLe at e
  split at e
  · cases e; cases r1; cases r2; exact op_le pins s σ H _ _ v u Q I rx ry ⟨_, _, rfl, rfl, q.now W (.bl _)⟩
  · cases e; cases r1; cases r2; exact op_le_str pins s σ H _ _ v u Q I rx ry ⟨_, _, rfl, rfl, q.now W (.bl _)⟩
  · cases e
theorem od_gt : OpD X (compareOp .Gt) gGt := by
  intro pins s σ H x y v u Q I rx ry h
  obtain ⟨w, R, x', y', z, W, r1, r2, e, q⟩ := h
  unfold gGt at e
  split at e
  · cases e; cases r1; cases r2; exact op_gt pins s σ H _ _ v u Q I rx ry ⟨_, _, rfl, rfl, q.now W (.bl _)⟩
  · cases e; cases r1; cases r2; exact op_gt_str pins s σ H _ _ v u Q I rx ry ⟨_, _, rfl, rfl, q.now W (.bl _)⟩
  · cases e
theorem od_ge : OpD X (compareOp .GtE) gGe := by
  intro pins s σ H x y v u Q I rx ry h
  obtain ⟨w, R, x', y', z, W, r1, r2, e, q⟩ := h
  unfold gGe at e
  split at e
  · cases e; cases r1; cases r2; exact op_ge pins s σ H _ _ v u Q I rx ry ⟨_, _, rfl, rfl, q.now W (.bl _)⟩
  · cases e; cases r1; cases r2; exact op_ge_str pins s σ H _ _ v u Q I rx ry ⟨_, _, rfl, rfl, q.now W (.bl _)⟩
  · cases e
end

/-! ### == -/
def eqD (R : Wd) (x y : D) : Option Bool := match py 40 R x, py 40 R y with
  | some a, some b => if SeqAt.shaped a = true ∧ SeqAt.shaped b = true then some (PyData.eqv a b) else none
  | _, _ => none
def hitsB (R : Wd) (ls : List (Key × D)) : List (Key × D) → Option Bool
  | [] => some true
  | p :: r => match gA p.1 ls with
    | none => some false
    | some u => match eqD R p.2 u, hitsB R ls r with
      | some e, some b => some (e && b)
      | _, _ => none
def eqV1 (R : Wd) (x y : D) : Option Bool := match dkOf R x, dkOf R y with
  | some ks, some ls => if ks.length = ls.length then hitsB R ls ks else some false
  | _, _ => none
def eqVal (R : Wd) (x y : D) : Option Bool := match py 40 R x, py 40 R y with
  | some a, some b => if SeqAt.shaped a = true ∧ SeqAt.shaped b = true then some (PyData.eqv a b) else eqV1 R x y
  | _, _ => eqV1 R x y
def gEq (R : Wd) (x y : D) : Option D := match x, y with
  | .int i, .int j => some (.bl (decide (i = j)))
  | .str a, .str b => some (.bl (decide (a = b)))
  | .bl a, .bl b => some (.bl (a == b))
  | x, y => (eqVal R x y).map D.bl
def gNe (R : Wd) (x y : D) : Option D := match x, y with
  | .int i, .int j => some (.bl (!decide (i = j)))
  | .str a, .str b => some (.bl (!decide (a = b)))
  | .bl a, .bl b => some (.bl (!(a == b)))
  | x, y => (eqVal R x y).map fun b => D.bl (!b)
section
variable {X : Cx} {pins : List (Addr × Obj)} {σ : L2.St} {H : Hp} {s : Shared} {w : Wt} {R : Wd}
theorem eqD_at (I : L2.Inv X pins σ H s) (W : WR X.K w H R) (S : SM s.heap) {A : Around} (hu : A.units + 64 < cLine) {x y : D} {vx vy : V} {u t : Value} {b : Bool} (h : eqD R x y = some b) (r1 : RelD X.K w vx x) (r2 : RelD X.K w vy y) (q1 : RelV vx u) (q2 : RelV vy t) : SeqAt.EqAt A s u t b := by
  unfold eqD at h
  split at h
  · rename_i a c e1 e2
    split at h
    · rename_i sh
      cases h
      obtain ⟨as, z1, _⟩ := reads_py I W S 40 r1 q1 e1
      obtain ⟨bs, z2, _⟩ := reads_py I W S 40 r2 q2 e2
      exact SeqAt.eqAt_reads a c A s u t as bs z1 z2 (SeqAt.canLay_of_shaped sh.1) (SeqAt.canLay_of_shaped sh.2) (SeqAt.room_of_shaped sh.1 hu)
    · cases h
  · cases h
theorem hitsY (I : L2.Inv X pins σ H s) (W : WR X.K w H R) (S : SM s.heap) {A : Around} (hu : A.units + 64 < cLine) {ls : List (Key × D)} {lv : List (Key × V)} {vb : List (Key × Value)} (rl : RelK X.K w lv ls) (rb : KV lv vb) :
    ∀ {ks : List (Key × D)} {kv : List (Key × V)} {va : List (Key × Value)} {b : Bool}, RelK X.K w kv ks → KV kv va → hitsB R ls ks = some b → PySem.W.KeqHits A s vb va b
  | [], kv, va, b, r, q, h => by
    cases r.inv0
    cases q
    simp only [hitsB, Option.some.injEq] at h
    subst h
    exact .nil
  | p :: ks, kv, va, b, r, q, h => by
    obtain ⟨p', r', rfl, e, hd, t⟩ := r.inv
    unfold KV at q
    cases q with
    | cons hq tq =>
      rename_i qh qt
      obtain ⟨key, v⟩ := qh
      have k1 : p'.1 = key := hq.1
      simp only [hitsB] at h
      have ro := rl.valO p.1
      have rb1 := rb.val p.1
      rw [← e, k1] at ro rb1 h
      cases e1 : gA key ls with
      | none =>
        rw [e1] at ro h
        cases h
        cases e2 : valV lv key with
        | some y => rw [e2] at ro; exact ro.elim
        | none =>
          rw [e2] at rb1
          cases e3 : valueAt vb key with
          | none => exact .miss e3
          | some z => rw [e3] at rb1; exact (show False from rb1).elim
      | some u =>
        rw [e1] at ro h
        simp only at h
        cases e4 : eqD R p.2 u with
        | none => simp [e4] at h
        | some ee =>
          cases e5 : hitsB R ls ks with
          | none => simp [e4, e5] at h
          | some bb =>
            simp only [e4, e5, Option.some.injEq] at h
            subst h
            cases e2 : valV lv key with
            | none => rw [e2] at ro; exact ro.elim
            | some y =>
              rw [e2] at ro rb1
              obtain ⟨yv, hy, ry⟩ := rb1.some_of
              exact .hit hy (eqD_at I W S hu e4 hd ro hq.2 ry) (hitsY I W S hu rl rb t tq e5)
theorem eqV1_hits (I : L2.Inv X pins σ H s) (W : WR X.K w H R) (S : SM s.heap) (hu : X.A.units + 65 < cLine) {x y : D} {vx vy : V} {u t : Value} {b : Bool} (h : eqV1 R x y = some b) (r1 : RelD X.K w vx x) (r2 : RelD X.K w vy y) (q1 : RelV vx u) (q2 : RelV vy t) :
    ∃ a c va vc r, u = .ref a ∧ t = .ref c ∧ (a == sysModules) = false ∧ (c == sysModules) = false ∧ s.heap.DictOf (mixKind X.prog X.w) a va ∧ s.heap.DictOf (mixKind X.prog X.w) c vc ∧ (va.length = vc.length → PySem.W.KeqHits X.A.in1 s vc va r) ∧ (va.length == vc.length && r) = b := by
  unfold eqV1 at h
  split at h
  · rename_i ks ls e1 e2
    obtain ⟨a, kv, rfl, h1, k1⟩ := dk_rel W r1 e1
    obtain ⟨c, lv, rfl, h2, k2⟩ := dk_rel W r2 e2
    cases q1; cases q2
    obtain ⟨_, ya, va, ra, da⟩ := dk_rd I.hok h1
    obtain ⟨_, yb, vb, rb, db⟩ := dk_rd I.hok h2
    have e1 : va.length = ks.length := by rw [← ra.length, k1.length]
    have e2 : vb.length = ls.length := by rw [← rb.length, k2.length]
    split at h
    · rename_i hl
      refine ⟨a, c, va, vb, b, rfl, rfl, ya, yb, da, db, fun _ => hitsY I W S (A := X.A.in1) (by show X.A.units + 1 + 64 < cLine; omega) k2 rb k1 ra h, by rw [e1, e2, hl]; simp⟩
    · rename_i hl
      cases h
      refine ⟨a, c, va, vb, true, rfl, rfl, ya, yb, da, db, fun z => absurd (e1.symm.trans (z.trans e2)) hl, ?_⟩
      have : ¬ va.length = vb.length := fun z => hl (e1.symm.trans (z.trans e2))
      simp [this]
  · cases h
end
section
variable {X : Cx} (hu : X.A.units + 65 < cLine) (S : SM X.base)
theorem SM.up {pins : List (Addr × Obj)} {σ : L2.St} {H : Hp} {s : Shared} (S : SM X.base) (I : L2.Inv X pins σ H s) : SM s.heap := by
  obtain ⟨o, es, ep, e, d⟩ := S
  exact ⟨o, es, ep, (I.bs _ _ e).1, d⟩
include hu S
theorem eqVal_eq {pins : List (Addr × Obj)} {σ : L2.St} {H : Hp} {s : Shared} {w : Wt} {R : Wd} (I : L2.Inv X pins σ H s) (W : WR X.K w H R) {x y : D} {vx vy : V} {u t : Value} {b : Bool} (h : eqVal R x y = some b) (r1 : RelD X.K w vx x) (r2 : RelD X.K w vy y) (q1 : RelV vx u) (q2 : RelV vy t)
    {Q : VK} (q : Q (.bl b) H) : wpAny (model X.prog X.w) X.A (compareOp .Eq u t) (EP X pins σ Q) X.xe s := by
  have dct : eqV1 R x y = some b → wpAny (model X.prog X.w) X.A (compareOp .Eq u t) (EP X pins σ Q) X.xe s := fun h => by
    obtain ⟨a, c, va, vc, r, rfl, rfl, y1, y2, d1, d2, hh, e⟩ := eqV1_hits I W (S.up I) hu h r1 r2 q1 q2
    exact PySem.W.keq_eq y1 y2 d1 d2 (by omega) hh (fin_bl I q e.symm)
  unfold eqVal at h
  split at h
  · rename_i a c e1 e2
    split at h
    · rename_i sh
      cases h
      obtain ⟨as, z1, _⟩ := reads_py I W (S.up I) 40 r1 q1 e1
      obtain ⟨bs, z2, _⟩ := reads_py I W (S.up I) 40 r2 q2 e2
      exact SeqAt.compareEq_shaped z1 z2 sh.1 sh.2 (by omega) ⟨.bl _, H, I, rfl, q⟩
    · exact dct h
  · exact dct h
theorem eqVal_ne {pins : List (Addr × Obj)} {σ : L2.St} {H : Hp} {s : Shared} {w : Wt} {R : Wd} (I : L2.Inv X pins σ H s) (W : WR X.K w H R) {x y : D} {vx vy : V} {u t : Value} {b : Bool} (h : eqVal R x y = some b) (r1 : RelD X.K w vx x) (r2 : RelD X.K w vy y) (q1 : RelV vx u) (q2 : RelV vy t)
    {Q : VK} (q : Q (.bl (!b)) H) : wpAny (model X.prog X.w) X.A (compareOp .NotEq u t) (EP X pins σ Q) X.xe s := by
  have dct : eqV1 R x y = some b → wpAny (model X.prog X.w) X.A (compareOp .NotEq u t) (EP X pins σ Q) X.xe s := fun h => by
    obtain ⟨a, c, va, vc, r, rfl, rfl, y1, y2, d1, d2, hh, e⟩ := eqV1_hits I W (S.up I) hu h r1 r2 q1 q2
    exact PySem.W.keq_ne y1 y2 d1 d2 (by omega) hh (fin_bl I q (by rw [e]))
  unfold eqVal at h
  split at h
  · rename_i a c e1 e2
    split at h
    · rename_i sh
      cases h
      obtain ⟨as, z1, _⟩ := reads_py I W (S.up I) 40 r1 q1 e1
      obtain ⟨bs, z2, _⟩ := reads_py I W (S.up I) 40 r2 q2 e2
      exact SeqAt.compareNe_shaped z1 z2 sh.1 sh.2 (by omega) ⟨.bl _, H, I, rfl, q⟩
    · exact dct h
  · exact dct h
theorem od_eq : OpD X (compareOp .Eq) gEq := by
  intro pins s σ H x y v u Q I rx ry h
  obtain ⟨w, R, x', y', z, W, r1, r2, e, q⟩ := h
  unfold gEq at e
  split at e
  · cases e; cases r1; cases r2
    exact op_eq pins s σ H _ _ v u Q I rx ry ⟨rfl, by simp only [V.int.injEq]; exact q.now W (.bl _)⟩
  · cases e; cases r1; cases r2
    exact op_eq pins s σ H _ _ v u Q I rx ry ⟨rfl, by simp only [V.str.injEq]; exact q.now W (.bl _)⟩
  · cases e; cases r1; cases r2
    exact op_eq pins s σ H _ _ v u Q I rx ry ⟨rfl, by rw [show (decide (V.bl _ = V.bl _)) = _ from dec_bl]; exact q.now W (.bl _)⟩
  · obtain ⟨b, e1, e2⟩ := Option.map_eq_some_iff.mp e
    subst e2
    exact eqVal_eq hu S I W e1 r1 r2 rx ry (q.now W (.bl _))
theorem od_ne : OpD X (compareOp .NotEq) gNe := by
  intro pins s σ H x y v u Q I rx ry h
  obtain ⟨w, R, x', y', z, W, r1, r2, e, q⟩ := h
  unfold gNe at e
  split at e
  · cases e; cases r1; cases r2
    exact op_ne pins s σ H _ _ v u Q I rx ry ⟨rfl, by simp only [V.int.injEq]; exact q.now W (.bl _)⟩
  · cases e; cases r1; cases r2
    exact op_ne pins s σ H _ _ v u Q I rx ry ⟨rfl, by simp only [V.str.injEq]; exact q.now W (.bl _)⟩
  · cases e; cases r1; cases r2
    exact op_ne pins s σ H _ _ v u Q I rx ry ⟨rfl, by rw [show (decide (V.bl _ = V.bl _)) = _ from dec_bl]; exact q.now W (.bl _)⟩
  · obtain ⟨b, e1, e2⟩ := Option.map_eq_some_iff.mp e
    subst e2
    exact eqVal_ne hu S I W e1 r1 r2 rx ry (q.now W (.bl _))
end
end Y
end
end
section
set_option Elab.async false
set_option linter.all false
set_option maxRecDepth 100000
set_option maxHeartbeats 4000000
noncomputable section
namespace Y
open PySem PySem.Spec PyProof.Rows L2
open Classical

/-! ### in -/
def flat : D → Bool
  | .non => true | .bl _ => true | .int _ => true | .str _ => true
  | _ => false
def eqF : D → D → Bool
  | .non, .non => true
  | .bl a, .bl b => a == b
  | .bl a, .int b => (if a then 1 else 0) == b
  | .int a, .bl b => a == (if b then 1 else 0)
  | .int a, .int b => a == b
  | .str a, .str b => a == b
  | _, _ => false
def seqOf (R : Wd) (y : D) : Option (List D) := match y with
  | .tup xs => some xs
  | y => lstR R y
def inS (R : Wd) (x : D) (ys : List D) : Option Bool := if flat x = true ∧ ys.all flat = true then some (ys.any fun y => eqF y x) else
  match py 40 R x, pyL (py 40 R) ys with
  | some a, some bs => if SeqAt.shaped a = true ∧ SeqAt.shaped (.list bs) = true then some (bs.any fun z => PyData.eqv z a) else none
  | _, _ => none
def inY (R : Wd) (x y : D) : Option Bool := match x, y with
  | .str a, .str z => match a.cps.toList with
    | [c] => some (decide (c ∈ z.cps.toList))
    | _ => none
  | x, y => match dGetY R y x with
    | some o => some o.isSome
    | none => match seqOf R y with
      | some ys => inS R x ys
      | none => none
def gIn (R : Wd) (x y : D) : Option D := (inY R x y).map .bl
def gNin (R : Wd) (x y : D) : Option D := (inY R x y).map fun b => .bl (!b)
section
variable {X : Cx} {pins : List (Addr × Obj)} {σ : L2.St} {H : Hp} {s : Shared} {w : Wt} {R : Wd}
theorem flat_v {v : V} {x : D} (f : flat x = true) (r : RelD X.K w v x) : flatV v = true := by
  cases r <;> first | rfl | (simp [flat] at f)
theorem flat_vs : ∀ {vs : List V} {xs : List D}, xs.all flat = true → RelDs X.K w vs xs → vs.all flatV = true
  | _, [], _, r => by cases r; rfl
  | _, x :: xs, f, r => by
    cases r with
    | cons a b =>
      simp only [List.all_cons, Bool.and_eq_true] at f ⊢
      exact ⟨flat_v f.1 a, flat_vs f.2 b⟩
theorem eqF_v {v u : V} {x y : D} (f : flat x = true) (g : flat y = true) (r : RelD X.K w v x) (t : RelD X.K w u y) : eqV v u = eqF x y := by
  cases r <;> cases t <;> first | rfl | (simp [flat] at f; done) | (simp [flat] at g; done)
theorem inV_D {u : V} {y : D} (g : flat y = true) (t : RelD X.K w u y) : ∀ {vs : List V} {xs : List D}, xs.all flat = true → RelDs X.K w vs xs → inV u vs = xs.any fun z => eqF z y
  | _, [], _, r => by cases r; rfl
  | _, x :: xs, f, r => by
    cases r with
    | cons a b =>
      simp only [List.all_cons, Bool.and_eq_true] at f
      have ih := inV_D g t f.2 b
      unfold inV at ih ⊢
      rw [List.any_cons, List.any_cons, ih, eqF_v f.1 g a t]
theorem seqOf_rel (W : WR X.K w H R) {v : V} {y : D} (r : RelD X.K w v y) {ys : List D} (e : seqOf R y = some ys) : ∃ a vs, v = .ref a ∧ (SqL X.K H a vs ∨ SqT X.K H a vs) ∧ RelDs X.K w vs ys := by
  have go : lstR R y = some ys → ∃ a vs, v = .ref a ∧ (SqL X.K H a vs ∨ SqT X.K H a vs) ∧ RelDs X.K w vs ys := fun e => by
    obtain ⟨a, vs, h1, h2, h3⟩ := lstR_rel W r e
    exact ⟨a, vs, h1, .inl h2, h3⟩
  cases y with
  | tup zs =>
    simp only [seqOf, Option.some.injEq] at e
    subst e
    cases r with | tup h1 h2 => exact ⟨_, _, rfl, .inr (.of (W.sub _ _ h1)), h2⟩
  | _ => exact go e
theorem inY_run (hu : X.A.units + 65 < cLine) (S : SM X.base) (neg : Bool) (I : L2.Inv X pins σ H s) (W : WR X.K w H R) {x y : D} {vx vy : V} {u t : Value} {b : Bool} (h : inY R x y = some b) (r1 : RelD X.K w vx x) (r2 : RelD X.K w vy y) (q1 : RelV vx u) (q2 : RelV vy t)
    {Q : VK} (q : Q (.bl (if neg then !b else b)) H) : wpAny (model X.prog X.w) X.A (compareOp (if neg then .NotIn else .In) u t) (EP X pins σ Q) X.xe s := by
  have sq : ∀ {ys : List D}, seqOf R y = some ys → inS R x ys = some b → wpAny (model X.prog X.w) X.A (compareOp (if neg then .NotIn else .In) u t) (EP X pins σ Q) X.xe s := fun {ys} e h => by
    obtain ⟨a, vs, rfl, h1, k1⟩ := seqOf_rel W r2 e
    unfold inS at h
    split at h
    · rename_i c
      cases h
      cases neg with
      | false => exact op_in_seq pins s σ H vx (.ref a) u t Q I q1 q2 ⟨a, vs, rfl, h1, flat_v c.1 r1, flat_vs c.2 k1, by rw [inV_D c.1 r1 c.2 k1]; exact q⟩
      | true => exact op_notIn_seq pins s σ H vx (.ref a) u t Q I q1 q2 ⟨a, vs, rfl, h1, flat_v c.1 r1, flat_vs c.2 k1, by rw [inV_D c.1 r1 c.2 k1]; exact q⟩
    · split at h
      · rename_i d ds e1 e2
        split at h
        · rename_i sh
          cases h
          obtain ⟨as, z1, _⟩ := reads_py I W (S.up I) 40 r1 q1 e1
          cases q2
          have hd := SeqAt.canLay_of_shaped sh.1
          have hxs : PyData.canLayAll0 ds = true := SeqAt.canLay_of_shaped sh.2
          rcases h1 with h1 | h1
          · obtain ⟨its, rv, ⟨o, m, ho, hc, _, hdt⟩, _⟩ := I.list h1
            obtain ⟨bs, z2, _⟩ := readsAll_of (fun v d u p r rv e => reads_py I W (S.up I) 40 r rv e) k1 rv e2
            have z3 := Reads.list ho hc hdt (by simpa using z2)
            cases neg with
            | false => exact SeqAt.in_list_reads z3 z1 hxs hd (room_in_shaped sh.1 hu) ⟨.bl _, H, I, rfl, q⟩
            | true => exact SeqAt.notIn_list_reads z3 z1 hxs hd (room_in_shaped sh.1 hu) ⟨.bl _, H, I, rfl, q⟩
          · obtain ⟨its, rv, ⟨o, ho, hc, m, hdt⟩, _⟩ := I.tuple h1
            obtain ⟨bs, z2, _⟩ := readsAll_of (fun v d u p r rv e => reads_py I W (S.up I) 40 r rv e) k1 rv e2
            have z3 := Reads.tuple ho hc hdt (by simpa using z2)
            cases neg with
            | false => exact SeqAt.in_tuple_reads z3 z1 hxs hd (room_in_shaped sh.1 hu) ⟨.bl _, H, I, rfl, q⟩
            | true => exact SeqAt.notIn_tuple_reads z3 z1 hxs hd (room_in_shaped sh.1 hu) ⟨.bl _, H, I, rfl, q⟩
        · cases h
      · cases h
  have rest : (match dGetY R y x with
    | some o => some o.isSome
    | none => match seqOf R y with
      | some ys => inS R x ys
      | none => none) = some b → wpAny (model X.prog X.w) X.A (compareOp (if neg then .NotIn else .In) u t) (EP X pins σ Q) X.xe s := fun h => by
    cases e : dGetY R y x with
    | some o =>
      rw [e] at h
      cases h
      obtain ⟨a, r, rfl, g, ro⟩ := dget_rel W r2 r1 e
      cases q2
      have eb : r.isSome = o.isSome := by
        cases r <;> cases o <;> first | rfl | exact ro.elim
      cases neg with
      | false => exact d_in (by omega) I g q1 fun s2 I2 => ⟨.bl _, H, I2, by rw [eb]; rfl, q⟩
      | true => exact d_notIn (by omega) I g q1 fun s2 I2 => ⟨.bl _, H, I2, by rw [eb]; rfl, q⟩
    | none =>
      rw [e] at h
      cases e2 : seqOf R y with
      | none => rw [e2] at h; cases h
      | some ys => rw [e2] at h; exact sq e2 h
  unfold inY at h
  split at h
  · rename_i a z
    cases r1; cases r2
    split at h
    · rename_i c hc
      cases h
      have ea : a = ⟨#[c]⟩ := by
        apply Str.ext'
        apply Array.toList_inj.mp
        exact hc
      subst ea
      cases neg with
      | false => exact op_in_sign pins s σ H _ _ u t Q I q1 q2 ⟨c, z, rfl, rfl, q⟩
      | true => exact op_notIn_sign pins s σ H _ _ u t Q I q1 q2 ⟨c, z, rfl, rfl, q⟩
    · cases h
  · exact rest h
end
section
variable {X : Cx} (hu : X.A.units + 65 < cLine) (S : SM X.base)
include hu S
theorem od_in : OpD X (compareOp .In) gIn := by
  intro pins s σ H x y v u Q I rx ry h
  obtain ⟨w, R, x', y', z, W, r1, r2, e, q⟩ := h
  obtain ⟨b, e1, e2⟩ := Option.map_eq_some_iff.mp e
  subst e2
  exact inY_run hu S false I W e1 r1 r2 rx ry (q.now W (.bl _))
theorem od_nin : OpD X (compareOp .NotIn) gNin := by
  intro pins s σ H x y v u Q I rx ry h
  obtain ⟨w, R, x', y', z, W, r1, r2, e, q⟩ := h
  obtain ⟨b, e1, e2⟩ := Option.map_eq_some_iff.mp e
  subst e2
  exact inY_run hu S true I W e1 r1 r2 rx ry (q.now W (.bl _))
end

/-! ### is -/
def isY : D → D → Option Bool
  | .non, .non => some true
  | .ref _, .non => some false
  | .str _, .non => some false
  | .int _, .non => some false
  | .bl _, .non => some false
  | .lst _, .non => some false
  | .tup _, .non => some false
  | .dic _, .non => some false
  | .dct _, .non => some false
  | .sub _ _, .non => some false
  | .obj _, .non => some false
  | .bl a, .bl b => some (a == b)
  | _, _ => none
def gIs (_ : Wd) (x y : D) : Option D := (isY x y).map .bl
def gNis (_ : Wd) (x y : D) : Option D := (isY x y).map fun b => .bl (!b)
section
variable {X : Cx}
theorem isY_non {K : PySem.W.Frag} {w : Wt} {x : D} {v : V} {b : Bool} (h : isY x .non = some b) (r : RelD K w v x) : decide (v = .non) = b := by
  cases r <;> simp only [isY, Option.some.injEq, reduceCtorEq] at h <;> subst h <;> simp
theorem isY_cases {x y : D} {b : Bool} (h : isY x y = some b) : y = .non ∨ ∃ c d, x = .bl c ∧ y = .bl d ∧ b = (c == d) := by
  unfold isY at h
  split at h <;> first | exact .inl rfl | (cases h; exact .inr ⟨_, _, rfl, rfl, rfl⟩) | cases h
theorem od_is : OpD X (compareOp .Is) gIs := by
  intro pins s σ H x y v u Q I rx ry h
  obtain ⟨w, R, x', y', z, W, r1, r2, e, q⟩ := h
  obtain ⟨b, e1, e2⟩ := Option.map_eq_some_iff.mp e
  subst e2
  rcases isY_cases e1 with rfl | ⟨c, d, rfl, rfl, rfl⟩
  · cases r2
    exact op_isN pins s σ H _ _ v u Q I rx ry ⟨rfl, by rw [isY_non e1 r1]; exact q.now W (.bl _)⟩
  · cases r1; cases r2
    exact op_is_bl pins s σ H _ _ v u Q I rx ry ⟨_, _, rfl, rfl, by rw [show (decide (c = d)) = (c == d) from (by cases c <;> cases d <;> rfl)]; exact q.now W (.bl _)⟩
theorem od_nis : OpD X (compareOp .IsNot) gNis := by
  intro pins s σ H x y v u Q I rx ry h
  obtain ⟨w, R, x', y', z, W, r1, r2, e, q⟩ := h
  obtain ⟨b, e1, e2⟩ := Option.map_eq_some_iff.mp e
  subst e2
  rcases isY_cases e1 with rfl | ⟨c, d, rfl, rfl, rfl⟩
  · cases r2
    exact op_notN pins s σ H _ _ v u Q I rx ry ⟨rfl, by rw [isY_non e1 r1]; exact q.now W (.bl _)⟩
  · cases r1; cases r2
    exact op_isnot_bl pins s σ H _ _ v u Q I rx ry ⟨_, _, rfl, rfl, by rw [show (!decide (c = d)) = !(c == d) from (by cases c <;> cases d <;> rfl)]; exact q.now W (.bl _)⟩
end

/-! ### indices -/
def ixL {α : Type} (xs : List α) (i : Int) : Option α := if 0 ≤ i then xs[i.toNat]? else if 0 ≤ i + xs.length then xs[(i + xs.length).toNat]? else none
def ixS (R : Wd) (x : D) : D → Option D
  | .int i => (seqOf R x).bind fun xs => ixL xs i
  | _ => none
def ixD (R : Wd) (x y : D) : Option D := match dGetY R x y with
  | some o => o
  | none => ixS R x y
def ixY (R : Wd) (x y : D) : Option D := match x, y with
  | .str z, .int i => if z.length ≤ sizeLine then (ixL z.cps.toList i).map fun c => .str ⟨#[c]⟩ else none
  | x, y => ixD R x y
def gIx (R : Wd) (x y : D) : Option D := (ixY R x y).map (zv R)
theorem ixN_of {α : Type} {xs : List α} {i : Int} {d : α} (e : ixL xs i = some d) : atI xs i = some d := by
  unfold ixL at e
  unfold atI ixN
  by_cases h0 : 0 ≤ i
  · rw [if_pos h0] at e ⊢
    have hl : i.toNat < xs.length := by
      by_cases c : i.toNat < xs.length
      · exact c
      · rw [List.getElem?_eq_none (by omega)] at e; cases e
    rw [if_pos (by omega)]
    exact e
  · rw [if_neg h0] at e ⊢
    by_cases h1 : 0 ≤ i + xs.length
    · rw [if_pos h1] at e
      rw [if_pos (by omega)]
      simp only [Option.bind_some]
      first
        | exact e
        | (rw [← e]; congr 1; omega)
    · rw [if_neg h1] at e; cases e
theorem ixL_rel {K : PySem.W.Frag} {w : Wt} {vs : List V} {ds : List D} (h : RelDs K w vs ds) {i : Int} {d : D} (e : ixL ds i = some d) : ∃ v, ixL vs i = some v ∧ RelD K w v d := by
  unfold ixL at e ⊢
  rw [h.length]
  split at e
  · obtain ⟨v, a, b⟩ := h.get e; rename_i c; exact ⟨v, by rw [if_pos c]; exact a, b⟩
  · split at e
    · rename_i c1 c; obtain ⟨v, a, b⟩ := h.get e; exact ⟨v, by rw [if_neg c1, if_pos c]; exact a, b⟩
    · cases e
section
variable {X : Cx}
theorem id_ix (hu : X.A.units + 65 < cLine) : IxD X gIx := by
  intro value slice pins s σ H x y v u Q I rx ry h hs
  obtain ⟨w, R, x', y', z, W, r1, r2, e, q⟩ := h
  obtain ⟨d, e1, e2⟩ := Option.map_eq_some_iff.mp e
  subst e2
  have rest : ixD R x' y' = some d → wpAny (model X.prog X.w) X.A (subscriptTail value slice v u) (EP X pins σ Q) X.xe s := fun h => by
    unfold ixD at h
    cases e3 : dGetY R x' y' with
    | some o =>
      rw [e3] at h
      have h : o = some d := h
      subst h
      obtain ⟨a, r, rfl, g, ro⟩ := dget_rel W r1 r2 e3
      cases rx
      cases r with
      | none => exact ro.elim
      | some r =>
        have hT := dict_typeIs I g
        exact tail_any hT PySem.F.slot_dict_getitem.lookup (d_getItem (by omega) I g ry fun w' s2 I2 rr => ⟨r, H, I2, rr, q.now W (zv_rel W ro)⟩) hs
    | none =>
      rw [e3] at h
      have h : ixS R x' y' = some d := h
      cases y' with
      | int i =>
        obtain ⟨xs, e4, h⟩ := Option.bind_eq_some_iff.mp h
        obtain ⟨a, vs, rfl, h1, k1⟩ := seqOf_rel W r1 e4
        cases r2
        obtain ⟨r, e5, rr⟩ := ixL_rel k1 h
        refine ix_seq value slice pins s σ H _ _ v u Q I rx ry ?_ hs
        rcases h1 with h1 | h1
        · exact .inl ⟨_, _, _, _, rfl, rfl, h1, ixN_of e5, q.now W (zv_rel W rr)⟩
        · exact .inr (.inl ⟨_, _, _, _, rfl, rfl, h1, ixN_of e5, q.now W (zv_rel W rr)⟩)
      | _ => cases h
  unfold ixY at e1
  split at e1
  · split at e1
    · rename_i z i c
      obtain ⟨c', e5, e6⟩ := Option.map_eq_some_iff.mp e1
      subst e6
      cases r1; cases r2
      exact ix_seq value slice pins s σ H _ _ v u Q I rx ry (.inr (.inr ⟨_, _, _, rfl, rfl, c, ixN_of e5, q.now W (.str _)⟩)) hs
    · cases e1
  · exact rest e1
end
end Y
end
end
section
set_option Elab.async false
set_option linter.all false
set_option maxRecDepth 100000
set_option maxHeartbeats 4000000
noncomputable section
namespace Y
open PySem PySem.Spec PyProof.Rows L2
open Classical

/-! ### slices -/
def cutY {α : Type} (xs : List α) (lo hi : Option Int) : List α := (xs.drop (HT.sIx xs.length 0 lo)).take (HT.sIx xs.length xs.length hi - HT.sIx xs.length 0 lo)
theorem cutY_rel {K : PySem.W.Frag} {w : Wt} {vs : List V} {ds : List D} (h : RelDs K w vs ds) (lo hi : Option Int) : RelDs K w (cutV vs lo hi) (cutY ds lo hi) := by
  unfold cutV cutY
  rw [h.length]
  have dr : ∀ (n : Nat) {vs : List V} {ds : List D}, RelDs K w vs ds → RelDs K w (vs.drop n) (ds.drop n) := by
    intro n
    induction n with
    | zero => intro vs ds h; exact h
    | succ n ih =>
      intro vs ds h
      cases ds with
      | nil => cases h; exact .nil
      | cons d ds => cases h with | cons a b => exact ih b
  have tk : ∀ (n : Nat) {vs : List V} {ds : List D}, RelDs K w vs ds → RelDs K w (vs.take n) (ds.take n) := by
    intro n
    induction n with
    | zero => intro vs ds h; exact .nil
    | succ n ih =>
      intro vs ds h
      cases ds with
      | nil => cases h; exact .nil
      | cons d ds => cases h with | cons a b => exact .cons a (ih b)
  exact tk _ (dr _ h)
def gSl (R : Wd) (x : D) (lo hi : Option Int) : Option D := match x with
  | .str z => if z.length ≤ sizeLine then some (.str (cutS z lo hi)) else none
  | .tup xs => some (.tup (cutY xs lo hi))
  | x => (lstR R x).map fun xs => .lst (cutY xs lo hi)
def gSlL (R : Wd) (x : D) (lo hi : Option Int) : Option (List D) := (lstR R x).map fun xs => cutY xs lo hi
def dPart : Option DE → Rho → Wd → Rs (Option Int)
  | none => fun _ R => .ok none R
  | some d => fun ρ R => (d ρ R).bind fun x R1 => match x with
    | .int i => .ok (some i) R1
    | _ => .stuck
def dSlice {α : Type} (g : Wd → D → Option Int → Option Int → Option α) (e : DE) (lo hi : Option DE) : Rho → Wd → Rs α := fun ρ R => (e ρ R).bind fun x R1 => (dPart lo ρ R1).bind fun l R2 => (dPart hi ρ R2).bind fun u R3 => match g R3 x l u with
  | some z => .ok z R3
  | none => .stuck
def rdO (K : PySem.W.Frag) (W : WX) (d : Rho → Wd → Rs (Option Int)) : TO := fun σ H Q => ∃ w ρ R, At K w σ H ρ R ∧ Post K W w H σ (d ρ R) fun o R' => ∀ w' H', Stp w H w' H' → WR K w' H' R' → Q o H'
abbrev PD (X : Cx) (W : WX) (e : Option Expr) (d : Option DE) : Prop := PO X e (rdO X.K W (dPart d))
section
variable {X : Cx} {W : WX} {e : Expr} {d : DE} {lo hi : Option Expr} {dl dh : Option DE} {p2 pos : Pos}
theorem pd_none : PD X W none none := by
  refine ⟨fun pins s σ H Q I h => po_none.run pins s σ H Q I ?_⟩
  obtain ⟨w, ρ, R, A, p⟩ := h
  exact (show ∀ w' H', Stp w H w' H' → WR X.K w' H' R → Q none H' from p) w H .refl A.W
theorem pd_some (h : ED X W e d) : PD X W (some e) (some d) := by
  refine ⟨fun pins s σ H Q I q => (po_some h).run pins s σ H Q I ?_⟩
  obtain ⟨w, ρ, R, A, p⟩ := q
  refine ⟨w, ρ, R, A, (Post.bind p).imp fun x R1 p1 v w1 H1 l1 W1 r1 => ?_⟩
  cases x with
  | int i => cases r1; exact ⟨i, rfl, (show ∀ w' H', Stp w H w' H' → WR X.K w' H' R1 → Q (some i) H' from p1) w1 H1 l1 W1⟩
  | _ => exact p1.elim
theorem sl_run {α : Type} {g : Wd → D → Option Int → Option Int → Option α} {r : V → Option Int → Option Int → Hp → VK → Prop} {P : Wt → Hp → α → Wd → VK → Prop} (hr : L2.SlR X r) (pm : ∀ {w w' : Wt} {H H' : Hp} {R : Wd} {z : α} {Q : VK}, Stp w H w' H' → WR X.K w' H' R → P w H z R Q → P w' H' z R Q)
    (i : ∀ (w : Wt) (H : Hp) (R : Wd) (v : V) (x : D) (l u : Option Int) (z : α) (Q : VK), WR X.K w H R → RelD X.K w v x → g R x l u = some z → P w H z R Q → r v l u H Q)
    (he : ED X W e d) (hl : PD X W lo dl) (hh : PD X W hi dh) : PE X (.Subscript e (.Slice lo hi none p2) pos) (fun σ H Q => ∃ w ρ R, At X.K w σ H ρ R ∧ Post X.K W w H σ (dSlice g d dl dh ρ R) fun z R' => P w H z R' Q) := by
  refine PEimp (pe_slice hr he hl hh) fun σ H Q h => ?_
  obtain ⟨w, ρ, R, A, p⟩ := h
  refine ⟨w, ρ, R, A, p.bind.imp fun x R1 p1 v w1 H1 l1 W1 r1 => ?_⟩
  refine ⟨w1, ρ, R1, A.step l1 W1, (Post.bind p1).mono l1 fun l R2 p2 w2 H2 l2 W2 => ?_⟩
  refine ⟨w2, ρ, R2, (A.step l1 W1).step l2 W2, (Post.bind p2).mono (l1.trans l2) fun u R3 p3 w3 H3 l3 W3 => ?_⟩
  cases ez : g R3 x l u with
  | none => rw [ez] at p3; exact p3.elim
  | some z =>
    rw [ez] at p3
    have p3 : P w H z R3 Q := p3
    exact i w3 H3 R3 v x l u z Q W3 ((r1.mono l2.le).mono l3.le) ez (pm ((l1.trans l2).trans l3) W3 p3)
theorem ed_slice (he : ED X W e d) (hl : PD X W lo dl) (hh : PD X W hi dh) : ED X W (.Subscript e (.Slice lo hi none p2) pos) (dSlice gSl d dl dh) := by
  refine sl_run (P := fun w H z R Q => Ret X.K w H R z Q) (sl_list.or (sl_tupA.or sl_str)) (fun l _ h => Ret.mono l h) (fun w H R v x l u z Q W r e q => ?_) he hl hh
  have li : (lstR R x).map (fun xs => D.lst (cutY xs l u)) = some z → (rSlL X.K v l u H Q ∨ rSlA X.K v l u H Q ∨ rSlS v l u H Q) := fun e => by
    obtain ⟨xs, e1, e2⟩ := Option.map_eq_some_iff.mp e
    subst e2
    obtain ⟨a, vs, rfl, h1, k1⟩ := lstR_rel W r e1
    exact .inl ⟨a, vs, rfl, h1, fun p hp => q.newL W hp (cutY_rel k1 l u)⟩
  cases x with
  | str s =>
    cases r
    simp only [gSl] at e
    split at e
    · cases e; rename_i c; exact .inr (.inr ⟨_, rfl, c, q.now W (.str _)⟩)
    · cases e
  | tup xs =>
    simp only [gSl, Option.some.injEq] at e
    subst e
    cases r with
    | tup h1 h2 =>
      rename_i a vs
      refine .inr (.inl ⟨a, vs, rfl, .of (W.sub _ _ h1), fun c => ?_, fun c p hp => q.newT W hp (cutY_rel h2 l u)⟩)
      have : cutY xs l u = xs := by
        unfold cutY
        rw [h2.length] at c
        rw [c.1, c.2]
        simp
      rw [this] at q
      exact q.now W (.tup h1 h2)
  | _ => exact li e
theorem fl_slice (he : ED X W e d) (hl : PD X W lo dl) (hh : PD X W hi dh) : FL X W (.Subscript e (.Slice lo hi none p2) pos) (dSlice gSlL d dl dh) := by
  refine sl_run (P := fun w H z R Q => RetF X.K w H R z Q) sl_list (fun l W h => h.mono l W) (fun w H R v x l u z Q W r e q => ?_) he hl hh
  obtain ⟨xs, e1, e2⟩ := Option.map_eq_some_iff.mp e
  subst e2
  obtain ⟨a, vs, rfl, h1, k1⟩ := lstR_rel W r e1
  exact ⟨a, vs, rfl, h1, fun p hp => q.new W hp (cutY_rel k1 l u)⟩
end

/-! ### o[i] = v -/
def gSet (R : Wd) (x y z : D) : Option Wd := match x with
  | .ref i => match R[i]?, y with
    | some (.lst xs), .int k => (ixN xs.length k).map fun j => R.set i (.lst (xs.set j z))
    | some (.dK kvs), y => match keyOf y with
      | some k => if kvs.length < sizeLine then some (R.set i (.dK (pA k z kvs))) else none
      | none => none
    | some (.dT kvs), .tup ds => match keysOf ds with
      | some k => if kvs.length < sizeLine then some (R.set i (.dT (pA k z kvs))) else none
      | none => none
    | _, _ => none
  | _ => none
section
variable {K : PySem.W.Frag} {w : Wt} {H : Hp} {R : Wd}
theorem Stp.own (W : WR K w H R) {i : Nat} {a : Addr} {o : HO} (m : w.m i = some a) : Stp w H w (upd H a o) :=
  ⟨.refl w, fun b u h1 h2 => ⟨(upd_ne (fun z => h2.2.1 i (by rw [z]; exact m))).trans h1, h2⟩⟩
theorem lst_cell (W : WR K w H R) {i : Nat} {xs : List D} (e : R[i]? = some (.lst xs)) {v : V} (r : RelD K w v (.ref i)) : ∃ a vs, v = .ref a ∧ w.m i = some a ∧ H a = some (.lst vs) ∧ RelDs K w vs xs ∧
    ∀ vs' xs', RelDs K w vs' xs' → WR K w (upd H a (.lst vs')) (R.set i (.lst xs')) ∧ Stp w H w (upd H a (.lst vs')) := by
  obtain ⟨a, vs, h1, h2, h3, h4⟩ := W.cell i _ e
  cases r with
  | ref m =>
    rw [m] at h1; cases h1
    have hi : i < R.length := by
      by_cases c : i < R.length
      · exact c
      · rw [List.getElem?_eq_none (by omega)] at e; cases e
    exact ⟨a, vs, rfl, m, h3, h4, fun vs' xs' rr => ⟨W.write hi (.inl m) h2 ⟨a, vs', m, h2, upd_same, rr⟩, Stp.own W m⟩⟩
theorem dk_cell (W : WR K w H R) {i : Nat} {xs : List (Key × D)} (e : R[i]? = some (.dK xs)) {v : V} (r : RelD K w v (.ref i)) : ∃ a kv, v = .ref a ∧ w.m i = some a ∧ H a = some (.dK kv) ∧ RelK K w kv xs ∧
    ∀ kv' xs', RelK K w kv' xs' → WR K w (upd H a (.dK kv')) (R.set i (.dK xs')) ∧ Stp w H w (upd H a (.dK kv')) := by
  obtain ⟨h0, a, vs, h1, h2, h3, h4⟩ := W.cell i _ e
  cases r with
  | ref m =>
    rw [m] at h1; cases h1
    have hi : i < R.length := by
      by_cases c : i < R.length
      · exact c
      · rw [List.getElem?_eq_none (by omega)] at e; cases e
    exact ⟨a, vs, rfl, m, h3, h4, fun vs' xs' rr => ⟨W.write hi (.inl m) h2 ⟨h0, a, vs', m, h2, upd_same, rr⟩, Stp.own W m⟩⟩
theorem dt_cell (W : WR K w H R) {i : Nat} {xs : List (List Key × D)} (e : R[i]? = some (.dT xs)) {v : V} (r : RelD K w v (.ref i)) : ∃ a kv, v = .ref a ∧ w.m i = some a ∧ H a = some (.dT kv) ∧ RelK K w kv xs ∧
    ∀ kv' xs', RelK K w kv' xs' → WR K w (upd H a (.dT kv')) (R.set i (.dT xs')) ∧ Stp w H w (upd H a (.dT kv')) := by
  obtain ⟨h0, a, vs, h1, h2, h3, h4⟩ := W.cell i _ e
  cases r with
  | ref m =>
    rw [m] at h1; cases h1
    have hi : i < R.length := by
      by_cases c : i < R.length
      · exact c
      · rw [List.getElem?_eq_none (by omega)] at e; cases e
    exact ⟨a, vs, rfl, m, h3, h4, fun vs' xs' rr => ⟨W.write hi (.inl m) h2 ⟨h0, a, vs', m, h2, upd_same, rr⟩, Stp.own W m⟩⟩
theorem dk_nodup {X : Cx} {pins : List (Addr × Obj)} {σ : L2.St} {s : Shared} (I : L2.Inv X pins σ H s) {a : Addr} {kv : List (Key × V)} (h : H a = some (.dK kv)) {xs : List (Key × D)} (r : RelK K w kv xs) : (xs.map (·.1)).Nodup := by
  obtain ⟨_, _, us, rk, _, _, _, _, _, _, _, _, nd⟩ := dk_of I.hok h
  rw [← r.1, rk.keys]; exact nd
theorem kt_fst {H : Hp} {kv : List (List Key × V)} {us : List (List Key × Addr × Value)} (h : KT H kv us) : kv.map (·.1) = us.map (·.1) := by
  unfold KT at h
  induction h with
  | nil => rfl
  | cons q _ ih => simp [q.1, ih]
theorem dt_nodup {X : Cx} {pins : List (Addr × Obj)} {σ : L2.St} {s : Shared} (I : L2.Inv X pins σ H s) {a : Addr} {kv : List (List Key × V)} (h : H a = some (.dT kv)) {xs : List (List Key × D)} (r : RelK K w kv xs) : (xs.map (·.1)).Nodup := by
  obtain ⟨_, _, us, rk, _, _, _, _, _, _, _, _, nd⟩ := dt_of I.hok h
  rw [← r.1, kt_fst rk]; exact nd
theorem set_cell {X : Cx} (hu : X.A.units + 65 < cLine) : PSet X fun o i v H Q => ∃ w R x y z R', WR X.K w H R ∧ RelD X.K w o x ∧ RelD X.K w i y ∧ RelD X.K w v z ∧ gSet R x y z = some R' ∧ ∀ w' H', Stp w H w' H' → WR X.K w' H' R' → Q H' := by
  intro pins s σ H o i v ov iv u Q I ro ri rv h
  obtain ⟨w, R, x, y, z, R', W, r1, r2, r3, e, q⟩ := h
  unfold gSet at e
  split at e
  · rename_i j
    split at e
    · rename_i xs k e1
      obtain ⟨j', e2, e3⟩ := Option.map_eq_some_iff.mp e
      subst e3
      cases r2
      obtain ⟨a, vs, rfl, m, h1, h2, wr⟩ := lst_cell W e1 r1
      obtain ⟨n1, n2⟩ := wr (vs.set j' v) (xs.set j' z) (h2.set j' r3)
      exact set_list pins s σ H _ _ v ov iv u Q I ro ri rv ⟨a, vs, k, j', rfl, rfl, h1, by rw [h2.length]; exact e2, q w _ n2 n1⟩
    · rename_i kvs e1
      split at e
      · rename_i k ek
        split at e
        · rename_i hl
          cases e
          obtain ⟨a, kv, rfl, m, h1, h2, wr⟩ := dk_cell W e1 r1
          obtain ⟨n1, n2⟩ := wr (putK kv k v) (pA k z kvs) (h2.put k r3 (dk_nodup I h1 h2))
          exact set_dict (by omega) pins s σ H _ i v ov iv u Q I ro ri rv ⟨a, _, rfl, .inl ⟨kv, k, h1, keyOf_rel r2 ek, by rw [h2.length]; exact hl, rfl⟩, q w _ n2 n1⟩
        · cases e
      · cases e
    · rename_i kvs ds e1
      split at e
      · rename_i k ek
        split at e
        · rename_i hl
          cases e
          obtain ⟨a, kv, rfl, m, h1, h2, wr⟩ := dt_cell W e1 r1
          obtain ⟨n1, n2⟩ := wr (putK kv k v) (pA k z kvs) (h2.put k r3 (dt_nodup I h1 h2))
          cases r2 with
          | tup h3 h4 =>
            exact set_dict (by omega) pins s σ H _ _ v ov iv u Q I ro ri rv ⟨a, _, rfl, .inr ⟨kv, k, _, h1, rfl, by rw [← keysOf_rel h4 ek]; exact W.sub _ _ h3, by rw [h2.length]; exact hl, rfl⟩, q w _ n2 n1⟩
        · cases e
      · cases e
    · cases e
  · cases e
/-- o[i] = e -/
def dPut (e o i : DE) : DS := fun ρ R => (e ρ R).toS ρ fun z R1 => (o ρ R1).toS ρ fun x R2 => (i ρ R2).toS ρ fun y R3 => match gSet R3 x y z with
  | some R4 => .nx ρ R4
  | none => .stuck
theorem sd_put {X : Cx} {W : WX} {e o i : Expr} {de dO di : DE} {tp pos : Pos} (hu : X.A.units + 65 < cLine) (he : ED X W e de) (ho : ED X W o dO) (hi : ED X W i di)
    (hs : swapsWithSole [.Subscript o i tp] e pos.line X.env = pure false := by rfl) (hw : swappedStores [.Subscript o i tp] e X.env = pure none := by rfl)
    (h1 : (assignEach [.Subscript o i tp] X.env).map (·.2) = [assign (.Subscript o i tp) X.env] := by rfl)
    (ha : ∀ v, assign (.Subscript o i tp) X.env v = (do
      let ov ← holding [v] (eval o X.env)
      let iv ← holding [v, ov] (eval i X.env)
      standAt tp
      holding [v, ov, iv] (setItem ov iv v)
      release [v, ov, iv] []) := by intro _; rfl) : SD X W (.Assign [.Subscript o i tp] e pos) (dPut de dO di) := by
  refine PSimp (ps_asg he (pg_sub ho hi (set_cell hu) ha) hs hw h1) fun E σ H h => ?_
  obtain ⟨w, ρ, R, A, p⟩ := h
  refine ⟨w, ρ, R, A, (Rs.post A p).imp fun z R1 p1 v w1 H1 l1 W1 r1 => ?_⟩
  have A1 := A.step l1 W1
  refine ⟨w1, ρ, R1, A1, (Rs.post A1 (p1.mono l1)).imp fun x R2 p2 vx w2 H2 l2 W2 r2 => ?_⟩
  have A2 := A1.step l2 W2
  refine ⟨w2, ρ, R2, A2, (Rs.post A2 (p2.mono l2)).imp fun y R3 p3 vy w3 H3 l3 W3 r3 => ?_⟩
  cases eg : gSet R3 x y z with
  | none => rw [eg] at p3; exact p3.elim
  | some R4 =>
    rw [eg] at p3
    exact ⟨w3, R3, x, y, z, R4, W3, r2.mono l3.le, r3, (r1.mono l2.le).mono l3.le, eg, fun w4 H4 l4 W4 => p3 σ w4 H4 (l3.trans l4) ((A2.step l3 W3).step l4 W4)⟩
end
end Y
end
end
section
set_option Elab.async false
set_option linter.all false
set_option maxRecDepth 100000
set_option maxHeartbeats 4000000
noncomputable section
namespace Y
open PySem PySem.Spec PyProof.Rows L2
open Classical

/-! ### isinstance -/
def tyN (R : Wd) : D → Option String
  | .non => some "NoneType"
  | .bl _ => some "bool"
  | .int _ => some "int"
  | .str _ => some "str"
  | .tup _ => some "tuple"
  | x => if (lstR R x).isSome = true then some "list" else if (dkOf R x).isSome = true ∨ (dtOf R x).isSome = true then some "dict" else none
def subB (a b : String) : Bool := a == b || (a == "bool" && b == "int")
theorem kitB_sub : ∀ a ∈ ["NoneType", "bool", "int", "str", "tuple", "list", "dict"], ∀ b ∈ ["bool", "int", "str", "tuple", "list", "dict"], kitB a b = some (subB a b) := by decide +kernel
def dIsi (T : String) (e : DE) : DE := fun ρ R => (e ρ R).bind fun x R1 => match tyN R1 x with
  | some t => .ok (.bl (subB t T)) R1
  | none => .stuck
section
variable {X : Cx} {W : WX} {e : Expr} {d : DE} {pins : List (Addr × Obj)} {σ : L2.St} {H : Hp} {s : Shared} {w : Wt} {R : Wd}
theorem tyN_kit (I : L2.Inv X pins σ H s) (W : WR X.K w H R) {x : D} {vx : V} {u : Value} {t : String} (h : tyN R x = some t) (r : RelD X.K w vx x) (q : RelV vx u) :
    t ∈ ["NoneType", "bool", "int", "str", "tuple", "list", "dict"] ∧ ∃ P : Heap → Prop, PySem.W.KitX X.K u (.type t) P ∧ P s.heap ∧ u ≠ .builtin "__main__.__loader__#opaque" := by
  have rest : (if (lstR R x).isSome = true then some "list" else if (dkOf R x).isSome = true ∨ (dtOf R x).isSome = true then some "dict" else none) = some t → t ∈ ["NoneType", "bool", "int", "str", "tuple", "list", "dict"] ∧ ∃ P : Heap → Prop, PySem.W.KitX X.K u (.type t) P ∧ P s.heap ∧ u ≠ .builtin "__main__.__loader__#opaque" := fun h => by
    split at h
    · rename_i c
      obtain ⟨xs, c⟩ := Option.isSome_iff_exists.mp c
      cases h
      obtain ⟨a, vs, rfl, h1, _⟩ := lstR_rel W r c
      cases q
      obtain ⟨its, _, ⟨o, n, ho, hc, _, _⟩, _⟩ := I.list h1
      exact ⟨by decide, _, PySem.W.kitx_list, ⟨o, ho, hc⟩, fun z => nomatch z⟩
    · split at h
      · rename_i c
        cases h
        refine ⟨by decide, ?_⟩
        rcases c with c | c
        · obtain ⟨xs, c⟩ := Option.isSome_iff_exists.mp c
          obtain ⟨a, vs, rfl, h1, _⟩ := dk_rel W r c
          cases q
          obtain ⟨_, _, us, _, o, es, ep, ho, hx, _⟩ := dk_rd I.hok h1
          exact ⟨_, PySem.W.kitx_dict, ⟨o, ho, hx.1⟩, fun z => nomatch z⟩
        · obtain ⟨xs, c⟩ := Option.isSome_iff_exists.mp c
          obtain ⟨a, vs, rfl, h1, _⟩ := dt_rel W r c
          cases q
          obtain ⟨_, _, us, _, o, es, ep, ho, hx, _⟩ := dt_rd I.hok h1
          exact ⟨_, PySem.W.kitx_dict, ⟨o, ho, hx.1⟩, fun z => nomatch z⟩
      · cases h
  cases x with
  | non => cases r; cases q; simp only [tyN, Option.some.injEq] at h; subst h; exact ⟨by decide, _, PySem.W.kitx_none, True.intro, fun z => nomatch z⟩
  | bl b => cases r; cases q; simp only [tyN, Option.some.injEq] at h; subst h; exact ⟨by decide, _, PySem.W.kitx_bool, True.intro, fun z => nomatch z⟩
  | int b => cases r; obtain ⟨t, rfl⟩ := q; simp only [tyN, Option.some.injEq] at h; subst h; exact ⟨by decide, _, PySem.W.kitx_int, True.intro, fun z => nomatch z⟩
  | str b => cases r; obtain ⟨t, rfl⟩ := q; simp only [tyN, Option.some.injEq] at h; subst h; exact ⟨by decide, _, PySem.W.kitx_str, True.intro, fun z => nomatch z⟩
  | tup b =>
    simp only [tyN, Option.some.injEq] at h; subst h
    cases r with
    | tup h1 h2 =>
      cases q
      obtain ⟨_, its, _, o, ho, hc, _⟩ := (show ObjOk X.prog X.w H s.heap _ (.tup _) from I.hok _ _ (W.sub _ _ h1))
      exact ⟨by decide, _, PySem.W.kitx_tuple, ⟨o, ho, hc⟩, fun z => nomatch z⟩
  | _ => exact rest h
theorem ed_isi {T : String} {x y : Str} {p p2 pos : Pos} (hg : Gl X x) (hm : X.mg x = none) (hg2 : Gl X y) (hm2 : X.mg y = none) (ha : ED X W e d) (hv : bootBuiltins x = some (.builtin "isinstance") := by decide +kernel) (hv2 : bootBuiltins y = some (.type T) := by decide +kernel) (hT : T ∈ ["bool", "int", "str", "tuple", "list", "dict"] := by decide)
    (hn : x ≠ "__name__" := by decide) (hdb : (x == ("__debug__" : Str)) = false := by decide) (hn2 : y ≠ "__name__" := by decide) (hdb2 : (y == ("__debug__" : Str)) = false := by decide)
    (hs : starEach [e, .Name y p2] X.env = (false, eval e X.env) :: starEach [.Name y p2] X.env := by rfl) (hs2 : starEach [.Name y p2] X.env = (false, eval (.Name y p2) X.env) :: starEach [] X.env := by rfl) (hp : ((backTo pos (starEach [.Name y p2] X.env)).any fun x => x.1) = false := by rfl) :
    ED X W (.Call (.Name x p) [e, .Name y p2] [] pos) (dIsi T d) := by
  have pa := pa_cons (X := X) ha (pa_cons (pe_bltn hg2 hm2 hv2 (show RelV (.ty T) (.type T) from rfl) hn2 hdb2) pa_nil hs2) hs
  have ci : CallR X (.builtin "isinstance") fun xs H Q => ∃ v w R x t, xs = [v, .ty T] ∧ WR X.K w H R ∧ RelD X.K w v x ∧ tyN R x = some t ∧ Q (.bl (subB t T)) H := by
    intro pins s σ H xs us Q I r h
    obtain ⟨v, w, R, x, t, rfl, W, r1, e, q⟩ := h
    obtain ⟨u1, u2, rfl, q1, q2⟩ := vals2 r
    cases q2
    obtain ⟨m, P, kx, hP, ne⟩ := tyN_kit I W e r1 q1
    exact PySem.W.kia_one kx I.kIn hP (kit_ty (kitB_sub t m T hT)) ne fun tk => ⟨.bl _, H, I.tok tk, rfl, q⟩
  refine PEimp (pe_callB ci hg hm hv pa hn hdb hs hp) fun σ H Q h => ?_
  obtain ⟨w, ρ, R, A, p⟩ := h
  refine ⟨w, ρ, R, A, p.bind.imp fun x R1 p1 v w1 H1 l1 W1 r1 => ?_⟩
  cases e : tyN R1 x with
  | none => rw [e] at p1; exact p1.elim
  | some t =>
    rw [e] at p1
    exact ⟨v, w1, R1, x, t, rfl, W1, r1, e, Ret.now (Ret.mono l1 p1) W1 (.bl _)⟩
end

/-! ### calls of built-in functions -/
def gLen (R : Wd) : List D → Ro
  | [x] => match x with
    | .str z => if z.length ≤ sizeLine then some (.int z.length, R) else none
    | x => match seqOf R x with
      | some xs => some (.int xs.length, R)
      | none => match dkOf R x with
        | some kvs => some (.int kvs.length, R)
        | none => match dtOf R x with
          | some kvs => some (.int kvs.length, R)
          | none => none
  | _ => none
def blsOf : List D → Option (List Bool)
  | [] => some []
  | .bl b :: r => (blsOf r).map (b :: ·)
  | _ => none
def intsOf : List D → Option (List Int)
  | [] => some []
  | .int b :: r => (intsOf r).map (b :: ·)
  | _ => none
def strsOf : List D → Option (List Str)
  | [] => some []
  | .str b :: r => (strsOf r).map (b :: ·)
  | _ => none
def gAll (R : Wd) : List D → Ro
  | [x] => ((lstR R x).bind blsOf).map fun bs => (.bl (bs.all id), R)
  | _ => none
def gSum (R : Wd) : List D → Ro
  | [x] => ((lstR R x).bind intsOf).map fun ns => (.int ns.sum, R)
  | _ => none
def maxL : List Int → Option Int
  | [] => none
  | [x] => some x
  | x :: r => (maxL r).map fun m => if x < m then m else x
def minL : List Int → Option Int
  | [] => none
  | [x] => some x
  | x :: r => (minL r).map fun m => if m < x then m else x
def gMax (R : Wd) : List D → Ro
  | [.int i, .int j] => some (.int (if j > i then j else i), R)
  | [x] => (((lstR R x).bind intsOf).bind maxL).map fun m => (.int m, R)
  | _ => none
def gMin (R : Wd) : List D → Ro
  | [.int i, .int j] => some (.int (if j < i then j else i), R)
  | [x] => (((lstR R x).bind intsOf).bind minL).map fun m => (.int m, R)
  | _ => none
def gInt (R : Wd) : List D → Ro
  | [.int i] => some (.int i, R)
  | [.bl b] => some (.int (if b then 1 else 0), R)
  | [.str a] => if a.length ≤ 640 then (PySem.intText? a).map fun n => (.int n, R) else none
  | _ => none
def gStr (R : Wd) : List D → Ro
  | [.int i] => if i.natAbs.log2 < 1920 then some (.str (toString i), R) else none
  | [.str a] => some (.str a, R)
  | _ => none
section
variable {X : Cx} {K : PySem.W.Frag} {w : Wt}
theorem bls_rel : ∀ {vs : List V} {ds : List D} {bs : List Bool}, RelDs K w vs ds → blsOf ds = some bs → vs = bs.map V.bl
  | _, [], _, r, e => by cases r; simp only [blsOf, Option.some.injEq] at e; subst e; rfl
  | _, d :: ds, bs, r, e => by
    cases r with
    | cons a b =>
      cases d with
      | bl c => simp only [blsOf] at e; obtain ⟨l, e1, e2⟩ := Option.map_eq_some_iff.mp e; subst e2; cases a; rw [bls_rel b e1]; rfl
      | _ => simp [blsOf] at e
theorem ints_rel : ∀ {vs : List V} {ds : List D} {bs : List Int}, RelDs K w vs ds → intsOf ds = some bs → vs = bs.map V.int
  | _, [], _, r, e => by cases r; simp only [intsOf, Option.some.injEq] at e; subst e; rfl
  | _, d :: ds, bs, r, e => by
    cases r with
    | cons a b =>
      cases d with
      | int c => simp only [intsOf] at e; obtain ⟨l, e1, e2⟩ := Option.map_eq_some_iff.mp e; subst e2; cases a; rw [ints_rel b e1]; rfl
      | _ => simp [intsOf] at e
theorem strs_rel : ∀ {vs : List V} {ds : List D} {bs : List Str}, RelDs K w vs ds → strsOf ds = some bs → vs = bs.map V.str
  | _, [], _, r, e => by cases r; simp only [strsOf, Option.some.injEq] at e; subst e; rfl
  | _, d :: ds, bs, r, e => by
    cases r with
    | cons a b =>
      cases d with
      | str c => simp only [strsOf] at e; obtain ⟨l, e1, e2⟩ := Option.map_eq_some_iff.mp e; subst e2; cases a; rw [strs_rel b e1]; rfl
      | _ => simp [strsOf] at e
theorem strs_rels : ∀ (ys : List Str), RelDs K w (ys.map V.str) (ys.map D.str)
  | [] => .nil
  | y :: ys => .cons (.str y) (strs_rels ys)
theorem maxL_spec : ∀ {ns : List Int} {m : Int}, maxL ns = some m → m ∈ ns ∧ ∀ y ∈ ns, y ≤ m
  | [], _, e => by simp [maxL] at e
  | [x], m, e => by simp only [maxL, Option.some.injEq] at e; subst e; simp
  | x :: y :: r, m, e => by
    simp only [maxL] at e
    obtain ⟨k, e1, e2⟩ := Option.map_eq_some_iff.mp e
    obtain ⟨h1, h2⟩ := maxL_spec e1
    by_cases c : x < k
    · rw [if_pos c] at e2; subst e2
      refine ⟨List.mem_cons_of_mem _ h1, fun z hz => ?_⟩
      rcases List.mem_cons.mp hz with rfl | hz
      · omega
      · exact h2 z hz
    · rw [if_neg c] at e2; subst e2
      refine ⟨List.mem_cons_self, fun z hz => ?_⟩
      rcases List.mem_cons.mp hz with rfl | hz
      · omega
      · have := h2 z hz; omega
theorem minL_spec : ∀ {ns : List Int} {m : Int}, minL ns = some m → m ∈ ns ∧ ∀ y ∈ ns, m ≤ y
  | [], _, e => by simp [minL] at e
  | [x], m, e => by simp only [minL, Option.some.injEq] at e; subst e; simp
  | x :: y :: r, m, e => by
    simp only [minL] at e
    obtain ⟨k, e1, e2⟩ := Option.map_eq_some_iff.mp e
    obtain ⟨h1, h2⟩ := minL_spec e1
    by_cases c : k < x
    · rw [if_pos c] at e2; subst e2
      refine ⟨List.mem_cons_of_mem _ h1, fun z hz => ?_⟩
      rcases List.mem_cons.mp hz with rfl | hz
      · omega
      · exact h2 z hz
    · rw [if_neg c] at e2; subst e2
      refine ⟨List.mem_cons_self, fun z hz => ?_⟩
      rcases List.mem_cons.mp hz with rfl | hz
      · omega
      · have := h2 z hz; omega
theorem one_rel {vs : List V} {x : D} (r : RelDs K w vs [x]) : ∃ v, vs = [v] ∧ RelD K w v x := by
  cases r with | cons a b => cases b; exact ⟨_, rfl, a⟩
theorem two_rel {vs : List V} {x y : D} (r : RelDs K w vs [x, y]) : ∃ v u, vs = [v, u] ∧ RelD K w v x ∧ RelD K w u y := by
  cases r with | cons a b => cases b with | cons b c => cases c; exact ⟨_, _, rfl, a, b⟩
theorem cd_len : CaD X (.builtin "len") gLen := by
  intro pins s σ H vs us Q I rv h
  obtain ⟨w, R, xs, W, r, q⟩ := h
  unfold gLen at q
  split at q
  · obtain ⟨v, rfl, r1⟩ := one_rel r
    split at q
    · split at q
      · rename_i z c
        cases r1
        exact call_len_str pins s σ H _ us Q I rv ⟨z, rfl, c, Ret.now q W (.int _)⟩
      · exact q.elim
    · rename_i x y _
      cases e1 : seqOf R x with
      | some ys =>
        rw [e1] at q
        obtain ⟨a, vs, rfl, h1, k1⟩ := seqOf_rel W r1 e1
        refine call_len_seq pins s σ H _ us Q I rv ⟨a, vs, rfl, h1, ?_⟩
        rw [k1.length]
        exact Ret.now q W (.int _)
      | none =>
        rw [e1] at q
        cases e2 : dkOf R x with
        | some kvs =>
          rw [e2] at q
          obtain ⟨a, kv, rfl, h1, k1⟩ := dk_rel W r1 e2
          obtain ⟨u, rfl, ru⟩ := vals1 rv
          cases ru
          refine d_len I h1 fun t s2 I2 => ⟨.int kv.length, H, I2, ⟨t, rfl⟩, ?_⟩
          rw [k1.length]
          exact Ret.now q W (.int _)
        | none =>
          rw [e2] at q
          cases e3 : dtOf R x with
          | some kvs =>
            rw [e3] at q
            obtain ⟨a, kv, rfl, h1, k1⟩ := dt_rel W r1 e3
            obtain ⟨u, rfl, ru⟩ := vals1 rv
            cases ru
            obtain ⟨z, hd, ys, rel, dd⟩ := dt_rd I.hok h1
            have hl : kv.length = ys.length := Paired.length rel
            refine call_len_dictH hd dd (by rw [← hl]; rw [sizeLine_eq] at z; omega) ?_
            rw [← hl]
            refine ⟨.int ((kv.length : Nat) : Int), H, I.tok _, ⟨_, rfl⟩, ?_⟩
            rw [k1.length]
            exact Ret.now q W (.int _)
          | none => rw [e3] at q; exact q.elim
  · exact q.elim
theorem ro_map {α : Type} {o : Option α} {f : α → D × Wd} {w : Wt} {H : Hp} {Q : VK} (h : RetR K w H (o.map f) Q) : ∃ a, o = some a ∧ Ret K w H (f a).2 (f a).1 Q := by
  cases o with
  | none => exact h.elim
  | some a => exact ⟨a, rfl, h⟩
theorem cd_all (hc : X.calm = true) : CaD X (.builtin "all") gAll := by
  intro pins s σ H vs us Q I rv h
  obtain ⟨w, R, xs, W, r, q⟩ := h
  unfold gAll at q
  split at q
  · obtain ⟨v, rfl, r1⟩ := one_rel r
    obtain ⟨bs, e, q⟩ := ro_map q
    obtain ⟨ys, e1, e2⟩ := Option.bind_eq_some_iff.mp e
    obtain ⟨a, vs, rfl, h1, k1⟩ := lstR_rel W r1 e1
    rw [bls_rel k1 e2] at h1
    exact cr_all hc pins s σ H _ us Q I rv ⟨a, bs, rfl, h1, Ret.now q W (.bl _)⟩
  · exact q.elim
theorem cd_sum (hc : X.calm = true) : CaD X (.builtin "sum") gSum := by
  intro pins s σ H vs us Q I rv h
  obtain ⟨w, R, xs, W, r, q⟩ := h
  unfold gSum at q
  split at q
  · obtain ⟨v, rfl, r1⟩ := one_rel r
    obtain ⟨bs, e, q⟩ := ro_map q
    obtain ⟨ys, e1, e2⟩ := Option.bind_eq_some_iff.mp e
    obtain ⟨a, vs, rfl, h1, k1⟩ := lstR_rel W r1 e1
    rw [ints_rel k1 e2] at h1
    exact cr_sum hc pins s σ H _ us Q I rv ⟨a, bs, rfl, h1, Ret.now q W (.int _)⟩
  · exact q.elim
theorem max_ne {ns : List Int} {m : Int} (h : m ∈ ns) : 0 < ns.length := List.length_pos_of_mem h
theorem cd_max (hc : X.calm = true) : CaD X (.builtin "max") gMax := by
  intro pins s σ H vs us Q I rv h
  obtain ⟨w, R, xs, W, r, q⟩ := h
  unfold gMax at q
  split at q
  · obtain ⟨v, u, rfl, r1, r2⟩ := two_rel r
    cases r1; cases r2
    exact call_max2 hc pins s σ H _ us Q I rv ⟨_, _, rfl, Ret.now q W (.int _)⟩
  · obtain ⟨v, rfl, r1⟩ := one_rel r
    obtain ⟨m, e, q⟩ := ro_map q
    obtain ⟨ns, e, e3⟩ := Option.bind_eq_some_iff.mp e
    obtain ⟨ys, e1, e2⟩ := Option.bind_eq_some_iff.mp e
    obtain ⟨a, vs, rfl, h1, k1⟩ := lstR_rel W r1 e1
    rw [ints_rel k1 e2] at h1
    obtain ⟨s1, s2⟩ := maxL_spec e3
    refine cr_max hc pins s σ H _ us Q I rv ⟨a, ns, rfl, h1, max_ne s1, fun m' n1 n2 => ?_⟩
    have : m' = m := by have := s2 m' n1; have := n2 m s1; omega
    rw [this]
    exact Ret.now q W (.int _)
  · exact q.elim
theorem cd_min (hc : X.calm = true) : CaD X (.builtin "min") gMin := by
  intro pins s σ H vs us Q I rv h
  obtain ⟨w, R, xs, W, r, q⟩ := h
  unfold gMin at q
  split at q
  · obtain ⟨v, u, rfl, r1, r2⟩ := two_rel r
    cases r1; cases r2
    exact call_min2 hc pins s σ H _ us Q I rv ⟨_, _, rfl, Ret.now q W (.int _)⟩
  · obtain ⟨v, rfl, r1⟩ := one_rel r
    obtain ⟨m, e, q⟩ := ro_map q
    obtain ⟨ns, e, e3⟩ := Option.bind_eq_some_iff.mp e
    obtain ⟨ys, e1, e2⟩ := Option.bind_eq_some_iff.mp e
    obtain ⟨a, vs, rfl, h1, k1⟩ := lstR_rel W r1 e1
    rw [ints_rel k1 e2] at h1
    obtain ⟨s1, s2⟩ := minL_spec e3
    refine cr_min hc pins s σ H _ us Q I rv ⟨a, ns, rfl, h1, max_ne s1, fun m' n1 n2 => ?_⟩
    have : m' = m := by have := s2 m' n1; have := n2 m s1; omega
    rw [this]
    exact Ret.now q W (.int _)
  · exact q.elim
theorem cd_int : CaD X (.type "int") gInt := by
  intro pins s σ H vs us Q I rv h
  obtain ⟨w, R, xs, W, r, q⟩ := h
  unfold gInt at q
  split at q
  · obtain ⟨v, rfl, r1⟩ := one_rel r
    cases r1
    exact call_int1 pins s σ H _ us Q I rv (.inl ⟨_, rfl, Ret.now q W (.int _)⟩)
  · obtain ⟨v, rfl, r1⟩ := one_rel r
    cases r1
    exact call_int1 pins s σ H _ us Q I rv (.inr ⟨_, rfl, Ret.now q W (.int _)⟩)
  · obtain ⟨v, rfl, r1⟩ := one_rel r
    cases r1
    split at q
    · rename_i c
      obtain ⟨n, e, q⟩ := ro_map q
      exact call_int_str pins s σ H _ us Q I rv ⟨_, n, rfl, e, c, Ret.now q W (.int _)⟩
    · exact q.elim
  · exact q.elim
theorem cd_str : CaD X (.type "str") gStr := by
  intro pins s σ H vs us Q I rv h
  obtain ⟨w, R, xs, W, r, q⟩ := h
  unfold gStr at q
  split at q
  · obtain ⟨v, rfl, r1⟩ := one_rel r
    cases r1
    split at q
    · rename_i c
      exact call_str_int pins s σ H _ us Q I rv ⟨_, rfl, c, Ret.now q W (.str _)⟩
    · exact q.elim
  · obtain ⟨v, rfl, r1⟩ := one_rel r
    cases r1
    exact SkE.call_str_str pins s σ H _ us Q I rv ⟨_, rfl, Ret.now q W (.str _)⟩
  · exact q.elim
end
end Y
end
end
section
set_option Elab.async false
set_option linter.all false
set_option maxRecDepth 100000
set_option maxHeartbeats 4000000
noncomputable section
namespace Y
open PySem PySem.Spec PyProof.Rows L2
open PySem.W (AllAlike Sortable dataLe EachIs)
open Classical

/-! ### calls that make fresh lists, fresh dicts -/
def cOfF (K : PySem.W.Frag) (g : Wd → List D → Option (List D)) : List V → Hp → VK → Prop := fun vs H Q => ∃ w R xs zs, WR K w H R ∧ RelDs K w vs xs ∧ g R xs = some zs ∧ RetF K w H R zs Q
abbrev CaF (X : Cx) (f : Value) (g : Wd → List D → Option (List D)) : Prop := CallR X f (cOfF X.K g)
def mOfF (K : PySem.W.Frag) (g : Wd → D → List D → Option (List D)) : V → List V → Hp → VK → Prop := fun v vs H Q => ∃ w R x xs zs, WR K w H R ∧ RelD K w v x ∧ RelDs K w vs xs ∧ g R x xs = some zs ∧ RetF K w H R zs Q
abbrev MtF (X : Cx) (id : String) (g : Wd → D → List D → Option (List D)) : Prop := MtR X id (mOfF X.K g)
def RetK (K : PySem.W.Frag) (w : Wt) (H : Hp) (R : Wd) (zs : List (Key × D)) (Q : VK) : Prop := ∀ a kv w' H', Stp w H w' H' → WR K w' H' R → H a = none → w'.out a → H' a = some (.dK kv) → RelK K w' kv zs → Q (.ref a) H'
def cOfK (K : PySem.W.Frag) (g : Wd → List D → Option (List (Key × D))) : List V → Hp → VK → Prop := fun vs H Q => ∃ w R xs zs, WR K w H R ∧ RelDs K w vs xs ∧ g R xs = some zs ∧ RetK K w H R zs Q
abbrev CaK (X : Cx) (f : Value) (g : Wd → List D → Option (List (Key × D))) : Prop := CallR X f (cOfK X.K g)
def dCallG {α : Type} (g : Wd → List D → Option α) (a : DA) : Rho → Wd → Rs α := fun ρ R => (a ρ R).bind fun xs R1 => match g R1 xs with
  | some z => .ok z R1
  | none => .stuck
def dMethG {α : Type} (T : String) (g : Wd → D → List D → Option α) (o : DE) (a : DA) : Rho → Wd → Rs α := fun ρ R => (o ρ R).bind fun x R1 => if tyOf R1 x = some T then (a ρ R1).bind fun xs R2 => (match g R2 x xs with
  | some z => .ok z R2
  | none => .stuck) else .stuck
section
variable {K : PySem.W.Frag} {w w' : Wt} {H H' : Hp} {R : Wd} {Q : VK}
theorem RetK.new {zs : List (Key × D)} (h : RetK K w H R zs Q) (W : WR K w H R) {p : Addr} {kv : List (Key × V)} (hp : H p = none) (r : RelK K w kv zs) : Q (.ref p) (upd H p (.dK kv)) := h p kv w _ (.new hp) (W.grow (upd_grow hp)) hp (out_new W hp) upd_same r
theorem RetK.mono {zs : List (Key × D)} (le : Stp w H w' H') (W : WR K w' H' R) (h : RetK K w H R zs Q) : RetK K w' H' R zs Q := fun a vs w2 H2 l W2 ha o e r => h a vs w2 H2 (le.trans l) W2 (le.back W ha) o e r
end
section
variable {X : Cx} {W : WX} {e : Expr} {es : List Expr} {d : DA} {g : Wd → List D → Option (List D)} {gk : Wd → List D → Option (List (Key × D))} {p pos : Pos}
theorem rd_callF {σ : L2.St} {H : Hp} {Q : VK} (h : rdF X.K W (dCallG g d) σ H Q) : tCB (cOfF X.K g) (rdA X.K W d) σ H Q := by
  obtain ⟨w, ρ, R, A, p⟩ := h
  refine ⟨w, ρ, R, A, p.bind.imp fun xs R1 p1 vs w1 H1 l1 W1 r1 => ?_⟩
  cases e : g R1 xs with
  | none => rw [e] at p1; exact p1.elim
  | some zs =>
    rw [e] at p1
    have p1 : RetF X.K w H R1 zs Q := p1
    exact ⟨w1, R1, xs, zs, W1, r1, e, p1.mono l1 W1⟩
theorem rd_callK {σ : L2.St} {H : Hp} {Q : VK} (h : rdFK X.K W (dCallG gk d) σ H Q) : tCB (cOfK X.K gk) (rdA X.K W d) σ H Q := by
  obtain ⟨w, ρ, R, A, p⟩ := h
  refine ⟨w, ρ, R, A, p.bind.imp fun xs R1 p1 vs w1 H1 l1 W1 r1 => ?_⟩
  cases e : gk R1 xs with
  | none => rw [e] at p1; exact p1.elim
  | some zs =>
    rw [e] at p1
    have p1 : RetK X.K w H R1 zs Q := p1
    exact ⟨w1, R1, xs, zs, W1, r1, e, p1.mono l1 W1⟩
theorem fl_bf {x : Str} {id : String} (hc : CaF X (.builtin id) g) (hg : Gl X x) (hm : X.mg x = none) (ha : AD X W (e :: es) d) (hv : bootBuiltins x = some (.builtin id) := by decide +kernel) (hn : x ≠ "__name__" := by decide) (hdb : (x == ("__debug__" : Str)) = false := by decide)
    (hs : starEach (e :: es) X.env = (false, eval e X.env) :: starEach es X.env := by rfl) (hp : ((backTo pos (starEach es X.env)).any fun x => x.1) = false := by rfl) : FL X W (.Call (.Name x p) (e :: es) [] pos) (dCallG g d) :=
  PEimp (pe_callB hc hg hm hv ha hn hdb hs hp) fun _ _ _ h => rd_callF h
theorem fl_bt {x : Str} {T : String} (hc : CaF X (.type T) g) (hg : Gl X x) (hm : X.mg x = none) (ha : AD X W (e :: es) d) (hv : bootBuiltins x = some (.type T) := by decide +kernel) (hn : x ≠ "__name__" := by decide) (hdb : (x == ("__debug__" : Str)) = false := by decide)
    (hs : starEach (e :: es) X.env = (false, eval e X.env) :: starEach es X.env := by rfl) (hp : ((backTo pos (starEach es X.env)).any fun x => x.1) = false := by rfl) : FL X W (.Call (.Name x p) (e :: es) [] pos) (dCallG g d) :=
  PEimp (pe_callTy hc hg hm hv ha hn hdb hs hp) fun _ _ _ h => rd_callF h
theorem fk_bt {x : Str} {T : String} (hc : CaK X (.type T) gk) (hg : Gl X x) (hm : X.mg x = none) (ha : AD X W (e :: es) d) (hv : bootBuiltins x = some (.type T) := by decide +kernel) (hn : x ≠ "__name__" := by decide) (hdb : (x == ("__debug__" : Str)) = false := by decide)
    (hs : starEach (e :: es) X.env = (false, eval e X.env) :: starEach es X.env := by rfl) (hp : ((backTo pos (starEach es X.env)).any fun x => x.1) = false := by rfl) : FK X W (.Call (.Name x p) (e :: es) [] pos) (dCallG gk d) :=
  PEimp (pe_callTy hc hg hm hv ha hn hdb hs hp) fun _ _ _ h => rd_callK h
end

/-! methods -/
section
variable {X : Cx} {W : WX} {o e : Expr} {es : List Expr} {dO : DE} {d : DA} {g : Wd → D → List D → Option (List D)} {name : Str} {apos cpos : Pos} {T id : String}
theorem pe_methY0 {r : V → List V → Hp → VK → Prop} (pa : PlainAttrs T) (slot : Slot T name id) (hty : typeOf (.builtin id) = pure (.type "method_descriptor")) (hm : MtR X id r) (ho : ED X W o dO)
    (hbase : attributeBase o name X.env (eval o X.env) = eval o X.env := by rfl) (hline : (apos.endLine == cpos.line) = true := by rfl) :
    PE X (.Call (.Attribute o name apos) [] [] cpos) fun σ H Q => rdE X.K W dO σ H fun x H1 => (∃ w1 R1 y, WR X.K w1 H1 R1 ∧ RelD X.K w1 x y ∧ tyOf R1 y = some T) ∧ r x [] H1 Q := by
  refine ⟨fun pins s σ H Q I h => ?_⟩
  refine wpAny_Call_method0_late hbase hline (thn (ho.run pins s σ H _ I h) fun v s1 ⟨x, H1, I1, rv, ⟨w1, R1, y, W1, r1, ty⟩, q1⟩ => ?_)
  obtain ⟨h1, h2⟩ := ty_is I1 rv W1 r1 ty
  exact ⟨T, id, pa, slot, hty, h1, h2, Calls.callWith_builtin rfl (PySem.evalArgs_none (hm pins s1 σ H1 x [] v [] Q I1 rv .nil q1))⟩
theorem pe_methY {r : V → List V → Hp → VK → Prop} (pa : PlainAttrs T) (slot : Slot T name id) (hty : typeOf (.builtin id) = pure (.type "method_descriptor")) (hm : MtR X id r) (ho : ED X W o dO) (ha : AD X W (e :: es) d)
    (hbase : attributeBase o name X.env (eval o X.env) = eval o X.env := by rfl)
    (hfew : ((backTo cpos (starEach (e :: es) X.env)).all (fun x => !x.1) && (backToKw cpos (keywordEach [] X.env)).all (fun x => x.1.isSome)
      && decide ((e :: es).length + ([] : List Keyword).length + (if ([] : List Keyword).isEmpty then 0 else 1) < 30)) = true := by rfl)
    (hline : (apos.endLine == cpos.line) = true := by rfl) (hs : starEach (e :: es) X.env = (false, eval e X.env) :: starEach es X.env := by rfl) (hplain : (backTo cpos (starEach es X.env)).any (·.1) = false := by rfl) :
    PE X (.Call (.Attribute o name apos) (e :: es) [] cpos) fun σ H Q => rdE X.K W dO σ H fun x H1 => (∃ w1 R1 y, WR X.K w1 H1 R1 ∧ RelD X.K w1 x y ∧ tyOf R1 y = some T) ∧ rdA X.K W d σ H1 fun xs H2 => r x xs H2 Q := by
  refine ⟨fun pins s σ H Q I h => ?_⟩
  refine wpAny_Call_method_late hbase hfew hline rfl (thn (ho.run pins s σ H _ I h) fun v s1 ⟨x, H1, I1, rv, ⟨w1, R1, y, W1, r1, ty⟩, q1⟩ => ?_)
  obtain ⟨h1, h2⟩ := ty_is I1 rv W1 r1 ty
  refine ⟨T, id, pa, slot, hty, h1, h2, ?_⟩
  have hA := ha.run cpos pins s1 σ H1 _ I1 q1
  rw [hs] at hA ⊢
  refine Calls.callWith_builtin (by show (false || (backTo cpos (starEach es X.env)).any (·.1)) = false; rw [hplain] <;> rfl) (Calls.evalArgs_plain ?_)
  exact thn hA fun us s2 ⟨vs, H2, I2, r2, q2⟩ => hm pins s2 σ H2 x vs v us Q I2 rv r2 q2
theorem fl_meth0 (pa : PlainAttrs T) (slot : Slot T name id) (hty : typeOf (.builtin id) = pure (.type "method_descriptor")) (hm : MtF X id g) (ho : ED X W o dO)
    (hbase : attributeBase o name X.env (eval o X.env) = eval o X.env := by rfl) (hline : (apos.endLine == cpos.line) = true := by rfl) : FL X W (.Call (.Attribute o name apos) [] [] cpos) (dMethG T g dO dNil) := by
  refine PEimp (pe_methY0 pa slot hty hm ho hbase hline) fun σ H Q h => ?_
  obtain ⟨w, ρ, R, A, p⟩ := h
  refine ⟨w, ρ, R, A, p.bind.imp fun y R1 p1 v w1 H1 l1 W1 r1 => ?_⟩
  by_cases c : tyOf R1 y = some T
  · simp only [if_pos c] at p1
    refine ⟨⟨w1, R1, y, W1, r1, c⟩, ?_⟩
    cases e : g R1 y [] with
    | none => simp only [dNil, Rs.bind, e] at p1; exact p1.elim
    | some zs =>
      simp only [dNil, Rs.bind, e] at p1
      have p1 : RetF X.K w H R1 zs Q := p1
      exact ⟨w1, R1, y, [], zs, W1, r1, .nil, e, p1.mono l1 W1⟩
  · simp only [if_neg c] at p1; exact p1.elim
theorem fl_meth (pa : PlainAttrs T) (slot : Slot T name id) (hty : typeOf (.builtin id) = pure (.type "method_descriptor")) (hm : MtF X id g) (ho : ED X W o dO) (ha : AD X W (e :: es) d)
    (hbase : attributeBase o name X.env (eval o X.env) = eval o X.env := by rfl)
    (hfew : ((backTo cpos (starEach (e :: es) X.env)).all (fun x => !x.1) && (backToKw cpos (keywordEach [] X.env)).all (fun x => x.1.isSome)
      && decide ((e :: es).length + ([] : List Keyword).length + (if ([] : List Keyword).isEmpty then 0 else 1) < 30)) = true := by rfl)
    (hline : (apos.endLine == cpos.line) = true := by rfl) (hs : starEach (e :: es) X.env = (false, eval e X.env) :: starEach es X.env := by rfl) (hplain : (backTo cpos (starEach es X.env)).any (·.1) = false := by rfl) :
    FL X W (.Call (.Attribute o name apos) (e :: es) [] cpos) (dMethG T g dO d) := by
  refine PEimp (pe_methY pa slot hty hm ho ha hbase hfew hline hs hplain) fun σ H Q h => ?_
  obtain ⟨w, ρ, R, A, p⟩ := h
  refine ⟨w, ρ, R, A, p.bind.imp fun y R1 p1 v w1 H1 l1 W1 r1 => ?_⟩
  by_cases c : tyOf R1 y = some T
  · simp only [if_pos c] at p1
    refine ⟨⟨w1, R1, y, W1, r1, c⟩, w1, ρ, R1, A.step l1 W1, (Post.bind p1).mono l1 fun xs R2 p2 vs w2 H2 l2 W2 r2 => ?_⟩
    cases e : g R2 y xs with
    | none => rw [e] at p2; exact p2.elim
    | some zs =>
      rw [e] at p2
      have p2 : RetF X.K w H R2 zs Q := p2
      exact ⟨w2, R2, y, xs, zs, W2, r1.mono l2.le, r2, e, p2.mono (l1.trans l2) W2⟩
  · simp only [if_neg c] at p1; exact p1.elim
end

/-! ### list(), sorted(), dict(), tuple(), repr() -/
def dKy : Key → D
  | .inl i => .int i
  | .inr x => .str x
def gList (R : Wd) : List D → Option (List D)
  | [x] => match seqOf R x with
    | some xs => some xs
    | none => (dkOf R x).map fun kvs => kvs.map fun p => dKy p.1
  | _ => none
def sortStr (xs : List Str) : List Str := xs.mergeSort fun a b => decide (a.cps.toList ≤ b.cps.toList)
def keyStrs : List Key → Option (List Str)
  | [] => some []
  | .inr x :: r => (keyStrs r).map (x :: ·)
  | _ => none
def sortD (R : Wd) (xs : List D) : Option (List D) := match pyL (py 40 R) xs with
  | some ps => if AllAlike ps ∧ Sortable ps ∧ xs.length ≤ sizeLine ∧ ∀ p ∈ ps, p.depth ≤ 60 then some (((xs.zip ps).mergeSort (dataLe false (·.2))).map (·.1)) else none
  | none => none
def gSorted (R : Wd) : List D → Option (List D)
  | [x] => match lstR R x with
    | some xs => match strsOf xs with
      | some ss => if xs.length ≤ sizeLine then some ((sortStr ss).map .str) else none
      | none => sortD R xs
    | none => match dkOf R x with
      | some kvs => match keyStrs (kvs.map (·.1)) with
        | some ss => if ss.length < 64 then some ((sortStr ss).map .str) else none
        | none => none
      | none => none
  | _ => none
def pairsOf : List D → Option (List (Key × D))
  | [] => some []
  | .tup [k, v] :: r => match keyOf k, pairsOf r with
    | some k, some kvs => some ((k, v) :: kvs)
    | _, _ => none
  | _ => none
def gDict (R : Wd) : List D → Option (List (Key × D))
  | [x] => match dkOf R x with
    | some kvs => some kvs
    | none => match lstR R x with
      | some xs => (pairsOf xs).map (mA [])
      | none => none
  | _ => none
def gTuple (R : Wd) : List D → Ro
  | [x] => (seqOf R x).map fun xs => (.tup xs, R)
  | _ => none
def gRepr (R : Wd) : List D → Ro
  | [x] => match x with
    | .non => some (.str "None", R)
    | .bl b => some (.str (if b then "True" else "False"), R)
    | .int i => if i.natAbs.log2 < 1920 then some (.str (toString i), R) else none
    | .str z => if (reprText z).length ≤ sizeLine then some (.str (reprText z), R) else none
    | x => match py 40 R x with
      | some p => if p.showable = true ∧ p.depth ≤ 60 ∧ p.shown.length ≤ sizeLine then some (.str p.shown, R) else none
      | none => none
  | _ => none
section
variable {X : Cx} {w : Wt} {R : Wd} {H : Hp}
theorem dKy_rel {K : PySem.W.Frag} : ∀ (kvs : List (Key × V)) {ds : List (Key × D)}, kvs.map (·.1) = ds.map (·.1) → RelDs K w (kvs.map fun p => kV p.1) (ds.map fun p => dKy p.1)
  | [], [], _ => .nil
  | p :: r, q :: t, e => by
    simp only [List.map_cons, List.cons.injEq] at e
    refine .cons ?_ (dKy_rel r e.2)
    show RelD K w (kV p.1) (dKy q.1)
    rw [e.1]
    cases q.1 with
    | inl i => exact .int i
    | inr x => exact .str x
  | [], _ :: _, e => by simp at e
  | _ :: _, [], e => by simp at e
theorem cf_list (hc : X.calm = true) : CaF X (.type "list") gList := by
  intro pins s σ H vs us Q I rv h
  obtain ⟨w, R, xs, zs, W, r, e, q⟩ := h
  unfold gList at e
  split at e
  · rename_i x
    obtain ⟨v, rfl, r1⟩ := one_rel r
    cases e1 : seqOf R x with
    | some ys =>
      rw [e1] at e
      cases e
      obtain ⟨a, vs, rfl, h1, k1⟩ := seqOf_rel W r1 e1
      exact call_list_of pins s σ H _ us Q I rv ⟨a, vs, rfl, h1, fun l hl => q.new W hl k1⟩
    | none =>
      rw [e1] at e
      obtain ⟨kvs, e2, e3⟩ := Option.map_eq_some_iff.mp e
      subst e3
      obtain ⟨a, kv, rfl, h1, k1⟩ := dk_rel W r1 e2
      exact call_listD hc pins s σ H _ us Q I rv ⟨a, kv, rfl, h1, fun l hl => q.new W hl (dKy_rel kv k1.1)⟩
  · cases e
theorem strs_each {vs : List V} {us : List Value} {ss : List Str} (e : vs = ss.map V.str) (rv : Vals vs us) : EachIs (fun v x => ∃ t, v = Value.str x t) us ss := by
  subst e
  induction ss generalizing us with
  | nil => cases rv; exact .nil
  | cons x ss ih => cases rv with | cons a b => exact .cons a (ih b)
theorem each_strs {us : List Value} : ∀ {ss : List Str}, EachIs (fun v x => ∃ t, v = Value.str x t) us ss → Vals (ss.map V.str) us := by
  intro ss h
  induction h with
  | nil => exact .nil
  | cons a _ ih => exact .cons a ih
theorem strs_of_keys {κ : Type} : ∀ {ks : List Key} {ss : List Str}, keyStrs ks = some ss → ks = ss.map Sum.inr
  | [], ss, e => by simp only [keyStrs, Option.some.injEq] at e; subst e; rfl
  | .inr x :: r, ss, e => by
    simp only [keyStrs] at e
    obtain ⟨l, e1, e2⟩ := Option.map_eq_some_iff.mp e
    subst e2
    rw [strs_of_keys (κ := κ) e1]; rfl
  | .inl x :: r, ss, e => by simp [keyStrs] at e
theorem ltCps_iff : ∀ (a b : List Nat), ltCps a b = decide (a < b)
  | [], [] => by simp [ltCps]
  | [], b :: t => by simp [ltCps]
  | a :: r, [] => by simp [ltCps]
  | a :: r, b :: t => by
    simp only [ltCps, List.cons_lt_cons_iff, ltCps_iff r t]
    by_cases h1 : a < b
    · simp [h1]
    · by_cases h2 : a = b
      · simp [h2]
      · simp [h1, h2]
theorem sortedS_pw : ∀ {xs : List Str}, sortedS xs = true → xs.Pairwise fun a b => a.cps.toList ≤ b.cps.toList
  | [], _ => .nil
  | [x], _ => by simp
  | x :: y :: r, h => by
    have h1 : (!ltCps y.cps.toList x.cps.toList && risingS y r) = true := h
    rw [Bool.and_eq_true] at h1
    obtain ⟨h1, h2⟩ := h1
    have ih := sortedS_pw (xs := y :: r) h2
    have le1 : x.cps.toList ≤ y.cps.toList := by
      rw [ltCps_iff] at h1
      simpa using h1
    refine List.Pairwise.cons (fun z hz => ?_) ih
    rcases List.mem_cons.mp hz with rfl | hz
    · exact le1
    · exact List.le_trans le1 (List.rel_of_pairwise_cons ih hz)
theorem sortStr_pw (xs : List Str) : (sortStr xs).Pairwise fun a b => a.cps.toList ≤ b.cps.toList := by
  have h := List.pairwise_mergeSort (le := fun (a b : Str) => decide (a.cps.toList ≤ b.cps.toList)) (fun a b c h1 h2 => by
      simp only [decide_eq_true_eq] at h1 h2 ⊢; exact List.le_trans h1 h2) (fun a b => by
      simp only [Bool.or_eq_true, decide_eq_true_eq]; exact List.le_total _ _) xs
  refine h.imp fun {a b} h => by simpa using h
theorem sort_uniq {ys xs : List Str} (hp : ys.Perm xs) (hs : ys.Pairwise fun a b => a.cps.toList ≤ b.cps.toList) : ys = sortStr xs := by
  refine List.Perm.eq_of_pairwise (le := fun a b : Str => a.cps.toList ≤ b.cps.toList) (fun a b _ _ h1 h2 => ?_) hs (sortStr_pw xs) (hp.trans (List.mergeSort_perm _ _).symm)
  exact Str.ext' (Array.toList_inj.mp (List.le_antisymm h1 h2))
theorem list_ret {pins : List (Addr × Obj)} {σ : L2.St} {s : Shared} {Q : VK} {vs : List V} {zs : List D} {us out : List Value} (I : L2.Inv X pins σ H s) (W : WR X.K w H R) (q : RetF X.K w H R zs Q) (r : RelDs X.K w vs zs) (rv : Vals vs out) (hz : zs.length ≤ sizeLine) :
    EP X pins σ Q (.ref (s.heap.objs.size + 1)) { s with heap := sortedAll s.heap us out.toArray } := by
  obtain ⟨ep, he⟩ := PyProof.Rows.sortedAll_at s.heap us out.toArray
  refine ⟨.ref _, upd H (s.heap.objs.size + 1) (.lst vs), I.laid (t' := s.toks) (fun _ _ => PyProof.Rows.sortedAll_old) (Nat.le_succ _) ⟨by rw [r.length]; exact hz, out, ep, rv, he⟩, rfl, q.new W (I.hok.fresh (Nat.le_succ _)) r⟩
theorem sortD_run (hu : X.A.units + 65 < cLine) (S : SM X.base) {pins : List (Addr × Obj)} {σ : L2.St} {s : Shared} {Q : VK} {a : Addr} {vs : List V} {xs zs : List D} (I : L2.Inv X pins σ H s) (W : WR X.K w H R) (h1 : SqL X.K H a vs) (k1 : RelDs X.K w vs xs) (e : sortD R xs = some zs) (q : RetF X.K w H R zs Q) :
    wpAny (model X.prog X.w) X.A (call (.builtin "sorted") [.ref a]) (EP X pins σ Q) X.xe s := by
  unfold sortD at e
  split at e
  · rename_i ps e2
    split at e
    · rename_i c
      cases e
      obtain ⟨c1, c2, c3, c4⟩ := c
      obtain ⟨its, rv, hl, _⟩ := I.list h1
      let bs : List (V × D × PyData) := vs.zip (xs.zip ps)
      have l1 := k1.length
      have l2 := pyL_len e2
      have l3 := rv.length
      have eb : bs.map (·.2) = xs.zip ps := zip_snd (by rw [List.length_zip]; omega)
      have ev : bs.map (·.1) = vs := zip_fst (by rw [List.length_zip]; omega)
      have ed : bs.map (·.2.1) = xs := by
        have : bs.map (·.2.1) = (bs.map (·.2)).map (·.1) := by rw [List.map_map]; rfl
        rw [this, eb]; exact zip_fst (by omega)
      have ep : bs.map (·.2.2) = ps := by
        have : bs.map (·.2.2) = (bs.map (·.2)).map (·.2) := by rw [List.map_map]; rfl
        rw [this, eb]; exact zip_snd (by omega)
      have lb : bs.length = vs.length := by rw [← ev]; simp
      have all : ∀ (vs : List V) (xs : List D) (ps : List PyData) (us : List Value), RelDs X.K w vs xs → Vals vs us → pyL (py 40 R) xs = some ps → EachIs (fun u (b : V × D × PyData) => RelV b.1 u ∧ RelD X.K w b.1 b.2.1 ∧ ∃ as, Reads s.heap u b.2.2 as) us (vs.zip (xs.zip ps)) := by
        intro vs
        induction vs with
        | nil => intro xs ps us r rv e; cases r; cases rv; exact .nil
        | cons v vs ih =>
          intro xs ps us r rv e
          cases r with
          | cons r1 r2 => cases rv with
            | cons q1 q2 =>
              simp only [pyL] at e
              rename_i d ds u us
              cases f1 : py 40 R d with
              | none => simp [f1] at e
              | some p1 =>
                cases f2 : pyL (py 40 R) ds with
                | none => simp [f1, f2] at e
                | some p2 =>
                  simp only [f1, f2, Option.some.injEq] at e
                  subst e
                  obtain ⟨as, z, _⟩ := reads_py I W (S.up I) 40 r1 q1 f1
                  exact .cons ⟨q1, r1, as, z⟩ (ih ds p2 us r2 q2 f2)
      have E := all vs xs ps its k1 rv e2
      refine PySem.W.sorted_data (enc := fun b : V × D × PyData => b.2.2) hl.isList E (E.mono fun _ _ h => h.2.2) (by rw [ep]; exact c1) (by rw [ep]; exact c2) (by rw [lb]; omega) (fun b hb => ?_) fun out ho Eo => ?_
      · have : b.2.2 ∈ ps := by rw [← ep]; exact List.mem_map.mpr ⟨b, hb, rfl⟩
        have := c4 _ this
        omega
      · have fin : ∀ {us : List Value} {cs : List (V × D × PyData)}, EachIs (fun u (b : V × D × PyData) => RelV b.1 u ∧ RelD X.K w b.1 b.2.1 ∧ ∃ as, Reads s.heap u b.2.2 as) us cs → Vals (cs.map (·.1)) us ∧ RelDs X.K w (cs.map (·.1)) (cs.map (·.2.1)) := by
          intro us cs h
          induction h with
          | nil => exact ⟨.nil, .nil⟩
          | cons a _ ih => exact ⟨.cons a.1 ih.1, .cons a.2.1 ih.2⟩
        obtain ⟨v1, v2⟩ := fin Eo
        have em : (bs.mergeSort (dataLe false fun b => b.2.2)).map (fun b => b.2.1) = ((xs.zip ps).mergeSort (dataLe false (·.2))).map (·.1) := by
          rw [← eb, ← List.map_mergeSort (f := fun b : V × D × PyData => b.2) (r := dataLe false fun b => b.2.2) (fun a _ b _ => rfl), List.map_map]
          rfl
        rw [em] at v2
        refine list_ret I W q v2 v1 ?_
        rw [← em, List.length_map, List.length_mergeSort, lb]; omega
    · cases e
  · cases e
theorem cf_sorted (hu : X.A.units + 65 < cLine) (S : SM X.base) (hc : X.calm = true) : CaF X (.builtin "sorted") gSorted := by
  intro pins s σ H vs us Q I rv h
  obtain ⟨w, R, xs, zs, W, r, e, q⟩ := h
  unfold gSorted at e
  split at e
  · obtain ⟨v, rfl, r1⟩ := one_rel r
    split at e
    · rename_i ys e1
      obtain ⟨a, vs, rfl, h1, k1⟩ := lstR_rel W r1 e1
      rw [Vals.ref1 rv]
      split at e
      · rename_i ss e2
        split at e
        · rename_i c
          cases e
          obtain ⟨its, rv, hl, _⟩ := I.list h1
          have ev := strs_rel k1 e2
          have E := strs_each ev rv
          have hlen : ss.length = ys.length := by rw [← k1.length, ev]; simp
          refine PySem.W.sorted_data (enc := fun x : Str => PyData.str x) hl.isList E (E.mono fun u x ⟨t, h⟩ => ⟨[], by rw [h]; exact .str x t⟩) (AllAlike.of fun _ _ => rfl) (Sortable.others fun _ => ⟨nofun, nofun⟩) (by omega) (fun b _ => by show X.A.units + 2 + 0 < cLine; omega) fun out ho Eo => ?_
          have em : ss.mergeSort (dataLe false fun x : Str => PyData.str x) = sortStr ss := by
            rw [PySem.W.dataLe_str]; rfl
          rw [em] at Eo
          refine list_ret I W q (strs_rels _) (each_strs Eo) ?_
          rw [List.length_map]
          unfold sortStr
          rw [List.length_mergeSort]; omega
        · cases e
      · exact sortD_run hu S I W h1 k1 e q
    · split at e
      · rename_i kvs e1
        obtain ⟨a, kv, rfl, h1, k1⟩ := dk_rel W r1 e1
        split at e
        · rename_i ss e2
          split at e
          · rename_i c
            cases e
            refine call_sortedD hc pins s σ H _ us Q I rv ⟨a, kv, ss, rfl, h1, by rw [k1.1]; exact strs_of_keys (κ := Nat) e2, c, fun ys p hp hs hn => ?_⟩
            rw [sort_uniq hp (sortedS_pw hs)]
            exact q.new W hn (strs_rels _)
          · cases e
        · cases e
      · cases e
  · cases e
theorem pairs_rel (W : WR X.K w H R) : ∀ {vs : List V} {ds : List D} {kvs : List (Key × D)}, RelDs X.K w vs ds → pairsOf ds = some kvs → ∃ (ps : List Addr) (kv : List (Key × V)), vs = ps.map V.ref ∧ Paired (fun p kv => SqT X.K H p [kV kv.1, kv.2]) ps kv ∧ RelK X.K w kv kvs
  | _, [], _, r, e => by cases r; simp only [pairsOf, Option.some.injEq] at e; subst e; exact ⟨[], [], rfl, .nil, .nil⟩
  | _, d :: ds, kvs, r, e => by
    cases r with
    | cons r1 r2 =>
      unfold pairsOf at e
      split at e
      · cases ‹_ :: _ = []›
      · rename_i k v r heq
        cases heq
        split at e
        · rename_i k' kvs' e1 e2
          cases e
          obtain ⟨ps, kv, h1, h2, h3⟩ := pairs_rel W r2 e2
          cases r1 with
          | tup h4 h5 =>
            cases h5 with
            | cons a b => cases b with
              | cons b c =>
                cases c
                subst h1
                exact ⟨_ :: ps, (k', _) :: kv, rfl, .cons (by rw [← keyOf_rel a e1]; exact .of (W.sub _ _ h4)) h2, .cons rfl b h3⟩
        · cases e
      · cases e
theorem RelK.merge : ∀ {more : List (Key × D)} {mv : List (Key × V)} {kvs : List (Key × D)} {kv : List (Key × V)}, RelK X.K w mv more → RelK X.K w kv kvs → (kvs.map (·.1)).Nodup → RelK X.K w (mergeK kv mv) (mA kvs more)
  | [], mv, kvs, kv, r, q, nd => by cases r.inv0; exact q
  | p :: r, mv, kvs, kv, rr, q, nd => by
    obtain ⟨p', r', rfl, e, hd, t⟩ := rr.inv
    show RelK X.K w (mergeK (putK kv p'.1 p'.2) r') (mA (pA p.1 p.2 kvs) r)
    rw [e]
    exact RelK.merge t (q.put p.1 hd nd) (pA_nodup p.1 p.2 nd)
theorem ck_dict (hc : X.calm = true) : CaK X (.type "dict") gDict := by
  intro pins s σ H vs us Q I rv h
  obtain ⟨w, R, xs, zs, W, r, e, q⟩ := h
  unfold gDict at e
  split at e
  · obtain ⟨v, rfl, r1⟩ := one_rel r
    split at e
    · rename_i kvs e1
      cases e
      obtain ⟨a, kv, rfl, h1, k1⟩ := dk_rel W r1 e1
      exact call_dictD pins s σ H _ us Q I rv ⟨a, kv, rfl, h1, fun p hp => q.new W hp k1⟩
    · split at e
      · rename_i ys e1
        obtain ⟨kvs, e2, e3⟩ := Option.map_eq_some_iff.mp e
        subst e3
        obtain ⟨a, vs, rfl, h1, k1⟩ := lstR_rel W r1 e1
        obtain ⟨ps, kv, rfl, h2, h3⟩ := pairs_rel W k1 e2
        exact call_dictP hc pins s σ H _ us Q I rv ⟨a, ps, kv, rfl, h1, h2, fun p hp => q.new W hp (RelK.merge h3 .nil List.nodup_nil)⟩
      · cases e
  · cases e
theorem cd_tuple : CaD X (.type "tuple") gTuple := by
  intro pins s σ H vs us Q I rv h
  obtain ⟨w, R, xs, W, r, q⟩ := h
  unfold gTuple at q
  split at q
  · rename_i x
    obtain ⟨v, rfl, r1⟩ := one_rel r
    obtain ⟨ys, e, q⟩ := ro_map q
    have q : Ret X.K w H R (.tup ys) Q := q
    have rest : lstR R x = some ys → wpAny (model X.prog X.w) X.A (call (.type "tuple") us) (EP X pins σ Q) X.xe s := fun e => by
      obtain ⟨b, vs2, rfl, h1, k1⟩ := lstR_rel W r1 e
      exact call_tuple_of pins s σ H _ us Q I rv ⟨b, _, rfl, .inl ⟨h1, fun l hl => Ret.newT q W hl k1⟩⟩
    cases x with
    | tup zs =>
      simp only [seqOf, Option.some.injEq] at e
      subst e
      cases r1 with
      | tup h2 h3 => exact call_tuple_of pins s σ H _ us Q I rv ⟨_, _, rfl, .inr ⟨.of (W.sub _ _ h2), Ret.now q W (.tup h2 h3)⟩⟩
    | _ => exact rest e
  · exact q.elim
theorem cd_repr (hu : X.A.units + 65 < cLine) (S : SM X.base) (hg : X.A.guards = some []) : CaD X (.builtin "repr") gRepr := by
  intro pins s σ H vs us Q I rv h
  obtain ⟨w, R, xs, W, r, q⟩ := h
  unfold gRepr at q
  split at q
  · obtain ⟨v, rfl, r1⟩ := one_rel r
    obtain ⟨u, rfl, ru⟩ := vals1 rv
    split at q
    · cases r1; cases ru; exact PySem.P.repr_of_none ⟨.str _, H, I.tok _, ⟨_, rfl⟩, Ret.now q W (.str _)⟩
    · cases r1; cases ru; exact PySem.P.repr_of_bool ⟨.str _, H, I.tok _, ⟨_, rfl⟩, Ret.now q W (.str _)⟩
    · cases r1; obtain ⟨t, rfl⟩ := ru
      split at q
      · rename_i c; exact PySem.P.repr_of_int c ⟨.str _, H, I.tok _, ⟨_, rfl⟩, Ret.now q W (.str _)⟩
      · exact q.elim
    · cases r1; obtain ⟨t, rfl⟩ := ru
      split at q
      · rename_i c; exact PySem.P.repr_of_str ⟨.str _, H, I.tok _, ⟨_, rfl⟩, Ret.now q W (.str _)⟩ c
      · exact q.elim
    · split at q
      · rename_i p e
        split at q
        · rename_i c
          obtain ⟨c1, c2, c3⟩ := c
          obtain ⟨as, z, nm⟩ := reads_py I W (S.up I) 40 r1 ru e
          have go : ∀ {a : Addr}, u = .ref a → wpAny (model X.prog X.w) X.A (call (.builtin "repr") [u]) (EP X pins σ Q) X.xe s := fun {a} eu => by
            subst eu
            exact repr_of_reads' z c1 (fun _ => nm) hg (by omega) (fun _ _ h => h) (fun h' u tk hk => ⟨.str _, H, I.kept hk, ⟨_, rfl⟩, Ret.now q W (.str _)⟩) c3
          cases r1 <;> first | (cases ru; exact go rfl) | (exfalso; simp_all; done)
        · exact q.elim
      · exact q.elim
  · exact q.elim
end
end Y
end
end
section
set_option Elab.async false
set_option linter.all false
set_option maxRecDepth 100000
set_option maxHeartbeats 4000000
noncomputable section
namespace Y
open PySem PySem.Spec PyProof.Rows L2
open Classical

/-! ### methods of str -/
def gJoin (R : Wd) (x : D) : List D → Ro
  | [y] => match x with
    | .str a => ((seqOf R y).bind strsOf).bind fun ss => if (ss.map (·.length)).sum + ss.length * a.length ≤ 16777216 then some (.str (Txt.join a ss), R) else none
    | _ => none
  | _ => none
def gSplit (R : Wd) (x : D) : List D → Option (List D)
  | [.str b] => match x with
    | .str a => if (b.length == 0) = false ∧ a.length + 2 ≤ sizeLine then some ((Txt.split a b).map .str) else none
    | _ => none
  | [] => match x with
    | .str a => if a.length + 2 ≤ sizeLine then some ((Txt.words a).map .str) else none
    | _ => none
  | _ => none
def gPart (R : Wd) (x : D) : List D → Ro
  | [.str b] => match x with
    | .str a => if (b.length == 0) = false ∧ a.length ≤ sizeLine then some (.tup [.str (Txt.partition a b).1, .str (Txt.partition a b).2.1, .str (Txt.partition a b).2.2], R) else none
    | _ => none
  | _ => none
def gEnds (R : Wd) (x : D) : List D → Ro
  | [.str b] => match x with
    | .str a => some (.bl (Txt.endswith a b), R)
    | _ => none
  | _ => none
def gUpper (R : Wd) (x : D) : List D → Ro
  | [] => match x with
    | .str a => if a.length ≤ 5592405 then some (.str (Txt.upper a), R) else none
    | _ => none
  | _ => none
section
variable {X : Cx}
theorem ro_bind {K : PySem.W.Frag} {α : Type} {o : Option α} {f : α → Ro} {w : Wt} {H : Hp} {Q : VK} (h : RetR K w H (o.bind f) Q) : ∃ a, o = some a ∧ RetR K w H (f a) Q := by
  cases o with
  | none => exact h.elim
  | some a => exact ⟨a, rfl, h⟩
theorem md_join : MtD X "str.join" gJoin := by
  intro pins s σ H x xs v us Q I rx rxs h
  obtain ⟨w, R, y, ys, W, r, rs, q⟩ := h
  unfold gJoin at q
  split at q
  · obtain ⟨v1, rfl, r1⟩ := one_rel rs
    split at q
    · cases r
      rename_i a
      obtain ⟨ss, e, q2⟩ := ro_bind q
      obtain ⟨zs, e1, e2⟩ := Option.bind_eq_some_iff.mp e
      obtain ⟨b, vs, rfl, h1, k1⟩ := seqOf_rel W r1 e1
      split at q2
      · rename_i c
        rw [strs_rel k1 e2] at h1
        exact mt_join pins s σ H _ _ v us Q I rx rxs ⟨a, b, ss, rfl, rfl, h1, c, Ret.now q2 W (.str _)⟩
      · exact q2.elim
    · exact q.elim
  · exact q.elim
theorem mf_split : MtF X "str.split" gSplit := by
  intro pins s σ H x xs v us Q I rx rxs h
  obtain ⟨w, R, y, ys, zs, W, r, rs, e, q⟩ := h
  unfold gSplit at e
  split at e
  · obtain ⟨v1, rfl, r1⟩ := one_rel rs
    cases r1
    split at e
    · cases r
      split at e
      · rename_i c
        cases e
        exact mt_split pins s σ H _ _ v us Q I rx rxs ⟨_, _, rfl, rfl, c.1, c.2, fun p hp => q.new W hp (strs_rels _)⟩
      · cases e
    · cases e
  · cases rs
    split at e
    · cases r
      split at e
      · rename_i c
        cases e
        exact mt_words pins s σ H _ _ v us Q I rx rxs ⟨_, rfl, rfl, c, fun p hp => q.new W hp (strs_rels _)⟩
      · cases e
    · cases e
  · cases e
theorem md_part : MtD X "str.partition" gPart := by
  intro pins s σ H x xs v us Q I rx rxs h
  obtain ⟨w, R, y, ys, W, r, rs, q⟩ := h
  unfold gPart at q
  split at q
  · obtain ⟨v1, rfl, r1⟩ := one_rel rs
    cases r1
    split at q
    · cases r
      split at q
      · rename_i c
        exact mt_partition pins s σ H _ _ v us Q I rx rxs ⟨_, _, rfl, rfl, c.1, c.2, fun p hp => Ret.newT q W hp (.cons (.str _) (.cons (.str _) (.cons (.str _) .nil)))⟩
      · exact q.elim
    · exact q.elim
  · exact q.elim
theorem md_ends : MtD X "str.endswith" gEnds := by
  intro pins s σ H x xs v us Q I rx rxs h
  obtain ⟨w, R, y, ys, W, r, rs, q⟩ := h
  unfold gEnds at q
  split at q
  · obtain ⟨v1, rfl, r1⟩ := one_rel rs
    cases r1
    split at q
    · cases r
      exact mt_endswith pins s σ H _ _ v us Q I rx rxs ⟨_, _, rfl, rfl, Ret.now q W (.bl _)⟩
    · exact q.elim
  · exact q.elim
theorem md_upper : MtD X "str.upper" gUpper := by
  intro pins s σ H x xs v us Q I rx rxs h
  obtain ⟨w, R, y, ys, W, r, rs, q⟩ := h
  unfold gUpper at q
  split at q
  · cases rs
    split at q
    · cases r
      split at q
      · rename_i c
        exact mt_upper pins s σ H _ _ v us Q I rx rxs ⟨_, rfl, rfl, c, Ret.now q W (.str _)⟩
      · exact q.elim
    · exact q.elim
  · exact q.elim
end

/-! ### methods of list -/
def cellL (R : Wd) : D → Option (Nat × List D)
  | .ref i => match R[i]? with
    | some (.lst xs) => some (i, xs)
    | _ => none
  | _ => none
def gAppend (R : Wd) (x : D) : List D → Ro
  | [y] => (cellL R x).bind fun c => if c.2.length < sizeLine then some (.non, R.set c.1 (.lst (c.2 ++ [y]))) else none
  | _ => none
def gExtend (R : Wd) (x : D) : List D → Ro
  | [y] => (cellL R x).bind fun c => (lstOf R y).bind fun ys => if c.2.length + ys.length ≤ sizeLine then some (.non, R.set c.1 (.lst (c.2 ++ ys))) else none
  | _ => none
def gPop (R : Wd) (x : D) : List D → Ro
  | [] => (cellL R x).bind fun c => (c.2[c.2.length - 1]?).map fun d => (d, R.set c.1 (.lst c.2.dropLast))
  | [.int i] => (cellL R x).bind fun c => if -(2 ^ 63) ≤ i ∧ i < 2 ^ 63 then (seqIndex? i c.2.length).bind fun k => (c.2[k]?).map fun d => (d, R.set c.1 (.lst (c.2.eraseIdx k))) else none
  | _ => none
def gRev (R : Wd) (x : D) : List D → Ro
  | [] => (cellL R x).map fun c => (.non, R.set c.1 (.lst c.2.reverse))
  | _ => none
def gClear (R : Wd) (x : D) : List D → Ro
  | [] => (cellL R x).map fun c => (.non, R.set c.1 (.lst []))
  | _ => none
def gInsert (R : Wd) (x : D) : List D → Ro
  | [.int i, y] => (cellL R x).bind fun c => if c.2.length < sizeLine ∧ 0 ≤ i ∧ i < 2 ^ 63 then some (.non, R.set c.1 (.lst (c.2.take i.toNat ++ [y] ++ c.2.drop i.toNat))) else none
  | _ => none
section
variable {X : Cx} {K : PySem.W.Frag} {w : Wt} {H : Hp} {R : Wd}
theorem cellL_rel (W : WR K w H R) {x : D} {v : V} (r : RelD K w v x) {c : Nat × List D} (e : cellL R x = some c) : ∃ a vs, v = .ref a ∧ H a = some (.lst vs) ∧ RelDs K w vs c.2 ∧
    ∀ vs' xs', RelDs K w vs' xs' → WR K w (upd H a (.lst vs')) (R.set c.1 (.lst xs')) ∧ Stp w H w (upd H a (.lst vs')) := by
  unfold cellL at e
  split at e
  · split at e
    · rename_i e1
      cases e
      obtain ⟨a, vs, h1, _, h2, h3, h4⟩ := lst_cell W e1 r
      exact ⟨a, vs, h1, h2, h3, h4⟩
    · cases e
  · cases e
/-- the answer behind a write -/
theorem Ret.wr {R' : Wd} {x : D} {Q : VK} {H' : Hp} {v : V} (q : Ret K w H R' x Q) (h : WR K w H' R' ∧ Stp w H w H') (r : RelD K w v x) : Q v H' := q v w H' h.2 h.1 r
theorem RelDs.last : ∀ {vs : List V} {ds : List D}, RelDs K w vs ds → RelDs K w vs.dropLast ds.dropLast
  | _, [], h => by cases h; exact .nil
  | _, [d], h => by cases h with | cons a b => cases b; exact .nil
  | _, d :: e :: ds, h => by
    cases h with
    | cons a b => cases b with | cons b c => exact .cons a (RelDs.last (.cons b c))
theorem RelDs.erase : ∀ {vs : List V} {ds : List D} (k : Nat), RelDs K w vs ds → RelDs K w (vs.eraseIdx k) (ds.eraseIdx k)
  | _, [], k, h => by cases h; exact .nil
  | _, d :: ds, 0, h => by cases h with | cons a b => exact b
  | _, d :: ds, k + 1, h => by cases h with | cons a b => exact .cons a (RelDs.erase k b)
theorem RelDs.takeD : ∀ {vs : List V} {ds : List D} (n : Nat), RelDs K w vs ds → RelDs K w (vs.take n) (ds.take n)
  | _, _, 0, h => .nil
  | _, [], n + 1, h => by cases h; exact .nil
  | _, d :: ds, n + 1, h => by cases h with | cons a b => exact .cons a (RelDs.takeD n b)
theorem RelDs.dropD : ∀ {vs : List V} {ds : List D} (n : Nat), RelDs K w vs ds → RelDs K w (vs.drop n) (ds.drop n)
  | _, _, 0, h => h
  | _, [], n + 1, h => by cases h; exact .nil
  | _, d :: ds, n + 1, h => by cases h with | cons a b => exact RelDs.dropD n b
theorem RelDs.rev : ∀ {vs : List V} {ds : List D}, RelDs K w vs ds → RelDs K w vs.reverse ds.reverse
  | _, [], h => by cases h; exact .nil
  | _, d :: ds, h => by
    cases h with
    | cons a b => rw [List.reverse_cons, List.reverse_cons]; exact (RelDs.rev b).app (.cons a .nil)
theorem md_append : MtD X "list.append" gAppend := by
  intro pins s σ H x xs v us Q I rx rxs h
  obtain ⟨w, R, y, ys, W, r, rs, q⟩ := h
  unfold gAppend at q
  split at q
  · obtain ⟨v1, rfl, r1⟩ := one_rel rs
    obtain ⟨c, e, q⟩ := ro_bind q
    obtain ⟨a, vs, rfl, h1, k1, wr⟩ := cellL_rel W r e
    split at q
    · rename_i hl
      exact mt_append pins s σ H _ _ v us Q I rx rxs ⟨a, vs, v1, rfl, rfl, h1, by rw [k1.length]; exact hl, Ret.wr q (wr _ _ (k1.app (.cons r1 .nil))) .non⟩
    · exact q.elim
  · exact q.elim
theorem md_extend : MtD X "list.extend" gExtend := by
  intro pins s σ H x xs v us Q I rx rxs h
  obtain ⟨w, R, y, ys, W, r, rs, q⟩ := h
  unfold gExtend at q
  split at q
  · obtain ⟨v1, rfl, r1⟩ := one_rel rs
    obtain ⟨c, e, q⟩ := ro_bind q
    obtain ⟨zs, e2, q⟩ := ro_bind q
    obtain ⟨a, vs, rfl, h1, k1, wr⟩ := cellL_rel W r e
    obtain ⟨b, ws, rfl, h2, k2⟩ := lst_rel W r1 e2
    split at q
    · rename_i hl
      exact mt_extend pins s σ H _ _ v us Q I rx rxs ⟨a, b, vs, ws, rfl, rfl, h1, h2, by rw [k1.length, k2.length]; exact hl, Ret.wr q (wr _ _ (k1.app k2)) .non⟩
    · exact q.elim
  · exact q.elim
theorem md_pop : MtD X "list.pop" gPop := by
  intro pins s σ H x xs v us Q I rx rxs h
  obtain ⟨w, R, y, ys, W, r, rs, q⟩ := h
  unfold gPop at q
  split at q
  · cases rs
    obtain ⟨c, e, q⟩ := ro_bind q
    obtain ⟨d, e2, q⟩ := ro_map q
    obtain ⟨a, vs, rfl, h1, k1, wr⟩ := cellL_rel W r e
    rw [← k1.length] at e2
    obtain ⟨v1, e3, r1⟩ := k1.get e2
    exact mt_pop pins s σ H _ _ v us Q I rx rxs ⟨a, vs, v1, rfl, rfl, h1, e3, Ret.wr q (wr _ _ k1.last) r1⟩
  · obtain ⟨v1, rfl, r1⟩ := one_rel rs
    cases r1
    obtain ⟨c, e, q⟩ := ro_bind q
    split at q
    · rename_i hi
      obtain ⟨k, e1, q⟩ := ro_bind q
      obtain ⟨d, e2, q⟩ := ro_map q
      obtain ⟨a, vs, rfl, h1, k1, wr⟩ := cellL_rel W r e
      obtain ⟨v1, e3, r1⟩ := k1.get e2
      exact mt_popAt pins s σ H _ _ v us Q I rx rxs ⟨a, vs, _, k, v1, rfl, rfl, h1, hi.1, hi.2, by rw [k1.length]; exact e1, e3, Ret.wr q (wr _ _ (k1.erase k)) r1⟩
    · exact q.elim
  · exact q.elim
theorem md_rev : MtD X "list.reverse" gRev := by
  intro pins s σ H x xs v us Q I rx rxs h
  obtain ⟨w, R, y, ys, W, r, rs, q⟩ := h
  unfold gRev at q
  split at q
  · cases rs
    obtain ⟨c, e, q⟩ := ro_map q
    obtain ⟨a, vs, rfl, h1, k1, wr⟩ := cellL_rel W r e
    exact mt_reverse pins s σ H _ _ v us Q I rx rxs ⟨a, vs, rfl, rfl, h1, Ret.wr q (wr _ _ k1.rev) .non⟩
  · exact q.elim
theorem md_clear : MtD X "list.clear" gClear := by
  intro pins s σ H x xs v us Q I rx rxs h
  obtain ⟨w, R, y, ys, W, r, rs, q⟩ := h
  unfold gClear at q
  split at q
  · cases rs
    obtain ⟨c, e, q⟩ := ro_map q
    obtain ⟨a, vs, rfl, h1, k1, wr⟩ := cellL_rel W r e
    exact mt_clear pins s σ H _ _ v us Q I rx rxs ⟨a, vs, rfl, rfl, h1, Ret.wr q (wr _ _ .nil) .non⟩
  · exact q.elim
theorem md_insert : MtD X "list.insert" gInsert := by
  intro pins s σ H x xs v us Q I rx rxs h
  obtain ⟨w, R, y, ys, W, r, rs, q⟩ := h
  unfold gInsert at q
  split at q
  · obtain ⟨v1, v2, rfl, r1, r2⟩ := two_rel rs
    cases r1
    obtain ⟨c, e, q⟩ := ro_bind q
    obtain ⟨a, vs, rfl, h1, k1, wr⟩ := cellL_rel W r e
    split at q
    · rename_i hl
      exact mt_insert pins s σ H _ _ v us Q I rx rxs ⟨a, vs, _, v2, rfl, rfl, h1, by rw [k1.length]; exact hl.1, hl.2.1, hl.2.2, Ret.wr q (wr _ _ (((k1.takeD _).app (.cons r2 .nil)).app (k1.dropD _))) .non⟩
    · exact q.elim
  · exact q.elim
end
end Y
end
end
section
set_option Elab.async false
set_option linter.all false
set_option maxRecDepth 100000
set_option maxHeartbeats 4000000
noncomputable section
namespace Y
open PySem PySem.Spec PyProof.Rows L2
open Classical

/-! ### what is walked: lists, texts, dicts -/
def okAt (R : Wd) : D → Wd → Prop
  | .ref i => fun R' => R'[i]? = R[i]?
  | .sub i _ => fun R' => R'[i]? = R[i]?
  | _ => fun _ => True
def oFr : O → Option (List (Key × D))
  | .lkK kvs => some kvs
  | .fz (.dic kvs) => some kvs
  | _ => none
def oFrT : O → Option (List (List Key × D))
  | .lkT kvs => some kvs
  | .fz (.dct kvs) => some kvs
  | _ => none
def frK (R : Wd) : D → Option (List (Key × D))
  | .dic kvs => some kvs
  | .ref i => R[i]?.bind oFr
  | _ => none
def frT (R : Wd) : D → Option (List (List Key × D))
  | .dct kvs => some kvs
  | .ref i => R[i]?.bind oFrT
  | _ => none
def tupD (k : List Key) : D := .tup (k.map dKy)
def itsOf (R : Wd) (x : D) : Option (List D × (Wd → Prop)) := match x with
  | .str z => if z.length ≤ sizeLine then some (z.cps.toList.map fun c => .str ⟨#[c]⟩, fun _ => True) else none
  | x => match lstR R x with
    | some xs => some (xs, okAt R x)
    | none => match frK R x with
      | some kvs => some (kvs.map fun p => dKy p.1, okAt R x)
      | none => none
section
variable {K : PySem.W.Frag} {w w' : Wt} {H H' : Hp} {R R' : Wd} {v : V} {x : D}
theorem lstR_ok {xs : List D} (e : lstR R x = some xs) (h : okAt R x R') : lstR R' x = some xs := by
  cases x with
  | ref i => simp only [lstR, lstOf] at e ⊢; have h : R'[i]? = R[i]? := h; rw [h]; exact e
  | sub i k => simp only [lstR, lstOf] at e ⊢; have h : R'[i]? = R[i]? := h; rw [h]; exact e
  | _ => exact e
theorem frK_rel (W : WR K w H R) (h : RelD K w v x) {kvs : List (Key × D)} (e : frK R x = some kvs) : ∃ d o kv, v = .ref d ∧ H d = some (.frz o (.dK kv)) ∧ RelK K w kv kvs ∧
    ∀ w' H' R', w.le w' → WR K w' H' R' → okAt R x R' → H' d = some (.frz o (.dK kv)) := by
  cases h with
  | dic h1 h2 h3 => simp only [frK, Option.some.injEq] at e; subst e; exact ⟨_, _, _, rfl, W.sub _ _ h1, ⟨h2, h3⟩, fun w' H' R' l W' _ => W'.sub _ _ (l.hs _ _ h1)⟩
  | @ref i a hm =>
    simp only [frK] at e
    cases c : R[i]? with
    | none => simp [c] at e
    | some ob =>
      have cell := W.cell i ob c
      simp only [c, Option.bind_some] at e
      cases ob with
      | lkK ys =>
        simp only [oFr, Option.some.injEq] at e; subst e
        obtain ⟨b, o, vs, h1, h0, h2, h3, h4⟩ := cell
        rw [hm] at h1; cases h1
        refine ⟨a, o, vs, rfl, h3, h4, fun w' H' R' l W' ok => ?_⟩
        have ok : R'[i]? = R[i]? := ok
        obtain ⟨b', o', vs', k1, k0, k2, k3, k4⟩ := W'.cell i _ (ok.trans c)
        rw [l.m _ _ hm] at k1; cases k1
        rw [l.lk _ _ h0] at k0; cases k0
        exact k3
      | fz d =>
        obtain ⟨b, h1, h2⟩ := cell
        rw [hm] at h1; cases h1
        cases d with
        | dic ys =>
          simp only [oFr, Option.some.injEq] at e; subst e
          cases h2 with | dic h3 h4 h5 => exact ⟨_, _, _, rfl, W.sub _ _ h3, ⟨h4, h5⟩, fun w' H' R' l W' _ => W'.sub _ _ (l.hs _ _ h3)⟩
        | _ => simp [oFr] at e
      | _ => simp [oFr] at e
  | _ => simp [frK] at e
theorem frT_rel (W : WR K w H R) (h : RelD K w v x) {kvs : List (List Key × D)} (e : frT R x = some kvs) : ∃ d o kv, v = .ref d ∧ H d = some (.frz o (.dT kv)) ∧ RelK K w kv kvs ∧
    ∀ w' H' R', w.le w' → WR K w' H' R' → okAt R x R' → H' d = some (.frz o (.dT kv)) := by
  cases h with
  | dct h1 h2 h3 => simp only [frT, Option.some.injEq] at e; subst e; exact ⟨_, _, _, rfl, W.sub _ _ h1, ⟨h2, h3⟩, fun w' H' R' l W' _ => W'.sub _ _ (l.hs _ _ h1)⟩
  | @ref i a hm =>
    simp only [frT] at e
    cases c : R[i]? with
    | none => simp [c] at e
    | some ob =>
      have cell := W.cell i ob c
      simp only [c, Option.bind_some] at e
      cases ob with
      | lkT ys =>
        simp only [oFrT, Option.some.injEq] at e; subst e
        obtain ⟨b, o, vs, h1, h0, h2, h3, h4⟩ := cell
        rw [hm] at h1; cases h1
        refine ⟨a, o, vs, rfl, h3, h4, fun w' H' R' l W' ok => ?_⟩
        have ok : R'[i]? = R[i]? := ok
        obtain ⟨b', o', vs', k1, k0, k2, k3, k4⟩ := W'.cell i _ (ok.trans c)
        rw [l.m _ _ hm] at k1; cases k1
        rw [l.lk _ _ h0] at k0; cases k0
        exact k3
      | fz d =>
        obtain ⟨b, h1, h2⟩ := cell
        rw [hm] at h1; cases h1
        cases d with
        | dct ys =>
          simp only [oFrT, Option.some.injEq] at e; subst e
          cases h2 with | dct h3 h4 h5 => exact ⟨_, _, _, rfl, W.sub _ _ h3, ⟨h4, h5⟩, fun w' H' R' l W' _ => W'.sub _ _ (l.hs _ _ h3)⟩
        | _ => simp [oFrT] at e
      | _ => simp [oFrT] at e
  | _ => simp [frT] at e
theorem RelK.nth {κ : Type} {kv : List (κ × V)} {kvs : List (κ × D)} (h : RelK K w kv kvs) {i : Nat} {p : κ × D} (e : kvs[i]? = some p) : ∃ v, kv[i]? = some (p.1, v) ∧ RelD K w v p.2 := by
  have e1 : (kvs.map (·.1))[i]? = some p.1 := by rw [List.getElem?_map, e]; rfl
  have e2 : (kvs.map (·.2))[i]? = some p.2 := by rw [List.getElem?_map, e]; rfl
  rw [← h.1, List.getElem?_map] at e1
  obtain ⟨v, e3, r⟩ := h.2.get e2
  rw [List.getElem?_map] at e3
  cases e4 : kv[i]? with
  | none => rw [e4] at e1; cases e1
  | some q =>
    rw [e4] at e1 e3
    have e1 : q.1 = p.1 := Option.some.inj e1
    have e3 : q.2 = v := Option.some.inj e3
    exact ⟨v, by rw [← e1, ← e3], r⟩
theorem dKy_one (k : Key) : RelD K w (kV k) (dKy k) := by
  cases k with
  | inl i => exact .int i
  | inr x => exact .str x
theorem its_lst (W : WR K w H R) {a : Addr} {xs : List D} (r : RelD K w (.ref a) x) (e : lstR R x = some xs) : ItsR K (Itl K a) w xs (okAt R x) := by
  intro w1 H1 R1 l W1 ok
  obtain ⟨b, vs, e1, h1, k1⟩ := lstR_rel W1 (r.mono l) (lstR_ok e ok)
  cases e1
  refine ⟨fun i d ed => ?_, fun i hi => ⟨vs, h1, by rw [k1.length]; exact hi⟩⟩
  obtain ⟨u, e2, r2⟩ := k1.get ed
  exact ⟨⟨vs, u, h1, e2⟩, fun y H2 ⟨e3, q⟩ => by
    subst e3
    have e4 := q vs h1
    rw [e2] at e4; cases e4
    exact ⟨w1, .refl, W1, r2⟩⟩
theorem its_str (z : Str) : ItsR K (Its z) w (z.cps.toList.map fun c => D.str ⟨#[c]⟩) fun _ => True := by
  intro w1 H1 R1 l W1 ok
  refine ⟨fun i d ed => ?_, fun i hi => (show z.cps.size ≤ i by simpa using hi)⟩
  rw [List.getElem?_map] at ed
  obtain ⟨c, e1, e2⟩ := Option.map_eq_some_iff.mp ed
  subst e2
  have hl : i < z.cps.size := by
    by_cases h : i < z.cps.size
    · exact h
    · rw [List.getElem?_eq_none (by simpa using h)] at e1; cases e1
  refine ⟨hl, fun y H2 ⟨e3, c', e4, e5⟩ => ?_⟩
  subst e3
  have : c' = c := by
    rw [← Array.getElem?_toList, e1] at e4
    exact (Option.some.inj e4).symm
  rw [this] at e5
  subst e5
  exact ⟨w1, .refl, W1, .str _⟩
theorem its_keys {d : Addr} {o : Obj} {kv : List (Key × V)} {kvs : List (Key × D)} (rk : RelK K w kv kvs) (st : ∀ w' H' R', w.le w' → WR K w' H' R' → okAt R x R' → H' d = some (.frz o (.dK kv))) :
    ItsR K (Itk d o kv) w (kvs.map fun p => dKy p.1) (okAt R x) := by
  intro w1 H1 R1 l W1 ok
  have h1 := st w1 H1 R1 l W1 ok
  refine ⟨fun i y ed => ?_, fun i hi => ⟨h1, by rw [rk.length]; simpa using hi⟩⟩
  rw [List.getElem?_map] at ed
  obtain ⟨p, e1, e2⟩ := Option.map_eq_some_iff.mp ed
  subst e2
  obtain ⟨u, e3, r⟩ := rk.nth e1
  refine ⟨⟨h1, ?_⟩, fun y H2 ⟨e4, k, v', e5, e6⟩ => ?_⟩
  · by_cases c : i < kv.length
    · exact c
    · rw [List.getElem?_eq_none (by omega)] at e3; cases e3
  · subst e4
    rw [e3] at e5; cases e5
    subst e6
    exact ⟨w1, .refl, W1, dKy_one _⟩
theorem its_vals {d : Addr} {o : Obj} {kv : List (Key × V)} {kvs : List (Key × D)} (rk : RelK K w kv kvs) (st : ∀ w' H' R', w.le w' → WR K w' H' R' → okAt R x R' → H' d = some (.frz o (.dK kv))) :
    ItsR K (Itd d o kv) w (kvs.map fun p => p.2) (okAt R x) := by
  intro w1 H1 R1 l W1 ok
  have h1 := st w1 H1 R1 l W1 ok
  refine ⟨fun i y ed => ?_, fun i hi => ⟨h1, by rw [rk.length]; simpa using hi⟩⟩
  rw [List.getElem?_map] at ed
  obtain ⟨p, e1, e2⟩ := Option.map_eq_some_iff.mp ed
  subst e2
  obtain ⟨u, e3, r⟩ := rk.nth e1
  refine ⟨⟨h1, ?_⟩, fun y H2 ⟨e4, k, e5⟩ => ?_⟩
  · by_cases c : i < kv.length
    · exact c
    · rw [List.getElem?_eq_none (by omega)] at e3; cases e3
  · subst e4
    rw [e3] at e5; cases e5
    exact ⟨w1, .refl, W1, r.mono l⟩
theorem its_items {d : Addr} {o : Obj} {kv : List (Key × V)} {kvs : List (Key × D)} (rk : RelK K w kv kvs) (st : ∀ w' H' R', w.le w' → WR K w' H' R' → okAt R x R' → H' d = some (.frz o (.dK kv))) :
    ItsR K (Iti d o kv) w (kvs.map fun p => .tup [dKy p.1, p.2]) (okAt R x) := by
  intro w1 H1 R1 l W1 ok
  have h1 := st w1 H1 R1 l W1 ok
  refine ⟨fun i y ed => ?_, fun i hi => ⟨h1, by rw [rk.length]; simpa using hi⟩⟩
  rw [List.getElem?_map] at ed
  obtain ⟨p, e1, e2⟩ := Option.map_eq_some_iff.mp ed
  subst e2
  obtain ⟨u, e3, r⟩ := rk.nth e1
  refine ⟨⟨h1, ?_⟩, fun y H2 ⟨T, k, v', e5, e6, e7, e8⟩ => ?_⟩
  · by_cases c : i < kv.length
    · exact c
    · rw [List.getElem?_eq_none (by omega)] at e3; cases e3
  · rw [e3] at e5; cases e5
    subst e6 e8
    have le := Stp.alloc (o := HO.tup [kV p.1, u]) W1 e7
    exact ⟨_, le, W1.alloc e7, .tup upd_same (.cons (dKy_one _) (.cons ((r.mono l).mono le.le) .nil))⟩
theorem tkey_rel : ∀ (k : List Key), RelDs K w (k.map kV) (k.map dKy)
  | [] => .nil
  | k :: ks => .cons (dKy_one k) (tkey_rel ks)
def dIts (e : DE) : DI := fun ρ R => (e ρ R).bind fun x R1 => match itsOf R1 x with
  | some p => if p.1.length ≤ sizeLine then .ok p R1 else .stuck
  | none => .stuck
end
/-- a list, a text, a dict (locked or frozen), by value -/
def iAny (K : PySem.W.Frag) (t : TE) : TI := fun σ H R => t σ H fun x H1 => (∃ a, x = .ref a ∧ (∃ xs, SqL K H1 a xs) ∧ R (Itl K a) H1) ∨ (∃ z, x = .str z ∧ R (Its z) H1) ∨
  ∃ d o, x = .ref d ∧ ((∃ kvs, H1 d = some (.frz o (.dK kvs)) ∧ R (Itk d o kvs) H1) ∨ ∃ kvs, H1 d = some (.frz o (.dT kvs)) ∧ R (Itkt d o kvs) H1)
section
variable {X : Cx} {W : WX} {tg e : Expr} {de : DE}
theorem pi_any {te : TE} (he : PE X e te) : PI X tg e (iAny X.K te) := by
  refine ⟨fun pins s σ H R I h => thn (he.run pins s σ H _ I h) fun v s1 ⟨y, H1, J, rv, q⟩ => ?_⟩
  rcases q with ⟨a, rfl, ⟨xs, hq⟩, q⟩ | ⟨z, rfl, q⟩ | ⟨d, o, rfl, q⟩
  · cases rv
    obtain ⟨its, _, pl, _⟩ := J.list hq
    exact wpAny_pyIter_list pl.isList (pi_one (tk := s1.toks) J _ (turn_list a _) ⟨_, Heap.get?_push_size _ rfl, rfl, rfl⟩ q)
  · obtain ⟨t, rfl⟩ := rv
    by_cases c : z.cps.all (· < 128) = true
    · exact wpAny_pyIter_ascii c (pi_one (tk := s1.toks) J _ (turn_str _ z t "str_ascii_iterator" (.inl rfl)) ⟨_, Heap.get?_push_size _ rfl, rfl, rfl⟩ q)
    · exact wpAny_pyIter_wide (by simpa using c) (pi_one (tk := s1.toks) J _ (turn_str _ z t "str_iterator" (.inr rfl)) ⟨_, Heap.get?_push_size _ rfl, rfl, rfl⟩ q)
  · cases rv
    rcases q with ⟨kvs, hd, q⟩ | ⟨kvs, hd, q⟩
    · obtain ⟨h1, h2, h3, es, ep, vs, h4, h5, _⟩ := J.frzK hd
      exact iter_keys h1 h2 h3 h4 (pi_one (tk := s1.toks) J _ (turn_keys _ h4) ⟨_, Heap.get?_push_size _ rfl, rfl, by rw [h5] <;> rfl⟩ q)
    · obtain ⟨h1, h2, h3, es, ep, h4, h5, _⟩ := J.frzT hd
      exact iter_keys h1 h2 h3 h4 (pi_one (tk := s1.toks) J _ (turn_keysT _ h4) ⟨_, Heap.get?_push_size _ rfl, rfl, by rw [h5] <;> rfl⟩ q)
theorem id_any (he : ED X W e de) : ID X W tg e (dIts de) := by
  refine ⟨fun pins s σ H P I h => (pi_any he).run pins s σ H P I ?_⟩
  obtain ⟨w, ρ, R, A, p⟩ := h
  refine ⟨w, ρ, R, A, (Post.bind p).imp fun x R1 p1 v w1 H1 l1 W1 r1 => ?_⟩
  cases ei : itsOf R1 x with
  | none => rw [ei] at p1; exact p1.elim
  | some q =>
    rw [ei] at p1
    by_cases hl : q.1.length ≤ sizeLine
    · have p1 : Post X.K W w H σ (if q.1.length ≤ sizeLine then .ok q R1 else .stuck) fun p R' => ∀ J w' H', Stp w H w' H' → WR X.K w' H' R' → ItsR X.K J w' p.1 p.2 → p.1.length ≤ sizeLine → P J H' := p1
      rw [if_pos hl] at p1
      have p1 : ∀ J w' H', Stp w H w' H' → WR X.K w' H' R1 → ItsR X.K J w' q.1 q.2 → q.1.length ≤ sizeLine → P J H' := p1
      have rest : (match lstR R1 x with
        | some xs => some (xs, okAt R1 x)
        | none => match frK R1 x with
          | some kvs => some (kvs.map fun p => dKy p.1, okAt R1 x)
          | none => none) = some q → iAny X.K (tC v) σ H1 P := fun ei => by
        cases e1 : lstR R1 x with
        | some xs =>
          rw [e1] at ei; cases ei
          obtain ⟨a, vs, rfl, h1, _⟩ := lstR_rel W1 r1 e1
          exact .inl ⟨a, rfl, ⟨vs, h1⟩, p1 _ w1 H1 l1 W1 (its_lst W1 r1 e1) hl⟩
        | none =>
          rw [e1] at ei
          cases e2 : frK R1 x with
          | some kvs =>
            rw [e2] at ei; cases ei
            obtain ⟨d, o, kv, rfl, h1, rk, st⟩ := frK_rel W1 r1 e2
            exact .inr (.inr ⟨d, o, rfl, .inl ⟨kv, h1, p1 _ w1 H1 l1 W1 (its_keys rk st) hl⟩⟩)
          | none => rw [e2] at ei; cases ei
      have goal : iAny X.K (tC v) σ H1 P := by
        unfold itsOf at ei
        split at ei
        · rename_i z
          split at ei
          · cases ei
            cases r1
            exact .inr (.inl ⟨z, rfl, p1 _ w1 H1 l1 W1 (its_str z) hl⟩)
          · cases ei
        · exact rest ei
      exact goal
    · have p1 : Post X.K W w H σ (if q.1.length ≤ sizeLine then .ok q R1 else .stuck) fun p R' => ∀ J w' H', Stp w H w' H' → WR X.K w' H' R' → ItsR X.K J w' p.1 p.2 → p.1.length ≤ sizeLine → P J H' := p1
      rw [if_neg hl] at p1; exact p1.elim
/-- d.values(), d.items() of a locked or frozen dict -/
def dVals (e : DE) : DI := fun ρ R => (e ρ R).bind fun x R1 => match frK R1 x with
  | some kvs => if kvs.length ≤ sizeLine then .ok (kvs.map (fun p => p.2), okAt R1 x) R1 else .stuck
  | none => .stuck
def dItems (e : DE) : DI := fun ρ R => (e ρ R).bind fun x R1 => match frK R1 x with
  | some kvs => if kvs.length ≤ sizeLine then .ok (kvs.map (fun p => D.tup [dKy p.1, p.2]), okAt R1 x) R1 else .stuck
  | none => .stuck
theorem id_vals {apos cpos : Pos} (he : ED X W e de) (hbase : attributeBase e "values" X.env (eval e X.env) = eval e X.env := by rfl) (hline : (apos.endLine == cpos.line) = true := by rfl) : ID X W tg (.Call (.Attribute e "values" apos) [] [] cpos) (dVals de) := by
  refine ⟨fun pins s σ H P I h => (pi_values he hbase hline).run pins s σ H P I ?_⟩
  obtain ⟨w, ρ, R, A, p⟩ := h
  refine ⟨w, ρ, R, A, (Post.bind p).imp fun x R1 p1 v w1 H1 l1 W1 r1 => ?_⟩
  cases ei : frK R1 x with
  | none => rw [ei] at p1; exact p1.elim
  | some kvs =>
    rw [ei] at p1
    have p1 : Post X.K W w H σ (if kvs.length ≤ sizeLine then .ok (kvs.map (fun p => p.2), okAt R1 x) R1 else .stuck) fun p R' => ∀ J w' H', Stp w H w' H' → WR X.K w' H' R' → ItsR X.K J w' p.1 p.2 → p.1.length ≤ sizeLine → P J H' := p1
    by_cases hl : kvs.length ≤ sizeLine
    · rw [if_pos hl] at p1
      have p1 : ∀ J w' H', Stp w H w' H' → WR X.K w' H' R1 → ItsR X.K J w' (kvs.map fun p => p.2) (okAt R1 x) → (kvs.map fun p => p.2).length ≤ sizeLine → P J H' := p1
      obtain ⟨d, o, kv, rfl, h1, rk, st⟩ := frK_rel W1 r1 ei
      exact ⟨d, o, kv, rfl, h1, p1 _ w1 H1 l1 W1 (its_vals rk st) (by simpa using hl)⟩
    · rw [if_neg hl] at p1; exact p1.elim
theorem id_items {elts : List Expr} {kk : Nat} {tpos apos cpos : Pos} (he : ED X W e de) (hbase : attributeBase e "items" X.env (eval e X.env) = eval e X.env := by rfl) (hline : (apos.endLine == cpos.line) = true := by rfl) : ID X W (.Tuple elts kk tpos) (.Call (.Attribute e "items" apos) [] [] cpos) (dItems de) := by
  refine ⟨fun pins s σ H P I h => (pi_items he hbase hline).run pins s σ H P I ?_⟩
  obtain ⟨w, ρ, R, A, p⟩ := h
  refine ⟨w, ρ, R, A, (Post.bind p).imp fun x R1 p1 v w1 H1 l1 W1 r1 => ?_⟩
  cases ei : frK R1 x with
  | none => rw [ei] at p1; exact p1.elim
  | some kvs =>
    rw [ei] at p1
    have p1 : Post X.K W w H σ (if kvs.length ≤ sizeLine then .ok (kvs.map (fun p => D.tup [dKy p.1, p.2]), okAt R1 x) R1 else .stuck) fun p R' => ∀ J w' H', Stp w H w' H' → WR X.K w' H' R' → ItsR X.K J w' p.1 p.2 → p.1.length ≤ sizeLine → P J H' := p1
    by_cases hl : kvs.length ≤ sizeLine
    · rw [if_pos hl] at p1
      have p1 : ∀ J w' H', Stp w H w' H' → WR X.K w' H' R1 → ItsR X.K J w' (kvs.map fun p => D.tup [dKy p.1, p.2]) (okAt R1 x) → (kvs.map fun p => D.tup [dKy p.1, p.2]).length ≤ sizeLine → P J H' := p1
      obtain ⟨d, o, kv, rfl, h1, rk, st⟩ := frK_rel W1 r1 ei
      exact ⟨d, o, kv, rfl, h1, p1 _ w1 H1 l1 W1 (its_items rk st) (by simpa using hl)⟩
    · rw [if_neg hl] at p1; exact p1.elim
/-! range -/
def rngD (lo : Int) (n : Nat) : List D := (List.range n).map fun (i : Nat) => D.int (lo + (i : Int))
theorem its_rng {K : PySem.W.Frag} {w : Wt} (lo : Int) (n : Nat) : ItsR K (Itr lo n) w (rngD lo n) fun _ => True := by
  intro w1 H1 R1 l W1 ok
  refine ⟨fun i d ed => ?_, fun i hi => (show n ≤ i by simpa [rngD] using hi)⟩
  unfold rngD at ed
  rw [List.getElem?_map] at ed
  obtain ⟨c, e1, e2⟩ := Option.map_eq_some_iff.mp ed
  obtain ⟨hl, ec⟩ := List.getElem?_eq_some_iff.mp e1
  rw [List.getElem_range] at ec
  subst ec e2
  refine ⟨(show i < n by simpa using hl), fun y H2 ⟨e3, e4⟩ => ?_⟩
  subst e3 e4
  exact ⟨w1, .refl, W1, .int _⟩
def dRng1 (a : DE) : DI := fun ρ R => (a ρ R).bind fun x R1 => match x with
  | .int j => if -(2 ^ 62) ≤ j ∧ j < 2 ^ 62 ∧ j.toNat ≤ sizeLine then .ok (rngD 0 j.toNat, fun _ => True) R1 else .stuck
  | _ => .stuck
def dRng2 (a b : DE) : DI := fun ρ R => (a ρ R).bind fun x R1 => (b ρ R1).bind fun y R2 => match x, y with
  | .int i, .int j => if (-(2 ^ 62) ≤ i ∧ i < 2 ^ 62 ∧ -(2 ^ 62) ≤ j ∧ j < 2 ^ 62) ∧ (j - i).toNat ≤ sizeLine then .ok (rngD i (j - i).toNat, fun _ => True) R2 else .stuck
  | _, _ => .stuck
abbrev IPost (K : PySem.W.Frag) (w : Wt) (H : Hp) (P : It → Hp → Prop) : List D × (Wd → Prop) → Wd → Prop := fun p R' => ∀ J w' H', Stp w H w' H' → WR K w' H' R' → ItsR K J w' p.1 p.2 → p.1.length ≤ sizeLine → P J H'
theorem rngD_len (lo : Int) (n : Nat) : (rngD lo n).length = n := by simp [rngD]
theorem id_rng1 {a : Expr} {da : DE} {p pos : Pos} (hg : Gl X "range") (hm : X.mg "range" = none) (ha : ED X W a da) (hs : starEach [a] X.env = [(false, eval a X.env)] := by rfl) : ID X W tg (.Call (.Name "range" p) [a] [] pos) (dRng1 da) := by
  refine ⟨fun pins s σ H P I h => (pi_range1 hg hm (pa_cons ha pa_nil hs) hs).run pins s σ H P I ?_⟩
  obtain ⟨w, ρ, R, A, p⟩ := h
  refine ⟨w, ρ, R, A, (Post.bind p).imp fun x R1 p1 v w1 H1 l1 W1 r1 => ?_⟩
  cases x with
  | int j =>
    cases r1
    have p1 : Post X.K W w H σ (if -(2 ^ 62) ≤ j ∧ j < 2 ^ 62 ∧ j.toNat ≤ sizeLine then .ok (rngD 0 j.toNat, fun _ => True) R1 else .stuck) (IPost X.K w H P) := p1
    by_cases c : -(2 ^ 62) ≤ j ∧ j < 2 ^ 62 ∧ j.toNat ≤ sizeLine
    · rw [if_pos c] at p1
      have p1 : IPost X.K w H P (rngD 0 j.toNat, fun _ => True) R1 := p1
      exact ⟨j, rfl, c.1, c.2.1, p1 _ w1 H1 l1 W1 (its_rng 0 _) (by rw [rngD_len]; exact c.2.2)⟩
    · rw [if_neg c] at p1; exact p1.elim
  | _ => exact p1.elim
theorem id_rng2 {a b : Expr} {da db : DE} {p pos : Pos} (hg : Gl X "range") (hm : X.mg "range" = none) (ha : ED X W a da) (hb : ED X W b db) (hs : starEach [a, b] X.env = [(false, eval a X.env), (false, eval b X.env)] := by rfl) (hs2 : starEach [b] X.env = [(false, eval b X.env)] := by rfl) : ID X W tg (.Call (.Name "range" p) [a, b] [] pos) (dRng2 da db) := by
  refine ⟨fun pins s σ H P I h => (pi_range2 hg hm (pa_cons ha (pa_cons hb pa_nil hs2) (by rw [hs, hs2])) hs hs2).run pins s σ H P I ?_⟩
  obtain ⟨w, ρ, R, A, p⟩ := h
  refine ⟨w, ρ, R, A, (Post.bind p).imp fun x R1 p1 v w1 H1 l1 W1 r1 => ?_⟩
  refine ⟨w1, ρ, R1, A.step l1 W1, (Post.bind p1).mono l1 fun y R2 p2 u w2 H2 l2 W2 r2 => ?_⟩
  split at p2
  · rename_i i j
    cases r1; cases r2
    by_cases c : (-(2 ^ 62) ≤ i ∧ i < 2 ^ 62 ∧ -(2 ^ 62) ≤ j ∧ j < 2 ^ 62) ∧ (j - i).toNat ≤ sizeLine
    · rw [if_pos c] at p2
      have p2 : IPost X.K w H P (rngD i (j - i).toNat, fun _ => True) R2 := p2
      exact ⟨i, j, rfl, c.1, p2 _ w2 H2 (l1.trans l2) W2 (its_rng i _) (by rw [rngD_len]; exact c.2)⟩
    · rw [if_neg c] at p2; exact p2.elim
  · exact p2.elim
/-! zip, enumerate -/
def dZip (a b : DE) : DI := fun ρ R => (a ρ R).bind fun x R1 => (b ρ R1).bind fun y R2 => match lstR R2 x, lstR R2 y with
  | some xs, some ys => if xs.length ≤ sizeLine then .ok ((xs.zip ys).map fun p => D.tup [p.1, p.2], fun R' => okAt R2 x R' ∧ okAt R2 y R') R2 else .stuck
  | _, _ => .stuck
def enumD : Nat → List D → List D
  | _, [] => []
  | n, x :: xs => .tup [.int (n : Int), x] :: enumD (n + 1) xs
def dEnum (a : DE) : DI := fun ρ R => (a ρ R).bind fun x R1 => match lstR R1 x with
  | some xs => if xs.length ≤ sizeLine then .ok (enumD 0 xs, okAt R1 x) R1 else .stuck
  | none => .stuck
theorem enumD_len : ∀ (n : Nat) (xs : List D), (enumD n xs).length = xs.length
  | _, [] => rfl
  | n, x :: xs => by simp [enumD, enumD_len]
theorem enumD_get : ∀ (n : Nat) (xs : List D) (i : Nat) (d : D), (enumD n xs)[i]? = some d → ∃ x, xs[i]? = some x ∧ d = .tup [.int ((n + i : Nat) : Int), x]
  | _, [], i, d, e => by simp [enumD] at e
  | n, x :: xs, 0, d, e => by simp [enumD] at e; exact ⟨x, rfl, e.symm⟩
  | n, x :: xs, i + 1, d, e => by
    have e : (enumD (n + 1) xs)[i]? = some d := by simpa [enumD] using e
    obtain ⟨y, h1, h2⟩ := enumD_get (n + 1) xs i d e
    exact ⟨y, by simpa using h1, by rw [h2]; congr 3; omega⟩
section
variable {K : PySem.W.Frag} {w : Wt} {H : Hp} {R : Wd} {x y : D}
theorem its_zip (W : WR K w H R) {a b : Addr} {xs ys : List D} (r : RelD K w (.ref a) x) (e : lstR R x = some xs) (r' : RelD K w (.ref b) y) (e' : lstR R y = some ys) : ItsR K (Itz K a b) w ((xs.zip ys).map fun p => D.tup [p.1, p.2]) (fun R' => okAt R x R' ∧ okAt R y R') := by
  intro w1 H1 R1 l W1 ok
  obtain ⟨a', vs, e1, h1, k1⟩ := lstR_rel W1 (r.mono l) (lstR_ok e ok.1)
  obtain ⟨b', us, e2, h2, k2⟩ := lstR_rel W1 (r'.mono l) (lstR_ok e' ok.2)
  cases e1; cases e2
  refine ⟨fun i d ed => ?_, fun i hi => ⟨vs, us, h1, h2, ?_⟩⟩
  · rw [List.getElem?_map] at ed
    obtain ⟨p, e3, e4⟩ := Option.map_eq_some_iff.mp ed
    subst e4
    obtain ⟨e5, e6⟩ := List.getElem?_zip_eq_some.mp e3
    obtain ⟨u1, f1, r1⟩ := k1.get e5
    obtain ⟨u2, f2, r2⟩ := k2.get e6
    refine ⟨⟨vs, us, u1, u2, h1, h2, f1, f2⟩, fun z H2 ⟨T, z1, z2, g1, g2, g3, g4, g5⟩ => ?_⟩
    have q1 := g4 vs h1
    have q2 := g5 us h2
    rw [f1] at q1; rw [f2] at q2
    cases q1; cases q2
    subst g1 g3
    have le := Stp.alloc (o := HO.tup [u1, u2]) W1 g2
    exact ⟨_, le, W1.alloc g2, .tup upd_same (.cons (r1.mono le.le) (.cons (r2.mono le.le) .nil))⟩
  · rw [List.length_map, List.length_zip] at hi
    rw [k1.length, k2.length]
    omega
theorem its_enum (W : WR K w H R) {a : Addr} {xs : List D} (r : RelD K w (.ref a) x) (e : lstR R x = some xs) : ItsR K (Ite K a) w (enumD 0 xs) (okAt R x) := by
  intro w1 H1 R1 l W1 ok
  obtain ⟨a', vs, e1, h1, k1⟩ := lstR_rel W1 (r.mono l) (lstR_ok e ok)
  cases e1
  refine ⟨fun i d ed => ?_, fun i hi => ⟨vs, h1, by rw [k1.length]; rwa [enumD_len] at hi⟩⟩
  obtain ⟨x', e5, e6⟩ := enumD_get 0 xs i d ed
  subst e6
  obtain ⟨u1, f1, r1⟩ := k1.get e5
  refine ⟨⟨vs, u1, h1, f1⟩, fun z H2 ⟨T, z1, g1, g2, g3, g4⟩ => ?_⟩
  have q1 := g4 vs h1
  rw [f1] at q1
  cases q1
  subst g1 g3
  have le := Stp.alloc (o := HO.tup [.int (i : Nat), u1]) W1 g2
  refine ⟨_, le, W1.alloc g2, .tup upd_same (.cons ?_ (.cons (r1.mono le.le) .nil))⟩
  rw [Nat.zero_add]
  exact .int _
end
theorem id_zip {a b : Expr} {da db : DE} {p pos tpos : Pos} {elts : List Expr} {kk : Nat} (hg : Gl X "zip") (hm : X.mg "zip" = none) (ha : ED X W a da) (hb : ED X W b db)
    (hs : starEach [a, b] X.env = (false, eval a X.env) :: starEach [b] X.env := by rfl) (hs2 : starEach [b] X.env = (false, eval b X.env) :: starEach [] X.env := by rfl) (hpl : (backTo pos (starEach [b] X.env)).any (·.1) = false := by rfl) :
    ID X W (.Tuple elts kk tpos) (.Call (.Name "zip" p) [a, b] [] pos) (dZip da db) := by
  refine ⟨fun pins s σ H P I h => (pi_zip hg hm (pa_cons ha (pa_cons hb pa_nil hs2) hs) hs hpl).run pins s σ H P I ?_⟩
  obtain ⟨w, ρ, R, A, p⟩ := h
  refine ⟨w, ρ, R, A, (Post.bind p).imp fun x R1 p1 v w1 H1 l1 W1 r1 => ?_⟩
  refine ⟨w1, ρ, R1, A.step l1 W1, (Post.bind p1).mono l1 fun y R2 p2 u w2 H2 l2 W2 r2 => ?_⟩
  cases e1 : lstR R2 x with
  | none => rw [e1] at p2; exact p2.elim
  | some xs =>
    cases e2 : lstR R2 y with
    | none => rw [e1, e2] at p2; exact p2.elim
    | some ys =>
      rw [e1, e2] at p2
      have p2 : Post X.K W w H σ (if xs.length ≤ sizeLine then .ok ((xs.zip ys).map (fun p => D.tup [p.1, p.2]), fun R' => okAt R2 x R' ∧ okAt R2 y R') R2 else .stuck) (IPost X.K w H P) := p2
      by_cases c : xs.length ≤ sizeLine
      · rw [if_pos c] at p2
        have p2 : IPost X.K w H P ((xs.zip ys).map (fun p => D.tup [p.1, p.2]), fun R' => okAt R2 x R' ∧ okAt R2 y R') R2 := p2
        have r1' := r1.mono l2.le
        obtain ⟨a1, vs, rfl, h1, _⟩ := lstR_rel W2 r1' e1
        obtain ⟨b1, us, rfl, h2, _⟩ := lstR_rel W2 r2 e2
        exact ⟨a1, b1, vs, us, rfl, h1, h2, p2 _ w2 H2 (l1.trans l2) W2 (its_zip W2 r1' e1 r2 e2) (by rw [List.length_map, List.length_zip]; omega)⟩
      · rw [if_neg c] at p2; exact p2.elim
theorem id_enum {a : Expr} {da : DE} {p pos tpos : Pos} {elts : List Expr} {kk : Nat} (hg : Gl X "enumerate") (hm : X.mg "enumerate" = none) (ha : ED X W a da) (hs : starEach [a] X.env = [(false, eval a X.env)] := by rfl) :
    ID X W (.Tuple elts kk tpos) (.Call (.Name "enumerate" p) [a] [] pos) (dEnum da) := by
  refine ⟨fun pins s σ H P I h => (pi_enum hg hm (pa_cons ha pa_nil hs) hs).run pins s σ H P I ?_⟩
  obtain ⟨w, ρ, R, A, p⟩ := h
  refine ⟨w, ρ, R, A, (Post.bind p).imp fun x R1 p1 v w1 H1 l1 W1 r1 => ?_⟩
  cases e1 : lstR R1 x with
  | none => rw [e1] at p1; exact p1.elim
  | some xs =>
    rw [e1] at p1
    have p1 : Post X.K W w H σ (if xs.length ≤ sizeLine then .ok (enumD 0 xs, okAt R1 x) R1 else .stuck) (IPost X.K w H P) := p1
    by_cases c : xs.length ≤ sizeLine
    · rw [if_pos c] at p1
      have p1 : IPost X.K w H P (enumD 0 xs, okAt R1 x) R1 := p1
      obtain ⟨a1, vs, rfl, h1, _⟩ := lstR_rel W1 r1 e1
      exact ⟨a1, vs, rfl, h1, p1 _ w1 H1 l1 W1 (its_enum W1 r1 e1) (by rw [enumD_len]; exact c)⟩
    · rw [if_neg c] at p1; exact p1.elim
end
end Y
end
end
section
set_option Elab.async false
set_option linter.all false
set_option maxRecDepth 100000
set_option maxHeartbeats 4000000
noncomputable section
namespace Y
open PySem PySem.Spec PyProof.Rows L2
open Classical

/-! ### a dict locked while it is walked -/
def Wt.lock (w : Wt) (i : Nat) (o : Option HO) : Wt := { w with lk := fun j => if j = i then o else w.lk j }
section
variable {K : PySem.W.Frag} {w w1 w2 : Wt} {H H1 H2 : Hp} {R R2 : Wd} {i : Nat}
theorem Wt.lock_rl (o : Option HO) : w.rl (w.lock i o) := ⟨fun _ _ h => h, fun _ _ h => h, fun _ _ _ h => h, fun _ _ h => h, fun _ _ h => h, fun _ _ _ h => h⟩
theorem Wt.lock_le {o : HO} (h : w.lk i = none) : w.le (w.lock i (some o)) := ⟨fun _ _ h => h, fun _ _ h => h, fun _ _ _ h => h, fun j u e => by
  show (if j = i then some o else w.lk j) = some u
  by_cases c : j = i
  · subst c; rw [h] at e; cases e
  · rw [if_neg c]; exact e⟩
theorem WR.swap (W : WR K w H R) {a : Addr} {ho : HO} {o : O} {q : Option HO} (hi : i < R.length) (ha : w.m i = some a) (hn : w.hs a = none) (c : CellR K (w.lock i q) (upd H a ho) i o) : WR K (w.lock i q) (upd H a ho) (R.set i o) := by
  have ne : ∀ {b u}, w.hs b = some u → b ≠ a := fun {b u} e z => by subst z; rw [hn] at e; cases e
  have ex : ∀ b, (∃ o, H b = some o) → ∃ o, upd H a ho b = some o := fun b ⟨o, e⟩ => by
    by_cases c : b = a
    · subst c; exact ⟨_, upd_same⟩
    · exact ⟨o, (upd_ne c).trans e⟩
  refine ⟨fun b u e => (upd_ne (ne e)).trans (W.sub b u e), fun j hj => ?_, W.mi, W.ii, W.mn, fun j b e => ex b (W.lm j b e), fun j k b e => ex b (W.li j k b e), fun j o' e => ?_⟩
  · have hj' : R.length ≤ j := by simpa using hj
    obtain ⟨h1, h2, h3⟩ := W.hi j hj'
    refine ⟨h1, h2, ?_⟩
    show (if j = i then q else w.lk j) = none
    rw [if_neg (by omega)]; exact h3
  · by_cases q' : i = j
    · subst q'
      rw [List.getElem?_set_self hi] at e
      cases e
      exact c
    · rw [List.getElem?_set_ne q'] at e
      refine (W.cell j o' e).keep (Wt.lock_rl q) (if_neg (Ne.symm q')) fun b hb hbn => ⟨hbn, upd_ne ?_⟩
      rintro rfl
      rcases hb with z | ⟨k, z⟩
      · exact q' (W.mi i j b ha z)
      · exact W.mn i j k b ha z
theorem ref_lt {o : O} (e : R[i]? = some o) : i < R.length := by
  by_cases c : i < R.length
  · exact c
  · rw [List.getElem?_eq_none (by omega)] at e; cases e
theorem lockin_K (W : WR K w H R) {kvs : List (Key × D)} (e : R[i]? = some (.dK kvs)) : ∃ a kv, H a = some (.dK kv) ∧ w.m i = some a ∧ w.hs a = none ∧ ∀ od, Stp w H (w.lock i (some (.frz od (.dK kv)))) (upd H a (.frz od (.dK kv))) ∧ WR K (w.lock i (some (.frz od (.dK kv)))) (upd H a (.frz od (.dK kv))) (R.set i (.lkK kvs)) ∧
    ∀ w2 H2 R2, Stp (w.lock i (some (.frz od (.dK kv)))) (upd H a (.frz od (.dK kv))) w2 H2 → WR K w2 H2 R2 → R2[i]? = some (.lkK kvs) →
      H2 a = some (.frz od (.dK kv)) ∧ w2.m i = some a ∧ Stp w H (w2.lock i none) (upd H2 a (.dK kv)) ∧ WR K (w2.lock i none) (upd H2 a (.dK kv)) (R2.set i (.dK kvs)) := by
  obtain ⟨h0, a, kv, h1, h2, h3, h4⟩ := W.cell i _ e
  have hi := ref_lt e
  refine ⟨a, kv, h3, h1, h2, fun od => ⟨⟨Wt.lock_le h0, fun b o e1 e2 => ⟨(upd_ne fun z => e2.2.1 i (by rw [z]; exact h1)).trans e1, e2⟩⟩, W.swap hi h1 h2 ⟨a, od, kv, h1, if_pos rfl, h2, upd_same, h4.imp (Wt.lock_rl _)⟩, fun w2 H2 R2 l W2 e2 => ?_⟩⟩
  obtain ⟨a', o', kv', k1, k0, k2, k3, k4⟩ := W2.cell i _ e2
  rw [l.le.m i a h1] at k1
  cases k1
  rw [l.le.lk i (.frz od (.dK kv)) (if_pos rfl)] at k0
  cases k0
  refine ⟨k3, l.le.m i a h1, ⟨⟨l.le.hs, l.le.m, l.le.inn, fun j o ej => ?_⟩, fun b o e1 e3 => ?_⟩, W2.swap (ref_lt e2) (l.le.m i a h1) k2 ⟨if_pos rfl, a, kv, l.le.m i a h1, k2, upd_same, k4.imp (Wt.lock_rl _)⟩⟩
  · have cj : j ≠ i := fun z => by subst z; rw [h0] at ej; cases ej
    show (if j = i then none else w2.lk j) = some o
    rw [if_neg cj]
    exact l.le.lk j o ((if_neg cj).trans ej)
  · have cb : b ≠ a := fun z => e3.2.1 i (by rw [z]; exact h1)
    obtain ⟨f1, f2⟩ := l.fr b o ((upd_ne cb).trans e1) e3
    exact ⟨(upd_ne cb).trans f1, f2⟩
theorem lockin_T (W : WR K w H R) {kvs : List (List Key × D)} (e : R[i]? = some (.dT kvs)) : ∃ a kv, H a = some (.dT kv) ∧ w.m i = some a ∧ w.hs a = none ∧ ∀ od, Stp w H (w.lock i (some (.frz od (.dT kv)))) (upd H a (.frz od (.dT kv))) ∧ WR K (w.lock i (some (.frz od (.dT kv)))) (upd H a (.frz od (.dT kv))) (R.set i (.lkT kvs)) ∧
    ∀ w2 H2 R2, Stp (w.lock i (some (.frz od (.dT kv)))) (upd H a (.frz od (.dT kv))) w2 H2 → WR K w2 H2 R2 → R2[i]? = some (.lkT kvs) →
      H2 a = some (.frz od (.dT kv)) ∧ w2.m i = some a ∧ Stp w H (w2.lock i none) (upd H2 a (.dT kv)) ∧ WR K (w2.lock i none) (upd H2 a (.dT kv)) (R2.set i (.dT kvs)) := by
  obtain ⟨h0, a, kv, h1, h2, h3, h4⟩ := W.cell i _ e
  have hi := ref_lt e
  refine ⟨a, kv, h3, h1, h2, fun od => ⟨⟨Wt.lock_le h0, fun b o e1 e2 => ⟨(upd_ne fun z => e2.2.1 i (by rw [z]; exact h1)).trans e1, e2⟩⟩, W.swap hi h1 h2 ⟨a, od, kv, h1, if_pos rfl, h2, upd_same, h4.imp (Wt.lock_rl _)⟩, fun w2 H2 R2 l W2 e2 => ?_⟩⟩
  obtain ⟨a', o', kv', k1, k0, k2, k3, k4⟩ := W2.cell i _ e2
  rw [l.le.m i a h1] at k1
  cases k1
  rw [l.le.lk i (.frz od (.dT kv)) (if_pos rfl)] at k0
  cases k0
  refine ⟨k3, l.le.m i a h1, ⟨⟨l.le.hs, l.le.m, l.le.inn, fun j o ej => ?_⟩, fun b o e1 e3 => ?_⟩, W2.swap (ref_lt e2) (l.le.m i a h1) k2 ⟨if_pos rfl, a, kv, l.le.m i a h1, k2, upd_same, k4.imp (Wt.lock_rl _)⟩⟩
  · have cj : j ≠ i := fun z => by subst z; rw [h0] at ej; cases ej
    show (if j = i then none else w2.lk j) = some o
    rw [if_neg cj]
    exact l.le.lk j o ((if_neg cj).trans ej)
  · have cb : b ≠ a := fun z => e3.2.1 i (by rw [z]; exact h1)
    obtain ⟨f1, f2⟩ := l.fr b o ((upd_ne cb).trans e1) e3
    exact ⟨(upd_ne cb).trans f1, f2⟩
end
/-- the dict that a pure expression names is locked, where it is a cell's -/
def dLock {α : Type} (src : DE) (d : Rho → Wd → Rs α) : Rho → Wd → Rs α := fun ρ R => match src ρ R with
  | .ok (.ref i) _ => match R[i]? with
    | some (.dK kvs) => match d ρ (R.set i (.lkK kvs)) with
      | .ok x R2 => if R2[i]? = some (.lkK kvs) then .ok x (R2.set i (.dK kvs)) else .stuck
      | .exc c R2 => .exc c R2
      | .stuck => .stuck
    | some (.dT kvs) => match d ρ (R.set i (.lkT kvs)) with
      | .ok x R2 => if R2[i]? = some (.lkT kvs) then .ok x (R2.set i (.dT kvs)) else .stuck
      | .exc c R2 => .exc c R2
      | .stuck => .stuck
    | _ => d ρ R
  | _ => d ρ R
def unS (i : Nat) (a b : O) : SRs → SRs
  | .nx ρ R => if R[i]? = some a then .nx ρ (R.set i b) else .stuck
  | .rt x R => if R[i]? = some a then .rt x (R.set i b) else .stuck
  | .bk ρ R => if R[i]? = some a then .bk ρ (R.set i b) else .stuck
  | .ct ρ R => if R[i]? = some a then .ct ρ (R.set i b) else .stuck
  | r => r
def dLockS (src : DE) (d : DS) : DS := fun ρ R => match src ρ R with
  | .ok (.ref i) _ => match R[i]? with
    | some (.dK kvs) => unS i (.lkK kvs) (.dK kvs) (d ρ (R.set i (.lkK kvs)))
    | some (.dT kvs) => unS i (.lkT kvs) (.dT kvs) (d ρ (R.set i (.lkT kvs)))
    | _ => d ρ R
  | _ => d ρ R
section
variable {X : Cx} {W : WX} {e : Expr} {st : Stmt} {src : DE}
theorem pe_olock {t : TE} (h : PE X e t) : PE X e fun σ H Q => t σ H Q ∨ tLockE t σ H Q := ⟨fun pins s σ H Q I h' => by
  rcases h' with h' | h'
  · exact h.run pins s σ H Q I h'
  · exact (pe_lock h).run pins s σ H Q I h'⟩
theorem ps_olock {t : TS} (h : PS X st t) : PS X st fun E σ H => t E σ H ∨ tLock t E σ H := ⟨fun pins s σ H Q I h' => by
  rcases h' with h' | h'
  · exact h.run pins s σ H Q I h'
  · exact (ps_lock h).run pins s σ H Q I h'⟩
theorem lk_ret {K : PySem.W.Frag} {w2 : Wt} {i : Nat} {v : V} {x : D} (r : RelD K w2 v x) : RelD K (w2.lock i none) v x := r.imp (Wt.lock_rl _)
theorem dLock_cases {α : Type} (src : DE) (d : Rho → Wd → Rs α) (ρ : Rho) (R : Wd) : dLock src d ρ R = d ρ R ∨ (∃ i kvs, R[i]? = some (.dK kvs) ∧ dLock src d ρ R = match d ρ (R.set i (.lkK kvs)) with
      | .ok x R2 => if R2[i]? = some (.lkK kvs) then .ok x (R2.set i (.dK kvs)) else .stuck
      | .exc c R2 => .exc c R2
      | .stuck => .stuck) ∨ ∃ i kvs, R[i]? = some (.dT kvs) ∧ dLock src d ρ R = match d ρ (R.set i (.lkT kvs)) with
      | .ok x R2 => if R2[i]? = some (.lkT kvs) then .ok x (R2.set i (.dT kvs)) else .stuck
      | .exc c R2 => .exc c R2
      | .stuck => .stuck := by
  unfold dLock
  split
  · split
    · rename_i i _ _ kvs e1; exact .inr (.inl ⟨_, kvs, e1, rfl⟩)
    · rename_i i _ _ kvs e1; exact .inr (.inr ⟨_, kvs, e1, rfl⟩)
    · exact .inl rfl
  · exact .inl rfl
theorem dLockS_cases (src : DE) (d : DS) (ρ : Rho) (R : Wd) : dLockS src d ρ R = d ρ R ∨ (∃ i kvs, R[i]? = some (.dK kvs) ∧ dLockS src d ρ R = unS i (.lkK kvs) (.dK kvs) (d ρ (R.set i (.lkK kvs)))) ∨
    ∃ i kvs, R[i]? = some (.dT kvs) ∧ dLockS src d ρ R = unS i (.lkT kvs) (.dT kvs) (d ρ (R.set i (.lkT kvs))) := by
  unfold dLockS
  split
  · split
    · rename_i kvs e1; exact .inr (.inl ⟨_, kvs, e1, rfl⟩)
    · rename_i kvs e1; exact .inr (.inr ⟨_, kvs, e1, rfl⟩)
    · exact .inl rfl
  · exact .inl rfl
theorem ed_lock {d : DE} (h : ED X W e d) : ED X W e (dLock src d) := by
  refine PEimp (pe_olock h) fun σ H Q h => ?_
  obtain ⟨w, ρ, R, A, p⟩ := h
  rcases dLock_cases src d ρ R with c | c | c
  · rw [c] at p; exact .inl ⟨w, ρ, R, A, p⟩
  · obtain ⟨i, kvs, e1, c⟩ := c
    rw [c] at p
    obtain ⟨a, kv, h1, h2, h3, go⟩ := lockin_K A.W e1
    refine .inr ⟨a, _, h1, trivial, fun od => ?_⟩
    obtain ⟨s1, W1, back⟩ := go od
    refine ⟨_, ρ, _, ⟨W1, A.S.mono s1.le⟩, ?_⟩
    cases ed : d ρ (R.set i (.lkK kvs)) with
    | stuck => rw [ed] at p; exact p
    | exc c R2 => rw [ed] at p; exact XPost.mono s1 p
    | ok x R2 =>
      rw [ed] at p
      by_cases c2 : R2[i]? = some (.lkK kvs)
      · simp only [if_pos c2] at p
        exact fun v w2 H2 l2 W2 r => by
          obtain ⟨b1, b2, b3, b4⟩ := back w2 H2 R2 l2 W2 c2
          exact ⟨b1, p v _ _ b3 b4 (lk_ret r)⟩
      · simp only [if_neg c2] at p; exact p.elim
  · obtain ⟨i, kvs, e1, c⟩ := c
    rw [c] at p
    obtain ⟨a, kv, h1, h2, h3, go⟩ := lockin_T A.W e1
    refine .inr ⟨a, _, h1, trivial, fun od => ?_⟩
    obtain ⟨s1, W1, back⟩ := go od
    refine ⟨_, ρ, _, ⟨W1, A.S.mono s1.le⟩, ?_⟩
    cases ed : d ρ (R.set i (.lkT kvs)) with
    | stuck => rw [ed] at p; exact p
    | exc c R2 => rw [ed] at p; exact XPost.mono s1 p
    | ok x R2 =>
      rw [ed] at p
      by_cases c2 : R2[i]? = some (.lkT kvs)
      · simp only [if_pos c2] at p
        exact fun v w2 H2 l2 W2 r => by
          obtain ⟨b1, b2, b3, b4⟩ := back w2 H2 R2 l2 W2 c2
          exact ⟨b1, p v _ _ b3 b4 (lk_ret r)⟩
      · simp only [if_neg c2] at p; exact p.elim
theorem fl_lock {d : DA} (h : FL X W e d) : FL X W e (dLock src d) := by
  refine PEimp (pe_olock h) fun σ H Q h => ?_
  obtain ⟨w, ρ, R, A, p⟩ := h
  rcases dLock_cases src d ρ R with c | c | c
  · rw [c] at p; exact .inl ⟨w, ρ, R, A, p⟩
  · obtain ⟨i, kvs, e1, c⟩ := c
    rw [c] at p
    obtain ⟨a, kv, h1, h2, h3, go⟩ := lockin_K A.W e1
    refine .inr ⟨a, _, h1, trivial, fun od => ?_⟩
    obtain ⟨s1, W1, back⟩ := go od
    refine ⟨_, ρ, _, ⟨W1, A.S.mono s1.le⟩, ?_⟩
    cases ed : d ρ (R.set i (.lkK kvs)) with
    | stuck => rw [ed] at p; exact p
    | exc c R2 => rw [ed] at p; exact XPost.mono s1 p
    | ok x R2 =>
      rw [ed] at p
      by_cases c2 : R2[i]? = some (.lkK kvs)
      · simp only [if_pos c2] at p
        exact fun a' vs w2 H2 l2 W2 ha o el r => by
          obtain ⟨b1, b2, b3, b4⟩ := back w2 H2 R2 l2 W2 c2
          have ne : a' ≠ a := fun z => o.2.1 i (by rw [z]; exact b2)
          exact ⟨b1, p a' vs _ _ b3 b4 ((upd_ne ne).symm.trans ha) o ((upd_ne ne).trans el) (r.imp (Wt.lock_rl _))⟩
      · simp only [if_neg c2] at p; exact p.elim
  · obtain ⟨i, kvs, e1, c⟩ := c
    rw [c] at p
    obtain ⟨a, kv, h1, h2, h3, go⟩ := lockin_T A.W e1
    refine .inr ⟨a, _, h1, trivial, fun od => ?_⟩
    obtain ⟨s1, W1, back⟩ := go od
    refine ⟨_, ρ, _, ⟨W1, A.S.mono s1.le⟩, ?_⟩
    cases ed : d ρ (R.set i (.lkT kvs)) with
    | stuck => rw [ed] at p; exact p
    | exc c R2 => rw [ed] at p; exact XPost.mono s1 p
    | ok x R2 =>
      rw [ed] at p
      by_cases c2 : R2[i]? = some (.lkT kvs)
      · simp only [if_pos c2] at p
        exact fun a' vs w2 H2 l2 W2 ha o el r => by
          obtain ⟨b1, b2, b3, b4⟩ := back w2 H2 R2 l2 W2 c2
          have ne : a' ≠ a := fun z => o.2.1 i (by rw [z]; exact b2)
          exact ⟨b1, p a' vs _ _ b3 b4 ((upd_ne ne).symm.trans ha) o ((upd_ne ne).trans el) (r.imp (Wt.lock_rl _))⟩
      · simp only [if_neg c2] at p; exact p.elim
theorem fk_lock {d : Rho → Wd → Rs (List (Key × D))} (h : FK X W e d) : FK X W e (dLock src d) := by
  refine PEimp (pe_olock h) fun σ H Q h => ?_
  obtain ⟨w, ρ, R, A, p⟩ := h
  rcases dLock_cases src d ρ R with c | c | c
  · rw [c] at p; exact .inl ⟨w, ρ, R, A, p⟩
  · obtain ⟨i, kvs, e1, c⟩ := c
    rw [c] at p
    obtain ⟨a, kv, h1, h2, h3, go⟩ := lockin_K A.W e1
    refine .inr ⟨a, _, h1, trivial, fun od => ?_⟩
    obtain ⟨s1, W1, back⟩ := go od
    refine ⟨_, ρ, _, ⟨W1, A.S.mono s1.le⟩, ?_⟩
    cases ed : d ρ (R.set i (.lkK kvs)) with
    | stuck => rw [ed] at p; exact p
    | exc c R2 => rw [ed] at p; exact XPost.mono s1 p
    | ok x R2 =>
      rw [ed] at p
      by_cases c2 : R2[i]? = some (.lkK kvs)
      · simp only [if_pos c2] at p
        exact fun a' vs w2 H2 l2 W2 ha o el r => by
          obtain ⟨b1, b2, b3, b4⟩ := back w2 H2 R2 l2 W2 c2
          have ne : a' ≠ a := fun z => o.2.1 i (by rw [z]; exact b2)
          exact ⟨b1, p a' vs _ _ b3 b4 ((upd_ne ne).symm.trans ha) o ((upd_ne ne).trans el) (r.imp (Wt.lock_rl _))⟩
      · simp only [if_neg c2] at p; exact p.elim
  · obtain ⟨i, kvs, e1, c⟩ := c
    rw [c] at p
    obtain ⟨a, kv, h1, h2, h3, go⟩ := lockin_T A.W e1
    refine .inr ⟨a, _, h1, trivial, fun od => ?_⟩
    obtain ⟨s1, W1, back⟩ := go od
    refine ⟨_, ρ, _, ⟨W1, A.S.mono s1.le⟩, ?_⟩
    cases ed : d ρ (R.set i (.lkT kvs)) with
    | stuck => rw [ed] at p; exact p
    | exc c R2 => rw [ed] at p; exact XPost.mono s1 p
    | ok x R2 =>
      rw [ed] at p
      by_cases c2 : R2[i]? = some (.lkT kvs)
      · simp only [if_pos c2] at p
        exact fun a' vs w2 H2 l2 W2 ha o el r => by
          obtain ⟨b1, b2, b3, b4⟩ := back w2 H2 R2 l2 W2 c2
          have ne : a' ≠ a := fun z => o.2.1 i (by rw [z]; exact b2)
          exact ⟨b1, p a' vs _ _ b3 b4 ((upd_ne ne).symm.trans ha) o ((upd_ne ne).trans el) (r.imp (Wt.lock_rl _))⟩
      · simp only [if_neg c2] at p; exact p.elim
theorem ft_lock {d : Rho → Wd → Rs (List (List Key × D))} (h : FT X W e d) : FT X W e (dLock src d) := by
  refine PEimp (pe_olock h) fun σ H Q h => ?_
  obtain ⟨w, ρ, R, A, p⟩ := h
  rcases dLock_cases src d ρ R with c | c | c
  · rw [c] at p; exact .inl ⟨w, ρ, R, A, p⟩
  · obtain ⟨i, kvs, e1, c⟩ := c
    rw [c] at p
    obtain ⟨a, kv, h1, h2, h3, go⟩ := lockin_K A.W e1
    refine .inr ⟨a, _, h1, trivial, fun od => ?_⟩
    obtain ⟨s1, W1, back⟩ := go od
    refine ⟨_, ρ, _, ⟨W1, A.S.mono s1.le⟩, ?_⟩
    cases ed : d ρ (R.set i (.lkK kvs)) with
    | stuck => rw [ed] at p; exact p
    | exc c R2 => rw [ed] at p; exact XPost.mono s1 p
    | ok x R2 =>
      rw [ed] at p
      by_cases c2 : R2[i]? = some (.lkK kvs)
      · simp only [if_pos c2] at p
        exact fun a' vs w2 H2 l2 W2 ha o el r => by
          obtain ⟨b1, b2, b3, b4⟩ := back w2 H2 R2 l2 W2 c2
          have ne : a' ≠ a := fun z => o.2.1 i (by rw [z]; exact b2)
          exact ⟨b1, p a' vs _ _ b3 b4 ((upd_ne ne).symm.trans ha) o ((upd_ne ne).trans el) (r.imp (Wt.lock_rl _))⟩
      · simp only [if_neg c2] at p; exact p.elim
  · obtain ⟨i, kvs, e1, c⟩ := c
    rw [c] at p
    obtain ⟨a, kv, h1, h2, h3, go⟩ := lockin_T A.W e1
    refine .inr ⟨a, _, h1, trivial, fun od => ?_⟩
    obtain ⟨s1, W1, back⟩ := go od
    refine ⟨_, ρ, _, ⟨W1, A.S.mono s1.le⟩, ?_⟩
    cases ed : d ρ (R.set i (.lkT kvs)) with
    | stuck => rw [ed] at p; exact p
    | exc c R2 => rw [ed] at p; exact XPost.mono s1 p
    | ok x R2 =>
      rw [ed] at p
      by_cases c2 : R2[i]? = some (.lkT kvs)
      · simp only [if_pos c2] at p
        exact fun a' vs w2 H2 l2 W2 ha o el r => by
          obtain ⟨b1, b2, b3, b4⟩ := back w2 H2 R2 l2 W2 c2
          have ne : a' ≠ a := fun z => o.2.1 i (by rw [z]; exact b2)
          exact ⟨b1, p a' vs _ _ b3 b4 ((upd_ne ne).symm.trans ha) o ((upd_ne ne).trans el) (r.imp (Wt.lock_rl _))⟩
      · simp only [if_neg c2] at p; exact p.elim
theorem sd_lock {d : DS} (h : SD X W st d) : SD X W st (dLockS src d) := by
  refine PSimp (ps_olock h) fun E σ H h => ?_
  obtain ⟨w, ρ, R, A, p⟩ := h
  rcases dLockS_cases src d ρ R with c | c | c
  · rw [c] at p; exact .inl ⟨w, ρ, R, A, p⟩
  · obtain ⟨i, kvs, e1, c⟩ := c
    rw [c] at p
    obtain ⟨a, kv, h1, h2, h3, go⟩ := lockin_K A.W e1
    refine .inr ⟨a, _, h1, trivial, fun od => ?_⟩
    obtain ⟨s1, W1, back⟩ := go od
    refine ⟨_, ρ, _, ⟨W1, A.S.mono s1.le⟩, ?_⟩
    cases ed : d ρ (R.set i (.lkK kvs)) with
    | stuck => rw [ed] at p; exact p
    | exc c ρ2 R2 => rw [ed] at p; exact fun σ2 w2 H2 l2 s2 => p σ2 w2 H2 (s1.trans l2) s2
    | rt x R2 =>
      rw [ed] at p
      by_cases c2 : R2[i]? = some (.lkK kvs)
      · simp only [unS, if_pos c2] at p
        exact fun v w2 H2 l2 W2 r => by
          obtain ⟨b1, b2, b3, b4⟩ := back w2 H2 R2 l2 W2 c2
          exact ⟨b1, p v _ _ b3 b4 (lk_ret r)⟩
      · simp only [unS, if_neg c2] at p; exact p.elim
    | nx ρ2 R2 =>
      rw [ed] at p
      by_cases c2 : R2[i]? = some (.lkK kvs)
      · simp only [unS, if_pos c2] at p
        exact fun σ2 w2 H2 l2 A2 => by
          obtain ⟨b1, b2, b3, b4⟩ := back w2 H2 R2 l2 A2.W c2
          exact ⟨b1, p σ2 _ _ b3 ⟨b4, ⟨A2.S.len, fun j d ej => by obtain ⟨v, f1, f2⟩ := A2.S.at_ j d ej; exact ⟨v, f1, lk_ret f2⟩⟩⟩⟩
      · simp only [unS, if_neg c2] at p; exact p.elim
    | bk ρ2 R2 =>
      rw [ed] at p
      by_cases c2 : R2[i]? = some (.lkK kvs)
      · simp only [unS, if_pos c2] at p
        exact fun σ2 w2 H2 l2 A2 => by
          obtain ⟨b1, b2, b3, b4⟩ := back w2 H2 R2 l2 A2.W c2
          exact ⟨b1, p σ2 _ _ b3 ⟨b4, ⟨A2.S.len, fun j d ej => by obtain ⟨v, f1, f2⟩ := A2.S.at_ j d ej; exact ⟨v, f1, lk_ret f2⟩⟩⟩⟩
      · simp only [unS, if_neg c2] at p; exact p.elim
    | ct ρ2 R2 =>
      rw [ed] at p
      by_cases c2 : R2[i]? = some (.lkK kvs)
      · simp only [unS, if_pos c2] at p
        exact fun σ2 w2 H2 l2 A2 => by
          obtain ⟨b1, b2, b3, b4⟩ := back w2 H2 R2 l2 A2.W c2
          exact ⟨b1, p σ2 _ _ b3 ⟨b4, ⟨A2.S.len, fun j d ej => by obtain ⟨v, f1, f2⟩ := A2.S.at_ j d ej; exact ⟨v, f1, lk_ret f2⟩⟩⟩⟩
      · simp only [unS, if_neg c2] at p; exact p.elim
  · obtain ⟨i, kvs, e1, c⟩ := c
    rw [c] at p
    obtain ⟨a, kv, h1, h2, h3, go⟩ := lockin_T A.W e1
    refine .inr ⟨a, _, h1, trivial, fun od => ?_⟩
    obtain ⟨s1, W1, back⟩ := go od
    refine ⟨_, ρ, _, ⟨W1, A.S.mono s1.le⟩, ?_⟩
    cases ed : d ρ (R.set i (.lkT kvs)) with
    | stuck => rw [ed] at p; exact p
    | exc c ρ2 R2 => rw [ed] at p; exact fun σ2 w2 H2 l2 s2 => p σ2 w2 H2 (s1.trans l2) s2
    | rt x R2 =>
      rw [ed] at p
      by_cases c2 : R2[i]? = some (.lkT kvs)
      · simp only [unS, if_pos c2] at p
        exact fun v w2 H2 l2 W2 r => by
          obtain ⟨b1, b2, b3, b4⟩ := back w2 H2 R2 l2 W2 c2
          exact ⟨b1, p v _ _ b3 b4 (lk_ret r)⟩
      · simp only [unS, if_neg c2] at p; exact p.elim
    | nx ρ2 R2 =>
      rw [ed] at p
      by_cases c2 : R2[i]? = some (.lkT kvs)
      · simp only [unS, if_pos c2] at p
        exact fun σ2 w2 H2 l2 A2 => by
          obtain ⟨b1, b2, b3, b4⟩ := back w2 H2 R2 l2 A2.W c2
          exact ⟨b1, p σ2 _ _ b3 ⟨b4, ⟨A2.S.len, fun j d ej => by obtain ⟨v, f1, f2⟩ := A2.S.at_ j d ej; exact ⟨v, f1, lk_ret f2⟩⟩⟩⟩
      · simp only [unS, if_neg c2] at p; exact p.elim
    | bk ρ2 R2 =>
      rw [ed] at p
      by_cases c2 : R2[i]? = some (.lkT kvs)
      · simp only [unS, if_pos c2] at p
        exact fun σ2 w2 H2 l2 A2 => by
          obtain ⟨b1, b2, b3, b4⟩ := back w2 H2 R2 l2 A2.W c2
          exact ⟨b1, p σ2 _ _ b3 ⟨b4, ⟨A2.S.len, fun j d ej => by obtain ⟨v, f1, f2⟩ := A2.S.at_ j d ej; exact ⟨v, f1, lk_ret f2⟩⟩⟩⟩
      · simp only [unS, if_neg c2] at p; exact p.elim
    | ct ρ2 R2 =>
      rw [ed] at p
      by_cases c2 : R2[i]? = some (.lkT kvs)
      · simp only [unS, if_pos c2] at p
        exact fun σ2 w2 H2 l2 A2 => by
          obtain ⟨b1, b2, b3, b4⟩ := back w2 H2 R2 l2 A2.W c2
          exact ⟨b1, p σ2 _ _ b3 ⟨b4, ⟨A2.S.len, fun j d ej => by obtain ⟨v, f1, f2⟩ := A2.S.at_ j d ej; exact ⟨v, f1, lk_ret f2⟩⟩⟩⟩
      · simp only [unS, if_neg c2] at p; exact p.elim
end

/-! ### raise of an own class -/
structure ExcG (X : Cx) (x : Str) (C : Addr) : Prop where
  ex : ∃ B newId initId bmB, ExcBaseFacts B newId initId bmB ∧ PySem.W.excIn X.K C bmB newId = true ∧ X.mg x = some (.ref C) ∧ PySem.W.keepIn X.K (.ref C) = true ∧ Raises X (.ref C)
def dRaise (C : Addr) (a : DA) : DS := fun ρ R => (a ρ R).toS ρ fun xs R1 => if xs.length ≤ sizeLine then .exc ⟨C, none⟩ ρ R1 else .stuck
theorem pmk_ownN {X : Cx} {C : Addr} {bmB : List Value} {B newId initId : String} {x : Str} {p : Pos} {e : Expr} {es : List Expr} {t : TA} {pos : Pos} (F : ExcBaseFacts B newId initId bmB) (q : PySem.W.excIn X.K C bmB newId = true) (gC : X.mg x = some (.ref C))
    (kC : PySem.W.keepIn X.K (.ref C) = true) (r : Raises X (.ref C)) (hg : Gl X x) (ha : PA X (e :: es) t) (hdb : (x == ("__debug__" : Str)) = false := by decide)
    (he : starEach (e :: es) X.env = (false, eval e X.env) :: starEach es X.env := by rfl) (hpl : (backTo pos (starEach es X.env)).any (·.1) = false := by rfl) :
    L2N.PMk X (.Call (.Name x p) (e :: es) [] pos) (fun σ H Q => t σ H fun vs H1 => vs.length ≤ sizeLine ∧ Q (.ref C) none H1) := by
  intro pins s σ H Q I h
  refine wpAny_Call_Name_kw (ld_glob I hg gC ?_ hdb)
  refine PySem.W.callWith_K (h₀ := X.base) I.ok.mod.kin kC (thn (ha.run pos pins s σ H _ I h) fun us s1 ⟨vs, H1, I1, r1, hz, q1⟩ => ⟨I1.kIn, ?_⟩) he hpl
  show wpAny _ _ (call (.ref C) us) _ _ _
  obtain ⟨bm, N, nm, qn, bs, hdct, sn, sub, ab, col, dd, k0, k1, k2, k3, k5, mN, hC, hN, hni, T⟩ := exc_obj I1.kIn q
  refine wpAny_call_exc_subT F T hC hN hni (fun h' e hm => ?_) (by rw [← r1.length]; exact hz)
  exact L2N.mk_of I1 hm r q1 (I1.hok.gone hm.new)
section
variable {X : Cx} {W : WX}
theorem sd_raise {x : Str} {C : Addr} {p pos pos2 : Pos} {e : Expr} {es : List Expr} {d : DA} {k : Nat} (G : ExcG X x C) (O : Ok X W k) (hg : Gl X x) (ha : AD X W (e :: es) d) (hdb : (x == ("__debug__" : Str)) = false := by decide)
    (he : starEach (e :: es) X.env = (false, eval e X.env) :: starEach es X.env := by rfl) (hpl : (backTo pos2 (starEach es X.env)).any (·.1) = false := by rfl) : SD X W (.Raise (some (.Call (.Name x p) (e :: es) [] pos2)) none pos) (dRaise C d) := by
  obtain ⟨B, newId, initId, bmB, F, q, gC, kC, r⟩ := G.ex
  refine PSimp (L2N.ps_raise O.calm O.tk (pmk_ownN F q gC kC r hg ha hdb he hpl)) fun E σ H h => ?_
  obtain ⟨w, ρ, R, A, p⟩ := h
  refine ⟨w, ρ, R, A, (Rs.post A p).imp fun xs R1 p1 vs w1 H1 l1 W1 r1 => ?_⟩
  by_cases c : xs.length ≤ sizeLine
  · simp only [if_pos c] at p1
    refine ⟨by rw [r1.length]; exact c, ?_⟩
    exact p1 σ w1 H1 l1 (A.S.mono l1.le) none w1 H1 .refl W1 rfl
  · simp only [if_neg c] at p1; exact p1.elim
end

/-! ### x op= e, o[i] op= e -/
def gIadd (R : Wd) : D → D → Option D
  | .int i, .int j => some (.int (i + j))
  | .str a, .str b => if a.length + b.length ≤ sizeLine then some (.str (a ++ b)) else none
  | _, _ => none
def dAug (i : Nat) (g : Wd → D → D → Option D) (e : DE) : DS := fun ρ R => match ρ[i]? with
  | some (some x) => (e ρ R).toS ρ fun y R1 => match g R1 x y with
    | some z => .nx (ρ.set i (some z)) R1
    | none => .stuck
  | _ => .stuck
theorem ip_add {X : Cx} : PIp X .Add (rOf X.K gIadd) := by
  intro pins s σ H x y v u Q I rx ry h
  obtain ⟨w, R, x', y', z, W, r1, r2, e, q⟩ := h
  unfold gIadd at e
  split at e
  · cases e; cases r1; cases r2
    exact iop_add pins s σ H _ _ v u Q I rx ry ⟨_, _, rfl, rfl, q.now W (.int _)⟩
  · split at e
    · rename_i c
      cases e; cases r1; cases r2
      exact iop_add_str pins s σ H _ _ v u Q I rx ry ⟨_, _, rfl, rfl, c, q.now W (.str _)⟩
    · cases e
  · cases e
theorem sd_aug {X : Cx} {W : WX} {i : Nat} {x : Str} {e : Expr} {de : DE} {op : Operator} {g : Wd → D → D → Option D} {pos pos' : Pos} (hN : X.N.Nodup) (hi : X.N[i]? = some x) (hx : Loc X.env.scope x) (he : ED X W e de) (ho : PIp X op (rOf X.K g))
    (hf : X.fn x = true ∨ X.env.scope.names.lookup x = some .local := by first | exact .inl rfl | exact .inr rfl | assumption) : SD X W (.AugAssign (.Name x pos') op e pos) (dAug i g de) := by
  refine PSimp (ps_aug hN hi hx he ho hf) fun E σ H h => ?_
  obtain ⟨w, ρ, R, A, p⟩ := h
  unfold dAug at p
  cases ei : ρ[i]? with
  | none => rw [ei] at p; exact p.elim
  | some od =>
    cases od with
    | none => rw [ei] at p; exact p.elim
    | some x =>
      rw [ei] at p
      obtain ⟨v, e1, r1⟩ := A.S.at_ i x ei
      refine ⟨v, e1, w, ρ, R, A, (Rs.post A p).imp fun y R1 p1 u w1 H1 l1 W1 r2 => ?_⟩
      cases eg : g R1 x y with
      | none => rw [eg] at p1; exact p1.elim
      | some z =>
        rw [eg] at p1
        exact ⟨w1, R1, x, y, z, W1, r1.mono l1.le, r2, eg, fun v2 w2 H2 l2 W2 r3 => p1 _ w2 H2 (l1.trans l2) ⟨W2, ((A.S.mono l1.le).mono l2.le).set i r3⟩⟩
end Y
end
end
section
set_option Elab.async false
set_option linter.all false
set_option maxRecDepth 100000
set_option maxHeartbeats 4000000
noncomputable section
namespace Y
open PySem PySem.Spec PyProof.Rows L2
open Classical

/-! ### facts of the row -/
structure Fx (fa : List He.Fa) (fn : List He.DefD) (K : PySem.W.Frag) (mg : Str → Option Value) : Prop where
  there : ∃ h : Heap, K.In h ∧ h.Ns mainGlobals mg
  says : He.SaysD fa fn K
section
variable {fa : List He.Fa} {fn : List He.DefD} {K : PySem.W.Frag} {mg : Str → Option Value}
theorem Fx.free (c : Fx fa fn K mg) (i : Nat) {x : Str} (h : fa[i]? = some (.free x) := by rfl) : mg x = none := by
  obtain ⟨b, X, G⟩ := c.there
  exact He.free_ok X G (c.says.fact i h)
theorem Fx.glo (c : Fx fa fn K mg) (i : Nat) {x : Str} (h : fa[i]? = some (.glo x) := by rfl) : mg x = some (.ref (He.ga K x)) := by
  obtain ⟨b, X, G⟩ := c.there
  exact He.glo_ok X G (c.says.fact i h)
theorem Fx.int (c : Fx fa fn K mg) (i : Nat) {x : Str} {z : Int} (h : fa[i]? = some (.int x z) := by rfl) : ∃ t, mg x = some (.int z t) := by
  obtain ⟨b, X, G⟩ := c.there
  exact He.int_ok X G (c.says.fact i h)
theorem Fx.str (c : Fx fa fn K mg) (i : Nat) {x z : Str} (h : fa[i]? = some (.str x z) := by rfl) : ∃ t, mg x = some (.str z t) := by
  obtain ⟨b, X, G⟩ := c.there
  exact He.str_ok X G (c.says.fact i h)
theorem Fx.exc (c : Fx fa fn K mg) (i j : Nat) {x : Str} (h : fa[i]? = some (.exc x) := by rfl) (h2 : fa[j]? = some (.glo x) := by rfl) {X : Cx} (eK : X.K = K := by rfl) (em : X.mg = mg := by rfl) : ExcG X x (He.ga K x) := by
  subst eK em
  obtain ⟨c1, c2, c3, c4⟩ := He.exc_ok (c.says.fact i h)
  exact ⟨_, _, _, _, PySem.F.excBase_ValueError, c1, c.glo j h2, c2, fun M h hK => ⟨PySem.W.looks_subIn hK c3, PySem.W.looks_typeIn hK c4⟩⟩
theorem Fx.def_ (c : Fx fa fn K mg) (i : Nat) {d : He.DefD} (h : fn[i]? = some d := by rfl) : ∃ fd, FunD K d.name d.qual d.params d.body d.scope (d.dvs K) (d.kws K) (He.fAd K d.at_) fd := c.says.def_ i h
end
section
variable {P : Program} {w : World} {K : PySem.W.Frag} {mg : Str → Option Value} {base : Heap}
theorem ok_cx {N : List Str} {qual : Str} {scope : Scope} {f : Addr} {cdv : Value} {A : Around} {outer : List Env} {s : Shared} {H : Hp} {E : XK} {k : Nat} (sm : SM base) (hG : A.guards = some []) (hr : Room k (A.deeper (envOfC qual scope s.heap.objs.size f cdv))) :
    Ok (CxD P w K mg base N qual scope f cdv A outer s H E) (WD E) k := ⟨hr, hG, L2N.takes_of rfl rfl rfl rfl, sm, rfl⟩
theorem Ok.blk {X : Cx} {W : WX} {k : Nat} (O : Ok X W k) (s : Shared) (H : Hp) (scope : Scope) (cenv : Env) (fp : List Addr) : Ok (X.blk s H scope cenv fp) W0 k :=
  ⟨O.room, O.grd, fun u s' x => by obtain ⟨_, _, _, _, _, _, _, _, _, _, _, _, _, _, _, _, z⟩ := x; exact z, O.sm, O.calm⟩
theorem Ok.un {X : Cx} {W : WX} {k : Nat} (O : Ok X W k) : X.A.units + 65 < cLine := by have := O.room.un; omega
theorem own_cx {N : List Str} {qual : Str} {scope : Scope} {f : Addr} {cdv : Value} {A : Around} {outer : List Env} {s : Shared} {H : Hp} {E : XK} : PassesOwn (model P w) (CxD P w K mg base N qual scope f cdv A outer s H E).A (CxD P w K mg base N qual scope f cdv A outer s H E).env (CxD P w K mg base N qual scope f cdv A outer s H E).xe := passes_of rfl
/-- a def with its own name, called by positions -/
theorem gf_of {x qual : Str} {params : Arguments} {body : List Stmt} {scope : Scope} {f : Addr} {fd : FuncData} {ps : List Str} {k n : Nat} {g : List D → Wd → Rs D} (F : FunD K x qual params body scope [] [] f fd) (h : FnY P w K mg base k f fd ps g) (gm : mg x = some (.ref f)) (hn : ps.length = n) (b : Binds K fd ps []) :
    Gf P w K mg base x k n g := ⟨f, fd, ps, hn, h, gm, F.kp, b⟩
end
/-- the row's own look at the heap: the facts, and that the table of modules is a dict -/
def smB (g : Addr → Option Obj) : Bool := match g sysModules with
  | some o => match o.data with
    | .dict _ _ => true
    | _ => false
  | none => false
def hkY (n : Nat) (fa : List He.Fa) (fn : List He.DefD) : PySem.W.Hook where
  α := Bool × He.AlD
  obs := fun s => (smB s.heap.get?, He.obsDG n fa fn s.heap.get?)
  val := fun _ => (true, He.valD fn)
  says := fun _ h => (∃ K : PySem.W.Frag, K.In h ∧ He.SaysD fa fn K) ∧ SM h
  of := fun w s e => by
    have e1 : smB s.heap.get? = true := congrArg Prod.fst e
    have e2 : He.obsDG n fa fn s.heap.get? = He.valD fn := congrArg Prod.snd e
    refine ⟨(He.hookD n fa fn).of w s e2, ?_⟩
    unfold smB at e1
    cases h1 : s.heap.get? sysModules with
    | none => rw [h1] at e1; cases e1
    | some o =>
      rw [h1] at e1
      cases h2 : o.data with
      | dict es ep => exact ⟨o, es, ep, h1, h2⟩
      | _ => simp [h2] at e1
  keeps := fun w h h' q k => ⟨(He.hookD n fa fn).keeps w h h' q.1 k, by
    obtain ⟨o, es, ep, e, d⟩ := q.2
    exact ⟨o, es, ep, k _ _ e, d⟩⟩
end Y
end
end
section
set_option Elab.async false
set_option linter.all false
set_option maxRecDepth 100000
set_option maxHeartbeats 4000000
noncomputable section
namespace Y
open PySem PySem.Spec PyProof.Rows L2
open Classical
def gAddX (R : Wd) (x y : D) : Option D := match gAdd R x y with
  | some z => some z
  | none => toL gAddL R x y
def gMulX (R : Wd) (x y : D) : Option D := match gMul R x y with
  | some z => some z
  | none => toL gMulL R x y
def gNeg (_ : Wd) : D → Option D
  | .int i => some (.int (-i))
  | _ => none
def dNilK : Rho → Wd → Rs (List (Key × D)) := fun _ R => .ok [] R
def dNilT : Rho → Wd → Rs (List (List Key × D)) := fun _ R => .ok [] R
section
variable {X : Cx} {W : WX} {pos : Pos}
theorem od_addX : OpD X (binaryOp .Add) gAddX := od_add.or of_addL.toD
theorem od_mulX : OpD X (binaryOp .Mult) gMulX := od_mul.or of_mulL.toD
theorem ud_neg : UnD X (unaryOp .USub) gNeg := by
  intro pins s σ H x v Q I rx h
  obtain ⟨w, R, x', z, W, r1, e, q⟩ := h
  cases x' with
  | int i =>
    simp only [gNeg, Option.some.injEq] at e
    subst e
    cases r1
    exact un_neg pins s σ H _ v Q I rx ⟨_, rfl, q.now W (.int _)⟩
  | _ => cases e
theorem fk_nil : FK X W (.Dict [] [] pos) dNilK := PEimp pe_dnewK fun σ H Q h => by
  obtain ⟨w, ρ, R, A, p⟩ := h
  exact fun a ha => p a [] w _ (.new ha) (A.W.grow (upd_grow ha)) ha (out_new A.W ha) upd_same .nil
theorem ft_nil : FT X W (.Dict [] [] pos) dNilT := PEimp pe_dnewT fun σ H Q h => by
  obtain ⟨w, ρ, R, A, p⟩ := h
  exact fun a ha => p a [] w _ (.new ha) (A.W.grow (upd_grow ha)) ha (out_new A.W ha) upd_same .nil
theorem rd_chain {a b c : Expr} {da db dc : DE} {g g' : Wd → D → D → Option D} {σ : L2.St} {H : Hp} {Q : VK} (h : rdE X.K W (dChain g g' da db dc) σ H Q) : tChain (rOf X.K g) (rOf X.K g') (rdE X.K W da) (rdE X.K W db) (rdE X.K W dc) σ H Q := by
  obtain ⟨w, ρ, R, A, p⟩ := h
  refine ⟨w, ρ, R, A, p.bind.imp fun x R1 p1 => ?_⟩
  intro v w1 H1 l1 W1 r1
  refine ⟨w1, ρ, R1, A.step l1 W1, (Post.bind p1).mono l1 fun y R2 p2 => ?_⟩
  intro u w2 H2 l2 W2 r2
  cases e : g R2 x y with
  | none => rw [e] at p2; exact p2.elim
  | some z =>
    rw [e] at p2
    refine ⟨w2, R2, x, y, z, W2, r1.mono l2.le, r2, e, ?_⟩
    intro vz w3 H3 l3 W3 r3
    cases z with
    | bl k =>
      cases r3
      refine ⟨k, rfl, ?_⟩
      cases k with
      | false =>
        rw [if_neg Bool.false_ne_true]
        exact Ret.now (Ret.mono ((l1.trans l2).trans l3) p2) W3 (.bl false)
      | true =>
        rw [if_pos rfl]
        refine ⟨w3, ρ, R2, ((A.step l1 W1).step l2 W2).step l3 W3, (Post.bind p2).mono ((l1.trans l2).trans l3) fun t R3 p3 => ?_⟩
        intro vt w4 H4 l4 W4 r4
        cases e' : g' R3 y t with
        | none => rw [e'] at p3; exact p3.elim
        | some q =>
          rw [e'] at p3
          exact ⟨w4, R3, y, t, q, W4, (r2.mono l3.le).mono l4.le, r4, e', Ret.mono (((l1.trans l2).trans l3).trans l4) p3⟩
    | _ => exact p2.elim
theorem td_chain {a b c : Expr} {da db dc : DE} {op op' : CmpOp} {g g' : Wd → D → D → Option D} (ho : OpD X (compareOp op) g) (ho' : OpD X (compareOp op') g') (ha : ED X W a da) (hb : ED X W b db) (hc : ED X W c dc)
    (hm : lastMarks [op, op'] [b, c] = false := by first | rfl | decide) : TD X W (.Compare a [op, op'] [b, c] pos) (dTst (dChain g g' da db dc)) :=
  PTimp (pt_chain ho ho' ha hb hc hm) fun _ _ _ h => rd_chain (a := a) (b := b) (c := c) (rd_tst h)
end
end Y
end
end
section
set_option Elab.async false
set_option linter.all false
set_option maxRecDepth 100000
set_option maxHeartbeats 4000000
noncomputable section
namespace Y
open PySem PySem.Spec PyProof.Rows L2
open Classical
section
variable {X : Cx} {W : WX} {kx elt tg iter : Expr} {ifs : List Expr} {scope : Scope} {own : List (Str × Nat)} {pos : Pos} {t : Tg} {di : DI} {tt : DT} {dk de : DE}
/-- y = {k: v for ..} on one line, y a local -/
theorem ps_setDc {i : Nat} {y : Str} {py spos : Pos} {wi : TI} {g : TG} {tt : TT} {tk tv : TE} (hc : X.calm = true) (hN : X.N.Nodup) (hy : X.N[i]? = some y) (hyl : X.env.scope.names.lookup y = some .local)
    (hsw : swapsWith (.DictComp kx elt [⟨tg, iter, ifs, 0⟩] scope pos) (some (.Name y py)) spos.line X.env = pure true) (hi : PI X tg iter wi) (ok : BlkOk X.N X.env.scope scope own)
    (hg : ∀ (s : Shared) (H : Hp) (C : Addr) (cl : List (Str × Addr)) (fp : List Addr), PG (X.blk s H scope (compEnvC scope cl C X.env) fp) tg g)
    (ht : ∀ (s : Shared) (H : Hp) (C : Addr) (cl : List (Str × Addr)) (fp : List Addr), PTs (X.blk s H scope (compEnvC scope cl C X.env) fp) ifs tt)
    (hk : ∀ (s : Shared) (H : Hp) (C : Addr) (cl : List (Str × Addr)) (fp : List Addr), PE (X.blk s H scope (compEnvC scope cl C X.env) fp) kx tk)
    (he : ∀ (s : Shared) (H : Hp) (C : Addr) (cl : List (Str × Addr)) (fp : List Addr), PE (X.blk s H scope (compEnvC scope cl C X.env) fp) elt tv) (hs : ∀ x, foldedSetIterable iter X.env x = pure x := by intro _; rfl) :
    PS X (.Assign [.Name y py] (.DictComp kx elt [⟨tg, iter, ifs, 0⟩] scope pos) spos) (tAsg (tDc wi g tt tk tv (own.map (·.2))) (gName i)) := by
  refine ⟨fun pins s σ H D I hw => ?_⟩
  rw [exec_Assign_Name_used _ _ _ _ hsw]
  refine wpAny_bind (wpAny_standAt (wpAny_bind ?_))
  show wpAny _ X.A (do let _ ← comprehension (.DictComp kx elt [⟨tg, iter, ifs, 0⟩] scope pos) scope X.env (firstIterPos [⟨tg, iter, ifs, 0⟩] pos) newDict false (eval iter X.env) (some (assign (.Name y py) X.env))) _ _ s
  have hw : tDc wi g tt tk tv (own.map (·.2)) σ H (fun x H1 => gName i x σ H1 D.nx) := hw
  refine wpAny_bind (thn (dc_core (Qf := fun _ s' => SP X pins D .next s') hc hN I hi ok hg ht hk he hs hw fun L C sB mB HB IB qB hn ff => ?_) fun _ _ z => wpAny_pure (wpAny_pure z))
  show wpAny _ _ (assign (.Name y py) X.env (.ref L)) _ _ _
  refine wpAny_assign_Name (store_ok2 (v := V.ref L) IB hN hy (.inl hyl) rfl (fun sC IC ⟨a, sb, ha⟩ => ?_) (.inr hyl))
  obtain ⟨f0, f1, f2, f3, f4, f5⟩ := ff
  have ne : C ≠ a := by
    rcases ha with z | z
    · rw [z]; exact f1
    · exact fun e => f4 y a z e.symm
  exact ⟨mB, hn.sameBut sb ne, fun hD sd => ⟨_, HB, IC.turned (t' := sC.toks) (fun b o hb e => (sd.2 b hb).trans e) f0 f1 f3 f4 f5, qB⟩⟩
theorem ps_frz {st : Stmt} {t : TS} (h : PS X st t) : PS X st fun E σ H => t { E with nx := fun σ' H' => ∃ d u, H' d = some u ∧ Mut (some u) ∧ ∀ od, E.nx σ' (upd H' d (.frz od u)) } σ H := by
  refine ⟨fun pins s σ H D I hw => thn (h.run pins s σ H _ I hw) fun f s1 q => ?_⟩
  cases f with
  | next =>
    obtain ⟨σ', H', I2, d, u, e, mu, q⟩ := q
    obtain ⟨od, I3⟩ := I2.lock e mu
    exact ⟨σ', _, I3, q od⟩
  | brk => exact q
  | cont => exact q
  | ret v => exact q
theorem sd_setDc {i : Nat} {y : Str} {py spos : Pos} (hc : X.calm = true) (hN : X.N.Nodup) (hy : X.N[i]? = some y) (hyl : X.env.scope.names.lookup y = some .local)
    (hsw : swapsWith (.DictComp kx elt [⟨tg, iter, ifs, 0⟩] scope pos) (some (.Name y py)) spos.line X.env = pure true) (hi : ID X W tg iter di) (ok : BlkOk X.N X.env.scope scope own) (ho : own.map (·.2) = t.vs)
    (hg : ∀ (s : Shared) (H : Hp) (C : Addr) (cl : List (Str × Addr)) (fp : List Addr), PG (X.blk s H scope (compEnvC scope cl C X.env) fp) tg (t.g X.K))
    (ht : ∀ (s : Shared) (H : Hp) (C : Addr) (cl : List (Str × Addr)) (fp : List Addr), PTsD (X.blk s H scope (compEnvC scope cl C X.env) fp) W0 ifs tt)
    (hk : ∀ (s : Shared) (H : Hp) (C : Addr) (cl : List (Str × Addr)) (fp : List Addr), ED (X.blk s H scope (compEnvC scope cl C X.env) fp) W0 kx dk)
    (he : ∀ (s : Shared) (H : Hp) (C : Addr) (cl : List (Str × Addr)) (fp : List Addr), ED (X.blk s H scope (compEnvC scope cl C X.env) fp) W0 elt de) (hs : ∀ x, foldedSetIterable iter X.env x = pure x := by intro _; rfl) :
    SD X W (.Assign [.Name y py] (.DictComp kx elt [⟨tg, iter, ifs, 0⟩] scope pos) spos) (dSet i (dFzK (dDc t di tt dk de))) := PSimp (ps_frz (ps_setDc hc hN hy hyl hsw hi ok hg ht hk he hs)) fun E σ H h => by
  obtain ⟨w, ρ, R, A, p⟩ := h
  rw [ho]
  refine rd_dc (W := W) (tt := tt) (dk := dk) (de := de) ⟨w, ρ, R, A, ?_⟩
  have p' := (Rs.post A p).bind
  refine p'.imp fun xs R1 p1 a vs w1 H1 l1 W1 ha o e r => ⟨a, _, e, trivial, fun od => ?_⟩
  obtain ⟨n1, n2⟩ := frz_new (u := .dK vs) l1 W1 ha o od
  have r' := r.mono (Wt.share_le (o := HO.frz od (.dK vs)) o.1)
  exact p1 _ _ _ n1 ⟨n2, (A.S.mono n1.le).set i (.dic upd_same r'.1 r'.2)⟩
theorem sd_setDcC {i : Nat} {y : Str} {py spos : Pos} (hc : X.calm = true) (hN : X.N.Nodup) (hy : X.N[i]? = some y) (hyl : X.env.scope.names.lookup y = some .local)
    (hsw : swapsWith (.DictComp kx elt [⟨tg, iter, ifs, 0⟩] scope pos) (some (.Name y py)) spos.line X.env = pure true) (hi : ID X W tg iter di) (ok : BlkOk X.N X.env.scope scope own) (ho : own.map (·.2) = t.vs)
    (hg : ∀ (s : Shared) (H : Hp) (C : Addr) (cl : List (Str × Addr)) (fp : List Addr), PG (X.blk s H scope (compEnvC scope cl C X.env) fp) tg (t.g X.K))
    (ht : ∀ (s : Shared) (H : Hp) (C : Addr) (cl : List (Str × Addr)) (fp : List Addr), PTsD (X.blk s H scope (compEnvC scope cl C X.env) fp) W0 ifs tt)
    (hk : ∀ (s : Shared) (H : Hp) (C : Addr) (cl : List (Str × Addr)) (fp : List Addr), ED (X.blk s H scope (compEnvC scope cl C X.env) fp) W0 kx dk)
    (he : ∀ (s : Shared) (H : Hp) (C : Addr) (cl : List (Str × Addr)) (fp : List Addr), ED (X.blk s H scope (compEnvC scope cl C X.env) fp) W0 elt de) (hs : ∀ x, foldedSetIterable iter X.env x = pure x := by intro _; rfl) :
    SD X W (.Assign [.Name y py] (.DictComp kx elt [⟨tg, iter, ifs, 0⟩] scope pos) spos) (dSet i (dNewK (dDc t di tt dk de))) := PSimp (ps_setDc hc hN hy hyl hsw hi ok hg ht hk he hs) fun E σ H h => by
  obtain ⟨w, ρ, R, A, p⟩ := h
  rw [ho]
  refine rd_dc (W := W) (tt := tt) (dk := dk) (de := de) ⟨w, ρ, R, A, ?_⟩
  have p' := (Rs.post A p).bind
  refine p'.imp fun xs R1 p1 a vs w1 H1 l1 W1 ha o e r => ?_
  obtain ⟨n1, n2, n3⟩ := new_dk W1 o e r
  exact p1 _ _ _ (l1.cell ha n2) ⟨n1, ((A.S.mono l1.le).mono n2).set i n3⟩
end
end Y
end
end
section
set_option Elab.async false
set_option linter.all false
set_option maxRecDepth 100000
set_option maxHeartbeats 4000000
noncomputable section
namespace Y
open PySem PySem.Spec PyProof.Rows L2
open Classical
/-! ### a < b of any alike data -/
def gLtX (R : Wd) (x y : D) : Option D := match gLt R x y with
  | some z => some z
  | none => match py 40 R x, py 40 R y with
    | some a, some b => if PySem.W.alike a b = true ∧ a ≠ .none ∧ min a.depth b.depth ≤ 60 then some (.bl (PySem.W.dataLt a b)) else none
    | _, _ => none
theorem od_ltX {X : Cx} (hu : X.A.units + 65 < cLine) (S : SM X.base) : OpD X (compareOp .Lt) gLtX := by
  intro pins s σ H x y v u Q I rx ry h
  obtain ⟨w, R, x', y', z, W, r1, r2, e, q⟩ := h
  unfold gLtX at e
  split at e
  · rename_i z' e1
    cases e
    exact od_lt pins s σ H x y v u Q I rx ry ⟨w, R, x', y', _, W, r1, r2, e1, q⟩
  · split at e
    · rename_i a b e1 e2
      split at e
      · rename_i c
        cases e
        obtain ⟨as, h1, _⟩ := reads_py I W (SM.up S I) 40 r1 rx e1
        obtain ⟨bs, h2, _⟩ := reads_py I W (SM.up S I) 40 r2 ry e2
        exact PySem.W.lt_data h1 h2 c.1 c.2.1 (by have := c.2.2; omega) (fin_bl I (q.now W (.bl _)) rfl)
      · cases e
    · cases e

/-! ### d.clear() -/
def gDclear (R : Wd) (x : D) : List D → Ro
  | [] => match x with
    | .ref i => match R[i]? with
      | some (.dK _) => some (.non, R.set i (.dK []))
      | _ => none
    | _ => none
  | _ => none
theorem md_dclear {X : Cx} : MtD X "dict.clear" gDclear := by
  intro pins s σ H x xs v us Q I rx rxs h
  obtain ⟨w, R, y, ys, W, r, rs, q⟩ := h
  unfold gDclear at q
  split at q
  · cases rs
    split at q
    · split at q
      · rename_i e
        obtain ⟨a, kv, rfl, m, h1, h2, wr⟩ := dk_cell W e r
        exact mtd_clear pins s σ H _ _ v us Q I rx rxs ⟨a, kv, rfl, rfl, h1, Ret.wr q (wr [] [] .nil) .non⟩
      · exact q.elim
    · exact q.elim
  · exact q.elim
/-! ### {k: v} -/
def dDisp1 (k v : DE) : Rho → Wd → Rs (List (Key × D)) := fun ρ R => (k ρ R).bind fun x R1 => (v ρ R1).bind fun y R2 => match Y.keyOf x with
  | some q => .ok [(q, y)] R2
  | none => .stuck
section
variable {X : Cx} {W : WX} {pos : Pos} {k v : Expr} {dk dv : DE}
theorem fk_disp1 (hk : ED X W k dk) (hv : ED X W v dv) : FK X W (.Dict [some k] [v] pos) (dDisp1 dk dv) := by
  refine PEimp (pe_disp (pps_cons hk hv pps_nil) rfl rfl (fun z => by cases z) (show 1 ≤ 15 by omega)) fun σ H Q h => ?_
  obtain ⟨w, ρ, R, A, p⟩ := h
  intro D hD
  have s0 : Stp w H w (upd H D (.dK [])) := Stp.refl.poke hD
  have W0 : WR X.K w (upd H D (.dK [])) R := A.W.poke (out_new A.W hD)
  refine ⟨w, ρ, R, ⟨W0, A.S⟩, p.bind.mono s0 fun x R1 p1 => ?_⟩
  intro v1 w1 H1 l1 W1 r1
  refine ⟨w1, ρ, R1, ⟨W1, A.S.mono l1.le⟩, (Post.bind p1).mono (s0.trans l1) fun y R2 p2 => ?_⟩
  intro u w2 H2 l2 W2 r2
  obtain ⟨d1, o1⟩ := l1.fr D _ upd_same (out_new A.W hD)
  obtain ⟨d2, o2⟩ := l2.fr D _ d1 o1
  cases e : Y.keyOf x with
  | none => rw [e] at p2; exact p2.elim
  | some q =>
    rw [e] at p2
    refine ⟨d2, [(q, u)], ?_, (show 1 ≤ 15 by omega), ?_⟩
    · rw [keyOf_rel r1 e]; rfl
    · exact p2 D [(q, u)] w2 (upd H2 D (.dK [(q, u)])) (((s0.trans l1).trans l2).poke hD) (W2.poke o2) hD o2 upd_same (.cons rfl r2 .nil)
end
/-! ### d.setdefault(k, v) -/
def gSetd (R : Wd) (x y z : D) : Ro := match x with
  | .ref i => match R[i]? with
    | some (.dK kvs) => match Y.keyOf y with
      | some k => if kvs.length < sizeLine then match gA k kvs with
          | some d => some (zv R d, R)
          | none => some (z, R.set i (.dK (pA k z kvs)))
        else none
      | none => none
    | _ => none
  | _ => none
def dSetd (o k v : DE) : DE := fun ρ R => (o ρ R).bind fun x R1 => if (dkOf R1 x).isSome = true then (k ρ R1).bind fun y R2 => (v ρ R2).bind fun z R3 => (gSetd R3 x y z).rs else .stuck
theorem RelK.putNew {κ : Type} [DecidableEq κ] {K : PySem.W.Frag} {w : Wt} {kvs : List (κ × D)} (k : κ) {v : V} {d : D} (r : RelD K w v d) : ∀ {kv : List (κ × V)}, RelK K w kv kvs → gA k kvs = none → RelK K w (putK kv k v) (pA k d kvs) := by
  induction kvs with
  | nil => intro kv h _; cases h.inv0; exact .cons rfl r .nil
  | cons q kvs ih =>
    intro kv h nd
    obtain ⟨p, rr, rfl, e, hd, t⟩ := h.inv
    by_cases c : q.1 = k
    · simp [gA, c] at nd
    · simp only [gA, if_neg c] at nd
      have c' : ¬ p.1 = k := fun z => c (e.symm.trans z)
      have e1 : putK (p :: rr) k v = p :: putK rr k v := by
        unfold putK
        simp only [List.any_cons, c', decide_false, Bool.false_or]
        split
        · simp [c']
        · rfl
      have e2 : pA k d (q :: kvs) = q :: pA k d kvs := by simp [pA, c]
      rw [e1, e2]
      exact .cons e hd (ih t nd)
section
variable {X : Cx} {W : WX} {o k v : Expr} {dO dk dv : DE} {apos cpos : Pos}
theorem ed_setd (ho : ED X W o dO) (hk : ED X W k dk) (hv : ED X W v dv) (m : M2 X o "setdefault" apos k v cpos) : ED X W (.Call (.Attribute o "setdefault" apos) [k, v] [] cpos) (dSetd dO dk dv) := by
  refine PEimp (pe_dsetd ho hk hv m) fun σ H Q h => ?_
  obtain ⟨w, ρ, R, A, p⟩ := h
  refine ⟨w, ρ, R, A, p.bind.imp fun x R1 p1 => ?_⟩
  intro v1 w1 H1 l1 W1 r1
  by_cases c : (dkOf R1 x).isSome = true
  · rw [if_pos c] at p1
    obtain ⟨kvs1, c1⟩ := Option.isSome_iff_exists.mp c
    obtain ⟨a, kv1, rfl, rd, _⟩ := dk_rel W1 r1 c1
    refine ⟨a, rfl, .inl ⟨kv1, rd⟩, w1, ρ, R1, A.step l1 W1, (Post.bind p1).mono l1 fun y R2 p2 => ?_⟩
    intro v2 w2 H2 l2 W2 r2
    refine ⟨w2, ρ, R2, (A.step l1 W1).step l2 W2, (Post.bind p2).mono (l1.trans l2) fun z R3 p3 => ?_⟩
    intro v3 w3 H3 l3 W3 r3
    unfold gSetd at p3
    split at p3
    · split at p3
      · rename_i e
        split at p3
        · rename_i q eq
          split at p3
          · rename_i hl
            obtain ⟨b, kv, eb, hm, h1, h2, wr⟩ := dk_cell W3 e ((r1.mono l2.le).mono l3.le)
            cases eb
            refine ⟨kv, q, h1, keyOf_rel (r2.mono l3.le) eq |>.symm ▸ rfl, by rw [h2.length]; exact hl, fun u hu => ?_, fun hn => ?_⟩
            · obtain ⟨v1', v2'⟩ := RelK.val q h2
              cases eg : gA q _ with
              | none => rw [v1' eg] at hu; cases hu
              | some d =>
                rw [eg] at p3
                obtain ⟨u', hu', ru⟩ := v2' d eg
                rw [hu] at hu'; cases hu'
                exact (show Ret X.K w H R3 (zv R3 d) Q from p3) u w3 H3 ((l1.trans l2).trans l3) W3 (zv_rel W3 ru)
            · obtain ⟨v1', v2'⟩ := RelK.val q h2
              cases eg : gA q _ with
              | some d => obtain ⟨u', hu', ru⟩ := v2' d eg; rw [hn] at hu'; cases hu'
              | none =>
                rw [eg] at p3
                obtain ⟨n1, n2⟩ := wr _ _ (h2.putNew q r3 eg)
                exact (show Ret X.K w H _ z Q from p3) v3 w3 _ (((l1.trans l2).trans l3).trans n2) n1 r3
          · exact p3.elim
        · exact p3.elim
      · exact p3.elim
    · exact p3.elim
  · rw [if_neg c] at p1; exact p1.elim
end
/-! ### min(d), a dict with keys that are texts -/
theorem CmpOf.strs_lt {prog : Program} {w : World} {A : Around} {P : Nat → Value → Prop} (val : Nat → Str) (hval : ∀ i v, P i v → ∃ t, v = .str (val i) t) :
    CmpOf prog w A .Lt P (fun i j => decide ((val i).cps.toList < (val j).cps.toList)) := fun i j vi vj s Q E hi hj h => by
  obtain ⟨t, rfl⟩ := hval i vi hi
  obtain ⟨u, rfl⟩ := hval j vj hj
  exact lt_str h
theorem argBest_str (val : Nat → Str) : ∀ k, argBest (fun i j => decide ((val i).cps.toList < (val j).cps.toList)) k ≤ k ∧ ∀ j, j ≤ k → (val (argBest (fun i j => decide ((val i).cps.toList < (val j).cps.toList)) k)).cps.toList ≤ (val j).cps.toList
  | 0 => ⟨Nat.le_refl _, fun j hj => by have : j = 0 := by omega
                                        subst this; exact List.le_refl _⟩
  | k + 1 => by
    obtain ⟨h1, h2⟩ := argBest_str val k
    simp only [argBest]
    by_cases hc : (val (k + 1)).cps.toList < (val (argBest (fun i j => decide ((val i).cps.toList < (val j).cps.toList)) k)).cps.toList
    · rw [if_pos (by simpa using hc)]
      refine ⟨Nat.le_refl _, fun j hj => ?_⟩
      rcases Nat.lt_or_ge j (k + 1) with hlt | hge
      · exact List.le_trans (List.le_of_lt hc) (h2 j (by omega))
      · have : j = k + 1 := by omega
        subst this; exact List.le_refl _
    · rw [if_neg (by simpa using hc)]
      refine ⟨by omega, fun j hj => ?_⟩
      rcases Nat.lt_or_ge j (k + 1) with hlt | hge
      · exact h2 j (by omega)
      · have : j = k + 1 := by omega
        subst this; exact hc
def rMinS : List V → Hp → VK → Prop := fun vs H Q => ∃ (a : Addr) (kvs : List (Key × V)) (is : List Str), vs = [V.ref a] ∧ H a = some (.dK kvs) ∧ kvs.map (·.1) = is.map Sum.inr ∧ is ≠ [] ∧ ∀ m, m ∈ is → (∀ j ∈ is, m.cps.toList ≤ j.cps.toList) → Q (.str m) H
theorem cr_minS {X : Cx} (hc : X.calm = true) : CallR X (.builtin "min") rMinS := by
  intro pins s σ H vs us Q I r h
  obtain ⟨a, kvs, is, rfl, ha, hv, hne, q⟩ := h
  rw [Vals.ref1 r]
  obtain ⟨_, hsys, vs, rel, dof⟩ := dk_of I.hok ha
  obtain ⟨ep, dat⟩ := dof.dictAt
  obtain ⟨ob, es, ho, hex, hdat, hko, hpr, hnd⟩ := id dat
  have hlt : a < s.heap.objs.size := Heap.lt_size ho
  have hkeys : vs.map (·.1) = is.map Sum.inr := (KV.keys rel).symm.trans hv
  have hlv : vs.length = is.length := by
    have e1 := congrArg List.length hkeys
    rw [List.length_map, List.length_map] at e1
    exact e1
  have hlen : 0 < vs.length := by
    rw [hlv]
    exact List.length_pos_iff.mpr hne
  have hval : ∀ (i : Nat) (v : Value), (∃ k x, vs[i]? = some (k, x) ∧ (mixKind X.prog X.w).is k v = true) → ∃ t, v = Value.str (is.getD i "") t := fun i v ⟨k, x, hk, hkey⟩ => by
    have e1 : (vs.map (·.1))[i]? = some k := by rw [List.getElem?_map, hk] <;> rfl
    rw [hkeys, List.getElem?_map] at e1
    obtain ⟨j, hj, e2⟩ := Option.map_eq_some_iff.mp e1
    subst e2
    rcases keyIs_shape (show keyIs (Sum.inr j) v = true from hkey) with ⟨i', t, e3, e4⟩ | ⟨x', t, e3, e4⟩
    · cases e3
    · cases e3
      refine ⟨t, ?_⟩
      rw [e4, List.getD_eq_getElem?_getD, hj] <;> rfl
  refine call_min_walk (wpAny_pyIter_dict (knd := mixKind X.prog X.w) hsys dat ?_)
  refine ⟨_, _, _, _, _, _, _, rfl, Walks.dictKeys (knd := mixKind X.prog X.w) (A := X.A.in1) (I.ok.hd hc) s.heap.objs.size a (Nat.ne_of_lt hlt) vs ep,
    ⟨⟨_, Heap.get?_push_size _ rfl, rfl, rfl⟩, dat.keep fun b u e => Heap.get?_push_of_some _ e⟩, fun b hb => ?_, hlen, CmpOf.strs_lt (fun i => is.getD i "") hval, fun v h' tk hP hk => ?_⟩
  · show b < (s.heap.push _).objs.size
    rw [Heap.size_push]
    rcases List.mem_cons.mp hb with e | hb
    · rw [e]
      exact Nat.lt_succ_self _
    · rw [List.mem_singleton.mp hb]
      exact Nat.lt_succ_of_lt hlt
  · obtain ⟨t, rfl⟩ := hval _ v hP
    obtain ⟨b1, b2⟩ := argBest_str (fun i => is.getD i "") (vs.length - 1)
    refine ⟨.str _, H, I.kept (t' := tk) fun b u e => hk b u (fun hmem => ?_) (Heap.get?_push_of_some _ e), ⟨t, rfl⟩, q _ ?_ fun j hj => ?_⟩
    · have e1 : b = s.heap.objs.size := List.mem_singleton.mp hmem
      have e2 := Heap.lt_size e
      rw [e1] at e2
      exact absurd e2 (Nat.lt_irrefl _)
    · have hb : argBest (fun i j => decide ((is.getD i "").cps.toList < (is.getD j "").cps.toList)) (vs.length - 1) < is.length := by omega
      rw [List.getD_eq_getElem?_getD, List.getElem?_eq_getElem hb]
      exact List.getElem_mem hb
    · obtain ⟨i, hi, e⟩ := List.mem_iff_getElem.mp hj
      have e2 : is.getD i "" = j := by rw [List.getD_eq_getElem?_getD, List.getElem?_eq_getElem hi, ← e] <;> rfl
      rw [← e2]
      exact b2 i (by omega)
end Y
end
end
section
set_option Elab.async false
set_option linter.all false
set_option maxRecDepth 100000
set_option maxHeartbeats 4000000
noncomputable section
namespace Y
open PySem PySem.Spec PyProof.Rows L2
open Classical
/-! ### comprehensions with two sources -/
noncomputable def lc2D (t : Tg) (ok : Wd → Prop) (tt : DT) (d1 : DI) (t1 : Tg) (tt1 : DT) (e : DE) : List D → Rho → Wd → Option (List D × Wd)
  | [], _, R => if ok R then some ([], R) else none
  | x :: xs, ρ, R => if ok R then match t.bind x ρ with
      | none => none
      | some ρ1 => match tt ρ1 R with
        | .ok k R2 => if k = true then
            match d1 ρ1 R2 with
            | .ok p R3 => match lcD t1 p.2 tt1 e p.1 (wipeR ρ1 t1.vs) R3 with
              | some (ys, R4) => (lc2D t ok tt d1 t1 tt1 e xs ρ R4).map fun q => (ys ++ q.1, q.2)
              | none => none
            | _ => none
          else lc2D t ok tt d1 t1 tt1 e xs ρ R2
        | _ => none
    else none
def bigN (o : Option (List D × Wd)) : Option (List D × Wd) := match o with
  | some (ys, R) => if ys.length ≤ sizeLine then some (ys, R) else none
  | none => none
noncomputable def dLc2 (t : Tg) (d : DI) (tt : DT) (t1 : Tg) (d1 : DI) (tt1 : DT) (e : DE) : DA := fun ρ R => (d ρ R).bind fun p R1 => ofO (bigN (lc2D t p.2 tt d1 t1 tt1 e p.1 (wipeR ρ (t.vs ++ t1.vs)) R1))
section
variable {X : Cx} {W : WX} {tg iter tg1 iter1 elt : Expr} {ifs ifs1 : List Expr} {scope : Scope} {own : List (Str × Nat)} {di d1 : DI} {tt tt1 : DT} {de : DE} {pos : Pos} {t t1 : Tg}
theorem rd_lc2 {σ : L2.St} {H : Hp} {Q : VK} (h : rdF X.K W (dLc2 t di tt t1 d1 tt1 de) σ H Q) : tLc2 (rdI X.K W di) (t.g X.K) (rdT X.K W0 tt) (rdI X.K W0 d1) (t1.g X.K) (rdT X.K W0 tt1) (rdE X.K W0 de) (t.vs ++ t1.vs) t1.vs σ H Q := by
  obtain ⟨w, ρ, R, A, p⟩ := h
  refine ⟨w, ρ, R, A, p.bind.imp fun q R1 p1 J w1 H1 l1 W1 hI hz D hD => ?_⟩
  obtain ⟨ds, ok⟩ := q
  have hI : ItsR X.K J w1 ds ok := hI
  have hz : ds.length ≤ sizeLine := hz
  obtain ⟨ys, R', e, p1⟩ := ofO_post p1
  obtain ⟨hys, e⟩ : ys.length ≤ sizeLine ∧ lc2D t ok tt d1 t1 tt1 de ds (wipeR ρ (t.vs ++ t1.vs)) R1 = some (ys, R') := by
    unfold bigN at e
    split at e
    · rename_i e2
      split at e
      · rename_i c; cases e; exact ⟨c, e2⟩
      · cases e
    · cases e
  have hD0 : H D = none := l1.back W1 hD
  refine ⟨fun i m H2 => m + i = ds.length ∧ ∃ w2 R2 acc vs zs, Stp w H w2 H2 ∧ w1.le w2 ∧ WR X.K w2 H2 R2 ∧ w2.out D ∧ H2 D = some (.lst vs) ∧ RelDs X.K w2 vs acc ∧ lc2D t ok tt d1 t1 tt1 de (ds.drop i) (wipeR ρ (t.vs ++ t1.vs)) R2 = some (zs, R') ∧ ys = acc ++ zs,
    ⟨ds.length, by omega, w1, R1, [], [], ys, l1.poke hD0, .refl _, W1.poke (out_new W1 hD), out_new W1 hD, upd_same, .nil, by rw [List.drop_zero]; exact e, rfl⟩, ?_⟩
  rintro i m H2 ⟨hm, w2, R2, acc, vs, zs, l2, le2, W2, o2, h2, r2, e2, ey⟩
  cases ed : ds.drop i with
  | nil =>
    rw [ed, lc2D] at e2
    by_cases c : ok R2
    · rw [if_pos c] at e2
      cases e2
      rw [List.append_nil] at ey
      subst ey
      exact .inl ⟨(hI w2 H2 _ le2 W2 c).2 i (drop_nil ed), p1 D vs w2 H2 l2 W2 hD0 o2 h2 r2⟩
    · rw [if_neg c] at e2; cases e2
  | cons x xs =>
    obtain ⟨hx, hxs, hlt⟩ := drop_cons ed
    rw [ed, lc2D] at e2
    by_cases c : ok R2
    · rw [if_pos c] at e2
      obtain ⟨hgo, hy⟩ := (hI w2 H2 R2 le2 W2 c).1 i x hx
      refine .inr ⟨hgo, fun H3 => ∃ w3 R3 acc vs zs, Stp w H w3 H3 ∧ w1.le w3 ∧ WR X.K w3 H3 R3 ∧ w3.out D ∧ H3 D = some (.lst vs) ∧ RelDs X.K w3 vs acc ∧ lc2D t ok tt d1 t1 tt1 de xs (wipeR ρ (t.vs ++ t1.vs)) R3 = some (zs, R') ∧ ys = acc ++ zs, ?_, ?_⟩
      · rintro H3 ⟨w3, R3, acc3, vs3, zs3, q1, q2, q3, q4, q5, q6, q8, q9⟩
        exact ⟨m - 1, by omega, by omega, w3, R3, acc3, vs3, zs3, q1, q2, q3, q4, q5, q6, by rw [hxs]; exact q8, q9⟩
      · intro v H3 y3
        obtain ⟨w3, l3, W3, r3⟩ := hy v H3 y3
        cases eb : t.bind x (wipeR ρ (t.vs ++ t1.vs)) with
        | none => rw [eb] at e2; cases e2
        | some ρ3 =>
          rw [eb] at e2
          have e2 : (match tt ρ3 R2 with
        | .ok k R2 => if k = true then
            match d1 ρ3 R2 with
            | .ok p R3 => match lcD t1 p.2 tt1 de p.1 (wipeR ρ3 t1.vs) R3 with
              | some (ys, R4) => (lc2D t ok tt d1 t1 tt1 de xs (wipeR ρ (t.vs ++ t1.vs)) R4).map fun q => (ys ++ q.1, q.2)
              | none => none
            | _ => none
          else lc2D t ok tt d1 t1 tt1 de xs (wipeR ρ (t.vs ++ t1.vs)) R2
        | _ => none) = some (zs, R') := e2
          refine Tg.run W3 t (((A.S.mono l2.le).mono l3.le).wipe (t.vs ++ t1.vs)) r3 eb (us := t.vs ++ t1.vs) (fun _ h => List.mem_append_left _ h) fun σ3 s3 wp => ⟨wp.trans (wipe_idem fun _ h => h), ?_⟩
          obtain ⟨h3, o3⟩ := l3.fr D _ h2 o2
          refine ⟨w3, ρ3, R2, ⟨W3, s3⟩, ?_⟩
          cases et : tt ρ3 R2 with
          | ok k R4 =>
            rw [et] at e2
            have e2 : (if k = true then
            match d1 ρ3 R4 with
            | .ok p R3 => match lcD t1 p.2 tt1 de p.1 (wipeR ρ3 t1.vs) R3 with
              | some (ys, R4) => (lc2D t ok tt d1 t1 tt1 de xs (wipeR ρ (t.vs ++ t1.vs)) R4).map fun q => (ys ++ q.1, q.2)
              | none => none
            | _ => none
          else lc2D t ok tt d1 t1 tt1 de xs (wipeR ρ (t.vs ++ t1.vs)) R4) = some (zs, R') := e2
            intro w4 H4 l4 W4
            obtain ⟨h4, o4⟩ := l4.fr D _ h3 o3
            by_cases hk : k = true
            · rw [if_pos hk] at e2 ⊢
              refine ⟨w4, ρ3, R4, ⟨W4, s3.mono l4.le⟩, ?_⟩
              cases ei : d1 ρ3 R4 with
              | ok p R5 =>
                obtain ⟨es, ok1⟩ := p
                rw [ei] at e2
                have e2 : (match lcD t1 ok1 tt1 de es (wipeR ρ3 t1.vs) R5 with
              | some (ys, R4) => (lc2D t ok tt d1 t1 tt1 de xs (wipeR ρ (t.vs ++ t1.vs)) R4).map fun q => (ys ++ q.1, q.2)
              | none => none) = some (zs, R') := e2
                cases ej : lcD t1 ok1 tt1 de es (wipeR ρ3 t1.vs) R5 with
                | none => rw [ej] at e2; cases e2
                | some pr =>
                obtain ⟨ys1, R6⟩ := pr
                rw [ej] at e2
                obtain ⟨⟨zr, R6'⟩, e6, e7⟩ := Option.map_eq_some_iff.mp e2
                simp only [Prod.mk.injEq] at e7
                obtain ⟨e7, rfl⟩ := e7
                intro J1 w5 H5 l5 W5 hI1 hz1
                have hI1 : ItsR X.K J1 w5 es ok1 := hI1
                obtain ⟨h5, o5⟩ := l5.fr D _ h4 o4
                refine ⟨fun j k H6 => k + j = es.length ∧ ∃ w6 R7 acc vs zs1, Stp w H w6 H6 ∧ w5.le w6 ∧ WR X.K w6 H6 R7 ∧ w6.out D ∧ H6 D = some (.lst vs) ∧ RelDs X.K w6 vs acc ∧ lcD t1 ok1 tt1 de (es.drop j) (wipeR ρ3 t1.vs) R7 = some (zs1, R6) ∧ ys = acc ++ (zs1 ++ zr),
                  ⟨es.length, by omega, w5, R5, acc, vs, ys1, ((l2.trans l3).trans l4).trans l5, .refl _, W5, o5, h5, r2.mono ((l3.trans l4).trans l5).le, by rw [List.drop_zero]; exact ej, by rw [ey, ← e7]⟩, ?_⟩
                rintro j k6 H6 ⟨hk6, w6, R7, acc6, vs6, zs6, l6, le6, W6, o6, h6, r6, e8, ey6⟩
                cases ed6 : es.drop j with
                | nil =>
                  rw [ed6, lcD] at e8
                  by_cases c6 : ok1 R7
                  · rw [if_pos c6] at e8
                    cases e8
                    exact .inl ⟨(hI1 w6 H6 _ le6 W6 c6).2 j (drop_nil ed6), w6, _, acc6, vs6, zr, l6, le2.trans (((l3.trans l4).trans l5).le.trans le6), W6, o6, h6, r6, e6, by rw [ey6]; simp⟩
                  · rw [if_neg c6] at e8; cases e8
                | cons x6 xs6 =>
                  obtain ⟨hx6, hxs6, hlt6⟩ := drop_cons ed6
                  rw [ed6, lcD] at e8
                  by_cases c6 : ok1 R7
                  · rw [if_pos c6] at e8
                    obtain ⟨hgo6, hy6⟩ := (hI1 w6 H6 R7 le6 W6 c6).1 j x6 hx6
                    refine .inr ⟨hgo6, fun H7 => ∃ w7 R8 acc vs zs1, Stp w H w7 H7 ∧ w5.le w7 ∧ WR X.K w7 H7 R8 ∧ w7.out D ∧ H7 D = some (.lst vs) ∧ RelDs X.K w7 vs acc ∧ lcD t1 ok1 tt1 de xs6 (wipeR ρ3 t1.vs) R8 = some (zs1, R6) ∧ ys = acc ++ (zs1 ++ zr), ?_, ?_⟩
                    · rintro H7 ⟨w7, R8, acc7, vs7, zs7, q1, q2, q3, q4, q5, q6, q8, q9⟩
                      exact ⟨k6 - 1, by omega, by omega, w7, R8, acc7, vs7, zs7, q1, q2, q3, q4, q5, q6, by rw [hxs6]; exact q8, q9⟩
                    · intro v7 H7 y7
                      obtain ⟨w7, l7, W7, r7⟩ := hy6 v7 H7 y7
                      cases eb7 : t1.bind x6 (wipeR ρ3 t1.vs) with
                      | none => rw [eb7] at e8; cases e8
                      | some ρ7 =>
                        rw [eb7] at e8
                        have e8 : (match tt1 ρ7 R7 with
                      | .ok k R2 => if k = true then
                          match de ρ7 R2 with
                          | .ok y R3 => (lcD t1 ok1 tt1 de xs6 (wipeR ρ3 t1.vs) R3).map fun p => (y :: p.1, p.2)
                          | _ => none
                        else lcD t1 ok1 tt1 de xs6 (wipeR ρ3 t1.vs) R2
                      | _ => none) = some (zs6, R6) := e8
                        have s7 : RelS X.K w7 σ3 ρ3 := (((s3.mono l4.le).mono l5.le).mono le6).mono l7.le
                        refine Tg.run W7 t1 (s7.wipe t1.vs) r7 eb7 (us := t1.vs) (fun _ h => h) fun σ8 s8 wp8 => ⟨wp8.trans (wipe_idem fun _ h => h), ?_⟩
                        obtain ⟨h7, o7⟩ := l7.fr D _ h6 o6
                        refine ⟨w7, ρ7, R7, ⟨W7, s8⟩, ?_⟩
                        cases et7 : tt1 ρ7 R7 with
                        | ok k7 R8 =>
                          rw [et7] at e8
                          have e8 : (if k7 = true then
                          match de ρ7 R8 with
                          | .ok y R3 => (lcD t1 ok1 tt1 de xs6 (wipeR ρ3 t1.vs) R3).map fun p => (y :: p.1, p.2)
                          | _ => none
                        else lcD t1 ok1 tt1 de xs6 (wipeR ρ3 t1.vs) R8) = some (zs6, R6) := e8
                          intro w8 H8 l8 W8
                          obtain ⟨h8, o8⟩ := l8.fr D _ h7 o7
                          by_cases hk7 : k7 = true
                          · rw [if_pos hk7] at e8 ⊢
                            refine ⟨w8, ρ7, R8, ⟨W8, s8.mono l8.le⟩, ?_⟩
                            cases ee : de ρ7 R8 with
                            | ok y R9 =>
                              rw [ee] at e8
                              obtain ⟨⟨zs9, R9'⟩, e9, e10⟩ := Option.map_eq_some_iff.mp e8
                              cases e10
                              intro u w9 H9 l9 W9 r9
                              obtain ⟨h9, o9⟩ := l9.fr D _ h8 o8
                              have lall : Stp w H w9 H9 := ((l6.trans l7).trans l8).trans l9
                              have ra : RelDs X.K w9 vs6 acc6 := r6.mono ((l7.trans l8).trans l9).le
                              refine ⟨vs6, h9, ?_, ⟨w9, R9, acc6 ++ [y], vs6 ++ [u], zs9, lall.poke hD0, le6.trans ((l7.trans l8).trans l9).le, W9.poke o9, o9, upd_same, ra.snoc r9, e9, by rw [ey6]; simp⟩⟩
                              rw [ra.length]
                              have := congrArg List.length ey6
                              simp at this
                              omega
                            | exc _ _ => rw [ee] at e8; cases e8
                            | stuck => rw [ee] at e8; cases e8
                          · rw [if_neg hk7] at e8 ⊢
                            exact ⟨w8, R8, acc6, vs6, zs6, (l6.trans l7).trans l8, le6.trans (l7.trans l8).le, W8, o8, h8, r6.mono (l7.trans l8).le, e8, ey6⟩
                        | exc _ _ => rw [et7] at e8; cases e8
                        | stuck => rw [et7] at e8; cases e8
                  · rw [if_neg c6] at e8; cases e8
              | exc _ _ => rw [ei] at e2; cases e2
              | stuck => rw [ei] at e2; cases e2
            · rw [if_neg hk] at e2 ⊢
              exact ⟨w4, R4, acc, vs, zs, (l2.trans l3).trans l4, le2.trans (l3.trans l4).le, W4, o4, h4, r2.mono (l3.trans l4).le, e2, ey⟩
          | exc _ _ => rw [et] at e2; cases e2
          | stuck => rw [et] at e2; cases e2
    · rw [if_neg c] at e2; cases e2
theorem fl_lc2 (hc : X.calm = true) (hN : X.N.Nodup) (hi : ID X W tg iter di) (ok : BlkOk X.N X.env.scope scope own) (ho : own.map (·.2) = t.vs ++ t1.vs)
    (hg : ∀ (s : Shared) (H : Hp) (C : Addr) (cl : List (Str × Addr)) (fp : List Addr), PG (X.blk s H scope (compEnvC scope cl C X.env) fp) tg (t.g X.K))
    (ht : ∀ (s : Shared) (H : Hp) (C : Addr) (cl : List (Str × Addr)) (fp : List Addr), PTsD (X.blk s H scope (compEnvC scope cl C X.env) fp) W0 ifs tt)
    (hi1 : ∀ (s : Shared) (H : Hp) (C : Addr) (cl : List (Str × Addr)) (fp : List Addr), ID (X.blk s H scope (compEnvC scope cl C X.env) fp) W0 tg1 iter1 d1)
    (hg1 : ∀ (s : Shared) (H : Hp) (C : Addr) (cl : List (Str × Addr)) (fp : List Addr), PG (X.blk s H scope (compEnvC scope cl C X.env) fp) tg1 (t1.g X.K))
    (ht1 : ∀ (s : Shared) (H : Hp) (C : Addr) (cl : List (Str × Addr)) (fp : List Addr), PTsD (X.blk s H scope (compEnvC scope cl C X.env) fp) W0 ifs1 tt1)
    (he : ∀ (s : Shared) (H : Hp) (C : Addr) (cl : List (Str × Addr)) (fp : List Addr), ED (X.blk s H scope (compEnvC scope cl C X.env) fp) W0 elt de) (hs : ∀ x, foldedSetIterable iter X.env x = pure x := by intro _; rfl) (hs1 : ∀ env x, foldedSetIterable iter1 env x = pure x := by intro _ _; rfl) :
    FL X W (.ListComp elt [⟨tg, iter, ifs, 0⟩, ⟨tg1, iter1, ifs1, 0⟩] scope pos) (dLc2 t di tt t1 d1 tt1 de) :=
  PEimp (pe_lc2 hc hN hi ok (fun i h => by rw [ho]; exact List.mem_append_right _ h) hg ht hi1 hg1 ht1 he hs hs1) fun σ H Q h => by rw [ho]; exact rd_lc2 h
end
end Y
end
end
section
set_option Elab.async false
set_option linter.all false
set_option maxRecDepth 100000
set_option maxHeartbeats 4000000
noncomputable section
namespace Y
open PySem PySem.Spec PyProof.Rows L2
open Classical
def dkCell (R : Wd) : D → Option (List (Key × D))
  | .ref i => match R[i]? with
    | some (.dK kvs) => some kvs
    | _ => none
  | _ => none
def gMinX (R : Wd) (xs : List D) : Ro := match gMin R xs with
  | some r => some r
  | none => match xs with
    | [x] => ((dkCell R x).bind fun kvs => keyStrs (kvs.map (·.1))).bind fun ss => (sortStr ss)[0]?.map fun m => (.str m, R)
    | _ => none
theorem keyStrs_map : ∀ {ks : List Key} {ss : List Str}, keyStrs ks = some ss → ks = ss.map Sum.inr
  | [], _, e => by simp only [keyStrs, Option.some.injEq] at e; subst e; rfl
  | .inl _ :: _, _, e => by simp [keyStrs] at e
  | .inr x :: r, _, e => by
    simp only [keyStrs] at e
    obtain ⟨l, e1, e2⟩ := Option.map_eq_some_iff.mp e
    subst e2
    rw [keyStrs_map e1]; rfl
theorem sortStr_head {ss : List Str} {m h : Str} (hm : m ∈ ss) (hl : ∀ j ∈ ss, m.cps.toList ≤ j.cps.toList) (e : (sortStr ss)[0]? = some h) : m = h := by
  have pm : (sortStr ss).Perm ss := List.mergeSort_perm _ _
  have pw : (sortStr ss).Pairwise fun a b => a.cps.toList ≤ b.cps.toList := by
    have := List.pairwise_mergeSort (le := fun a b : Str => decide (a.cps.toList ≤ b.cps.toList)) (fun a b c h1 h2 => by
      simp only [decide_eq_true_eq] at *; exact List.le_trans h1 h2) (fun a b => by
      simp only [Bool.or_eq_true, decide_eq_true_eq]; exact List.le_total _ _) ss
    exact this.imp fun {a b} h => of_decide_eq_true h
  have h1 : h ∈ ss := pm.mem_iff.mp (List.mem_of_getElem? e)
  have h2 := hl h h1
  have h3 : h.cps.toList ≤ m.cps.toList := by
    have hm' := pm.mem_iff.mpr hm
    cases es : sortStr ss with
    | nil => rw [es] at e; cases e
    | cons x xs =>
      rw [es] at e hm' pw
      cases e
      rcases List.mem_cons.mp hm' with rfl | hx
      · exact List.le_refl _
      · exact (List.pairwise_cons.mp pw).1 m hx
  exact Str.ext' (Array.toList_inj.mp (List.le_antisymm h2 h3))
theorem cd_minX {X : Cx} (hc : X.calm = true) : CaD X (.builtin "min") gMinX := by
  intro pins s σ H vs us Q I rv h
  obtain ⟨w, R, xs, W, r, q⟩ := h
  unfold gMinX at q
  split at q
  · rename_i z e
    exact cd_min hc pins s σ H vs us Q I rv ⟨w, R, xs, W, r, by rw [e]; exact q⟩
  · split at q
    · rename_i x e0
      obtain ⟨v, rfl, r1⟩ := one_rel r
      obtain ⟨ss, e, q2⟩ := ro_bind q
      obtain ⟨m, em, q3⟩ := ro_map q2
      obtain ⟨kvs, e1, e2⟩ := Option.bind_eq_some_iff.mp e
      unfold dkCell at e1
      split at e1
      · split at e1
        · rename_i e3
          cases e1
          obtain ⟨a, kv, rfl, hm, h1, h2, _⟩ := dk_cell W e3 r1
          refine cr_minS hc pins s σ H _ us Q I rv ⟨a, kv, ss, rfl, h1, by rw [h2.1]; exact keyStrs_map e2, fun z => ?_, fun m' n1 n2 => ?_⟩
          · subst z; simp [sortStr] at em
          · rw [sortStr_head n1 n2 em]
            exact Ret.now (q3 : Ret X.K w H R (.str m) Q) W (.str _)
        · cases e1
      · cases e1
    · exact q.elim
end Y
end
end
section
set_option Elab.async false
set_option linter.all false
set_option maxRecDepth 100000
set_option maxHeartbeats 4000000
noncomputable section
namespace Y
open PySem PySem.Spec PyProof.Rows L2
open Classical
def wt0 (H : Hp) : Wt := ⟨H, fun _ => none, fun _ _ => none, fun _ => none⟩
theorem wr0 {K : PySem.W.Frag} (H : Hp) : WR K (wt0 H) H [] where
  sub := fun _ _ h => h
  hi := fun _ _ => ⟨rfl, fun _ => rfl, rfl⟩
  mi := by intro _ _ _ h; cases h
  ii := by intro _ _ _ _ _ h; cases h
  mn := by intro _ _ _ _ h; cases h
  lm := by intro _ _ h; cases h
  li := by intro _ _ _ h; cases h
  cell := by intro i o h; simp at h
theorem ints_script {K : PySem.W.Frag} {w : Wt} : ∀ ns : List Int, RelDs K w (ns.map V.int) (ns.map D.int)
  | [] => .nil
  | n :: ns => .cons (.int n) (ints_script ns)
theorem law_go {K : PySem.W.Frag} {n : Nat} {g : List D → Wd → Rs D} (hg : ∀ ns : List Int, ns.length ≤ n → ∃ R', g [.sl (ns.map D.int)] [] = .ok (.bl true) R') (H : Hp) (a : Addr) (ns : List Int) (hl : ns.length ≤ n) (hs : SqL K H a (ns.map V.int)) :
    spD K 1 g [.ref a] H (fun v _ => v = .bl true) fun _ _ _ => False := by
  obtain ⟨R', e⟩ := hg ns hl
  refine ⟨rfl, wt0 H, [], [.sl (ns.map D.int)], wr0 H, .cons (.sl hs (ints_script ns)) .nil, ?_⟩
  rw [e]
  intro v w' H' _ _ r
  cases r
  rfl
end Y
end
end
section
set_option Elab.async false
set_option linter.all false
set_option maxRecDepth 100000
set_option maxHeartbeats 4000000
noncomputable section
namespace Y
open PySem PySem.Spec PyProof.Rows L2
open Classical
/-! ### plain reckoning over denotations -/
section
variable {R : Wd} {i : Nat}
@[simp] theorem zv_non : zv R .non = .non := rfl
@[simp] theorem zv_bl (b : Bool) : zv R (.bl b) = .bl b := rfl
@[simp] theorem zv_int (k : Int) : zv R (.int k) = .int k := rfl
@[simp] theorem zv_str (k : Str) : zv R (.str k) = .str k := rfl
@[simp] theorem zv_lst0 (k : List D) : zv R (.lst k) = .lst k := rfl
@[simp] theorem zv_tup (k : List D) : zv R (.tup k) = .tup k := rfl
@[simp] theorem zv_dic (k : List (Key × D)) : zv R (.dic k) = .dic k := rfl
@[simp] theorem zv_sl (k : List D) : zv R (.sl k) = .sl k := rfl
theorem zv_lst {xs : List D} (e : R[i]? = some (.lst xs)) : zv R (.ref i) = .ref i := by simp [zv, e, oFz]
theorem zv_dK {xs : List (Key × D)} (e : R[i]? = some (.dK xs)) : zv R (.ref i) = .ref i := by simp [zv, e, oFz]
theorem zv_lkK {xs : List (Key × D)} (e : R[i]? = some (.lkK xs)) : zv R (.ref i) = .ref i := by simp [zv, e, oFz]
@[simp] theorem lstR_lst (xs : List D) : lstR R (.lst xs) = some xs := rfl
@[simp] theorem lstOf_lst (xs : List D) : lstOf R (.lst xs) = some xs := rfl
@[simp] theorem lstR_sl (xs : List D) : lstR R (.sl xs) = some xs := rfl
theorem lstR_ref {xs : List D} (e : R[i]? = some (.lst xs)) : lstR R (.ref i) = some xs := by simp [lstR, lstOf, e, oLst]
theorem lstOf_ref {xs : List D} (e : R[i]? = some (.lst xs)) : lstOf R (.ref i) = some xs := by simp [lstOf, e, oLst]
theorem dkOf_lst {xs : List D} (e : R[i]? = some (.lst xs)) : dkOf R (.ref i) = none := by simp [dkOf, e, oDk]
theorem dtOf_lst {xs : List D} (e : R[i]? = some (.lst xs)) : dtOf R (.ref i) = none := by simp [dtOf, e, oDt]
theorem dkOf_ref {xs : List (Key × D)} (e : R[i]? = some (.dK xs)) : dkOf R (.ref i) = some xs := by simp [dkOf, e, oDk]
theorem lstR_dK {xs : List (Key × D)} (e : R[i]? = some (.dK xs)) : lstR R (.ref i) = none := by simp [lstR, lstOf, e, oLst]
theorem gIx_cell {xs : List D} (e : R[i]? = some (.lst xs)) (k : Int) : gIx R (.ref i) (.int k) = (ixL xs k).map (zv R) := by
  simp [gIx, ixY, ixD, dGetY, dkOf_lst e, dtOf_lst e, ixS, seqOf, lstR_ref e]
@[simp] theorem gIx_lst (xs : List D) (k : Int) : gIx R (.lst xs) (.int k) = (ixL xs k).map (zv R) := by
  simp [gIx, ixY, ixD, dGetY, dkOf, dtOf, ixS, seqOf]
@[simp] theorem gIx_sl (xs : List D) (k : Int) : gIx R (.sl xs) (.int k) = (ixL xs k).map (zv R) := by
  simp [gIx, ixY, ixD, dGetY, dkOf, dtOf, ixS, seqOf]
@[simp] theorem gIx_tup (xs : List D) (k : Int) : gIx R (.tup xs) (.int k) = (ixL xs k).map (zv R) := by
  simp [gIx, ixY, ixD, dGetY, dkOf, dtOf, ixS, seqOf]
theorem gIx_dK {xs : List (Key × D)} (e : R[i]? = some (.dK xs)) {k : D} {q : Key} (hk : keyOf k = some q) : gIx R (.ref i) k = (gA q xs).map (zv R) := by
  simp [gIx, ixY, ixD, dGetY, dkOf_ref e, hk]
theorem gSet_cell {xs : List D} (e : R[i]? = some (.lst xs)) {k : Int} {j : Nat} (h : ixN xs.length k = some j) (z : D) : gSet R (.ref i) (.int k) z = some (R.set i (.lst (xs.set j z))) := by
  simp [gSet, e, h]
theorem ixL_0 {α : Type} (x : α) (xs : List α) : ixL (x :: xs) 0 = some x := rfl
theorem ixL_1 {α : Type} (x y : α) (xs : List α) : ixL (x :: y :: xs) 1 = some y := rfl
theorem ixL_2 {α : Type} (x y z : α) (xs : List α) : ixL (x :: y :: z :: xs) 2 = some z := rfl
theorem gPow_small {a k : Int} (h0 : 0 ≤ k) (h : (Builtin.Int.intBits a : Int) * k ≤ 2 ^ 27) : gPow R (.int a) (.int k) = some (.int (a ^ k.toNat)) := by
  show (if 0 ≤ k ∧ (Builtin.Int.intBits a : Int) * k ≤ 2 ^ 27 then some (D.int (a ^ k.toNat)) else none) = _
  rw [if_pos ⟨h0, h⟩]
theorem gMul_small {a b : Int} (h : a.natAbs.log2 + b.natAbs.log2 < 1000000) : gMulX R (.int a) (.int b) = some (.int (a * b)) := by simp [gMulX, gMul, h]
@[simp] theorem gAddX_int (a b : Int) : gAddX R (.int a) (.int b) = some (.int (a + b)) := rfl
@[simp] theorem gSub_int (a b : Int) : gSub R (.int a) (.int b) = some (.int (a - b)) := rfl
theorem gMod_int {a b : Int} (h : 0 < b) : gMod R (.int a) (.int b) = some (.int (a % b)) := by simp [gMod, h]
theorem gDiv_int {a b : Int} (h : 0 < b) (h2 : b.natAbs.log2 < 9000) : gDiv R (.int a) (.int b) = some (.int (a / b)) := by simp [gDiv, h, h2]
theorem log2_of {a : Int} {k n : Nat} (h : a.natAbs < 2 ^ k) (hk : k ≤ n) (h0 : 0 < n) : a.natAbs.log2 < n := by
  by_cases c : a.natAbs = 0
  · rw [c]; simpa using h0
  · have := (Nat.log2_lt c).mpr h
    omega
theorem bits_of {a : Int} {k : Nat} (h : a.natAbs < 2 ^ k) (h0 : 0 < k) : Builtin.Int.intBits a ≤ k := by
  unfold Builtin.Int.intBits
  split
  · omega
  · have := log2_of h (Nat.le_refl k) h0
    omega
theorem rngD_get (lo : Int) (n : Nat) {k : Nat} (h : k < n) : (rngD lo n)[k]? = some (.int (lo + (k : Int))) := by
  unfold rngD
  rw [List.getElem?_map, List.getElem?_range h]
  rfl
end
/-- a comprehension by an invariant of the turn, what is made so far, the world -/
theorem lcD_inv {t : Tg} {ok : Wd → Prop} {e : DE} {ρ : Rho} {xs : List D} (P : Nat → List D → Wd → Prop) {R : Wd} (h0 : P 0 [] R)
    (hs : ∀ k x acc R, xs[k]? = some x → P k acc R → ok R ∧ ∃ ρ1 y R', t.bind x ρ = some ρ1 ∧ e ρ1 R = .ok y R' ∧ P (k + 1) (acc ++ [y]) R') (he : ∀ acc R, P xs.length acc R → ok R) :
    ∃ ys R', lcD t ok dYes e xs ρ R = some (ys, R') ∧ P xs.length ys R' := by
  have go : ∀ (l : List D) (k : Nat) (acc : List D) (R : Wd), (∀ j x, l[j]? = some x → xs[k + j]? = some x) → k + l.length = xs.length → P k acc R → ∃ ys R', lcD t ok dYes e l ρ R = some (ys, R') ∧ P xs.length (acc ++ ys) R' := by
    intro l
    induction l with
    | nil =>
      intro k acc R _ hl p
      have : k = xs.length := by simpa using hl
      subst this
      exact ⟨[], R, by simp [lcD, he acc R p], by simpa using p⟩
    | cons x l ih =>
      intro k acc R hg hl p
      obtain ⟨o, ρ1, y, R', e1, e2, p'⟩ := hs k x acc R (hg 0 x rfl) p
      obtain ⟨ys, R2, e3, p2⟩ := ih (k + 1) (acc ++ [y]) R' (fun j z hz => by rw [show k + 1 + j = k + (j + 1) by omega]; exact hg (j + 1) z hz) (by simp at hl; omega) p'
      exact ⟨y :: ys, R2, by simp [lcD, o, e1, dYes, e2, e3], by simpa using p2⟩
  obtain ⟨ys, R', e1, p⟩ := go xs 0 [] R (fun j x h => by simpa using h) (by simp) h0
  exact ⟨ys, R', e1, by simpa using p⟩
/-- a comprehension that leaves the world as it is -/
theorem lcD_map {t : Tg} {ok : Wd → Prop} {e : DE} {ρ : Rho} {xs : List D} {R : Wd} (f : D → D) (o : ok R) (hs : ∀ x ∈ xs, ∃ ρ1, t.bind x ρ = some ρ1 ∧ e ρ1 R = .ok (f x) R) : lcD t ok dYes e xs ρ R = some (xs.map f, R) := by
  induction xs with
  | nil => simp [lcD, o]
  | cons x xs ih =>
    obtain ⟨ρ1, e1, e2⟩ := hs x List.mem_cons_self
    simp [lcD, o, e1, dYes, e2, ih fun y hy => hs y (List.mem_cons_of_mem _ hy)]
/-- .. with a test -/
theorem lcD_filter {t : Tg} {ok : Wd → Prop} {tt : DT} {e : DE} {ρ : Rho} {xs : List D} {R : Wd} (q : D → Bool) (f : D → D) (o : ok R) (hs : ∀ x ∈ xs, ∃ ρ1, t.bind x ρ = some ρ1 ∧ tt ρ1 R = .ok (q x) R ∧ (q x = true → e ρ1 R = .ok (f x) R)) : lcD t ok tt e xs ρ R = some ((xs.filter q).map f, R) := by
  induction xs with
  | nil => simp [lcD, o]
  | cons x xs ih =>
    obtain ⟨ρ1, e1, e2, e3⟩ := hs x List.mem_cons_self
    have ih := ih fun y hy => hs y (List.mem_cons_of_mem _ hy)
    by_cases c : q x = true
    · simp [lcD, o, e1, e2, c, e3 c, ih]
    · simp [lcD, o, e1, e2, c, ih]
/-- a loop by an invariant; its body neither breaks nor returns -/
theorem forD_inv {t : Tg} {ok : Wd → Prop} {b : DS} {xs : List D} (P : Nat → Rho → Wd → Prop) {ρ : Rho} {R : Wd} (h0 : P 0 ρ R)
    (hs : ∀ k x ρ R, xs[k]? = some x → P k ρ R → ok R ∧ ∃ ρ1 ρ2 R2, t.bind x ρ = some ρ1 ∧ (b ρ1 R = .nx ρ2 R2 ∨ b ρ1 R = .ct ρ2 R2) ∧ P (k + 1) ρ2 R2) (he : ∀ ρ R, P xs.length ρ R → ok R) :
    ∃ ρ' R', forD t ok b xs ρ R = .nx ρ' R' ∧ P xs.length ρ' R' := by
  have go : ∀ (l : List D) (k : Nat) (ρ : Rho) (R : Wd), (∀ j x, l[j]? = some x → xs[k + j]? = some x) → k + l.length = xs.length → P k ρ R → ∃ ρ' R', forD t ok b l ρ R = .nx ρ' R' ∧ P xs.length ρ' R' := by
    intro l
    induction l with
    | nil =>
      intro k ρ R _ hl p
      have : k = xs.length := by simpa using hl
      subst this
      exact ⟨ρ, R, by simp [forD, he ρ R p], p⟩
    | cons x l ih =>
      intro k ρ R hg hl p
      obtain ⟨o, ρ1, ρ2, R2, e1, e2, p'⟩ := hs k x ρ R (hg 0 x rfl) p
      obtain ⟨ρ3, R3, e3, p2⟩ := ih (k + 1) ρ2 R2 (fun j z hz => by rw [show k + 1 + j = k + (j + 1) by omega]; exact hg (j + 1) z hz) (by simp at hl; omega) p'
      refine ⟨ρ3, R3, ?_, p2⟩
      rcases e2 with e2 | e2 <;> simp [forD, o, e1, e2, e3]
  exact go xs 0 ρ R (fun j x h => by simpa using h) (by simp) h0
/-- the world has grown -/
def Ext (R S : Wd) : Prop := ∀ (i : Nat) (o : O), R[i]? = some o → S[i]? = some o
theorem Ext.refl (R : Wd) : Ext R R := fun _ _ h => h
theorem Ext.trans {A B C : Wd} (h : Ext A B) (k : Ext B C) : Ext A C := fun i o e => k i o (h i o e)
theorem Ext.app (R S : Wd) : Ext R (R ++ S) := fun i o e => by
  have : i < R.length := by
    by_cases c : i < R.length
    · exact c
    · rw [List.getElem?_eq_none (by omega)] at e; cases e
  rw [List.getElem?_append_left this]; exact e
theorem app_self (R : Wd) (o : O) : (R ++ [o])[R.length]? = some o := by simp
theorem blsOf_map {xs : List D} {f : D → Bool} : blsOf (xs.map fun x => D.bl (f x)) = some (xs.map f) := by
  induction xs with
  | nil => rfl
  | cons x xs ih => simp [blsOf, ih]
theorem strsOf_map (ss : List Str) : strsOf (ss.map D.str) = some ss := by
  induction ss with
  | nil => rfl
  | cons x xs ih => simp [strsOf, ih]
@[simp] theorem sb_NoneType_bool : Y.subB "NoneType" "bool" = false := by decide
@[simp] theorem sb_NoneType_int : Y.subB "NoneType" "int" = false := by decide
@[simp] theorem sb_NoneType_str : Y.subB "NoneType" "str" = false := by decide
@[simp] theorem sb_NoneType_tuple : Y.subB "NoneType" "tuple" = false := by decide
@[simp] theorem sb_NoneType_list : Y.subB "NoneType" "list" = false := by decide
@[simp] theorem sb_NoneType_dict : Y.subB "NoneType" "dict" = false := by decide
@[simp] theorem sb_bool_bool : Y.subB "bool" "bool" = true := by decide
@[simp] theorem sb_bool_int : Y.subB "bool" "int" = true := by decide
@[simp] theorem sb_bool_str : Y.subB "bool" "str" = false := by decide
@[simp] theorem sb_bool_tuple : Y.subB "bool" "tuple" = false := by decide
@[simp] theorem sb_bool_list : Y.subB "bool" "list" = false := by decide
@[simp] theorem sb_bool_dict : Y.subB "bool" "dict" = false := by decide
@[simp] theorem sb_int_bool : Y.subB "int" "bool" = false := by decide
@[simp] theorem sb_int_int : Y.subB "int" "int" = true := by decide
@[simp] theorem sb_int_str : Y.subB "int" "str" = false := by decide
@[simp] theorem sb_int_tuple : Y.subB "int" "tuple" = false := by decide
@[simp] theorem sb_int_list : Y.subB "int" "list" = false := by decide
@[simp] theorem sb_int_dict : Y.subB "int" "dict" = false := by decide
@[simp] theorem sb_str_bool : Y.subB "str" "bool" = false := by decide
@[simp] theorem sb_str_int : Y.subB "str" "int" = false := by decide
@[simp] theorem sb_str_str : Y.subB "str" "str" = true := by decide
@[simp] theorem sb_str_tuple : Y.subB "str" "tuple" = false := by decide
@[simp] theorem sb_str_list : Y.subB "str" "list" = false := by decide
@[simp] theorem sb_str_dict : Y.subB "str" "dict" = false := by decide
@[simp] theorem sb_tuple_bool : Y.subB "tuple" "bool" = false := by decide
@[simp] theorem sb_tuple_int : Y.subB "tuple" "int" = false := by decide
@[simp] theorem sb_tuple_str : Y.subB "tuple" "str" = false := by decide
@[simp] theorem sb_tuple_tuple : Y.subB "tuple" "tuple" = true := by decide
@[simp] theorem sb_tuple_list : Y.subB "tuple" "list" = false := by decide
@[simp] theorem sb_tuple_dict : Y.subB "tuple" "dict" = false := by decide
@[simp] theorem sb_list_bool : Y.subB "list" "bool" = false := by decide
@[simp] theorem sb_list_int : Y.subB "list" "int" = false := by decide
@[simp] theorem sb_list_str : Y.subB "list" "str" = false := by decide
@[simp] theorem sb_list_tuple : Y.subB "list" "tuple" = false := by decide
@[simp] theorem sb_list_list : Y.subB "list" "list" = true := by decide
@[simp] theorem sb_list_dict : Y.subB "list" "dict" = false := by decide
@[simp] theorem sb_dict_bool : Y.subB "dict" "bool" = false := by decide
@[simp] theorem sb_dict_int : Y.subB "dict" "int" = false := by decide
@[simp] theorem sb_dict_str : Y.subB "dict" "str" = false := by decide
@[simp] theorem sb_dict_tuple : Y.subB "dict" "tuple" = false := by decide
@[simp] theorem sb_dict_list : Y.subB "dict" "list" = false := by decide
@[simp] theorem sb_dict_dict : Y.subB "dict" "dict" = true := by decide
theorem bls_true {xs : List D} (h : ∀ x ∈ xs, x = .bl true) : ∃ bs, blsOf xs = some bs ∧ bs.all id = true := by
  induction xs with
  | nil => exact ⟨[], rfl, rfl⟩
  | cons x xs ih =>
    obtain ⟨bs, e1, e2⟩ := ih fun y hy => h y (List.mem_cons_of_mem _ hy)
    rw [h x List.mem_cons_self]
    exact ⟨true :: bs, by simp [blsOf, e1], by simpa using e2⟩
theorem gAll_true {R : Wd} {xs : List D} (h : ∀ x ∈ xs, x = .bl true) : gAll R [.lst xs] = some (.bl true, R) := by
  obtain ⟨bs, e1, e2⟩ := bls_true h
  simp only [gAll, lstR_lst, Option.bind_some, e1, Option.map_some, e2]
theorem gLe_int {R : Wd} (a b : Int) : gLe R (.int a) (.int b) = some (.bl (decide (a ≤ b))) := rfl
section
variable {R R' : Wd} {x : D} {xs : List D} {ρ : Rho}
theorem okAt_self : okAt R x R := by
  cases x <;> first | exact trivial | exact rfl
theorem lst_no {α : Sort _} (hx : lstR R x = some xs) : (∀ z, x ≠ .str z) ∧ (∀ z, x ≠ .tup z) ∧ (∀ z, x ≠ .int z) ∧ (∀ z, x ≠ .bl z) ∧ x ≠ .non ∧ (∀ z, x ≠ .dic z) ∧ (∀ z, x ≠ .dct z) := by
  refine ⟨?_, ?_, ?_, ?_, ?_, ?_, ?_⟩ <;> (first | intro z e | intro e) <;> subst e <;> simp [lstR, lstOf] at hx
theorem seqOf_lst (hx : lstR R x = some xs) : seqOf R x = some xs := by
  cases x <;> first | exact hx | (simp [lstR, lstOf] at hx; done)
theorem itsOf_lst (hx : lstR R x = some xs) : itsOf R x = some (xs, okAt R x) := by
  cases x <;> first | (simp [lstR, lstOf] at hx; done) | simp [itsOf, hx]
theorem gLen_lst (hx : lstR R x = some xs) : gLen R [x] = some (.int xs.length, R) := by
  cases x <;> first | (simp [lstR, lstOf] at hx; done) | simp [gLen, seqOf, hx]
theorem tyN_lst (hx : lstR R x = some xs) : tyN R x = some "list" := by
  cases x <;> first | (simp [lstR, lstOf] at hx; done) | simp [tyN, hx]
theorem gAll_lst (hx : lstR R x = some xs) (h : ∀ y ∈ xs, y = .bl true) : gAll R [x] = some (.bl true, R) := by
  obtain ⟨bs, e1, e2⟩ := bls_true h
  simp only [gAll, hx, Option.bind_some, e1, Option.map_some, e2]
theorem cell_lst {i : Nat} (hx : lstR R (.ref i) = some xs) : R[i]? = some (.lst xs) ∨ ∃ d, R[i]? = some (.fz d) := by
  simp only [lstR, lstOf] at hx
  cases e : R[i]? with
  | none => simp [e] at hx
  | some o =>
    simp only [e, Option.bind_some] at hx
    cases o with
    | lst ys => simp only [oLst, Option.some.injEq] at hx; subst hx; exact .inl rfl
    | fz d => exact .inr ⟨d, rfl⟩
    | _ => simp [oLst] at hx
theorem dLock_lst {α : Type} {src : DE} {d : Rho → Wd → Rs α} (h : src ρ R = .ok x R') (hx : lstR R x = some xs) : dLock src d ρ R = d ρ R := by
  unfold dLock
  rw [h]
  cases x with
  | ref i =>
    rcases cell_lst hx with e | ⟨d, e⟩ <;> simp [e]
  | _ => rfl
theorem dLockS_lst {src : DE} {d : DS} (h : src ρ R = .ok x R') (hx : lstR R x = some xs) : dLockS src d ρ R = d ρ R := by
  unfold dLockS
  rw [h]
  cases x with
  | ref i =>
    rcases cell_lst hx with e | ⟨d, e⟩ <;> simp [e]
  | _ => rfl
end
section
variable {R : Wd} {x y : D} {ss ts : List Str}
theorem py_str (n : Nat) (s : Str) : py (n + 1) R (.str s) = some (.str s) := rfl
theorem py_int (n : Nat) (s : Int) : py (n + 1) R (.int s) = some (.int s) := rfl
theorem py_non (n : Nat) : py (n + 1) R .non = some .none := rfl
theorem py_tup (n : Nat) (xs : List D) : py (n + 1) R (.tup xs) = (pyL (py n R) xs).map .tuple := rfl
theorem py_lst (n : Nat) {xs : List D} (hx : lstR R x = some xs) : py (n + 1) R x = (pyL (py n R) xs).map .list := by
  cases x with
  | lst ys => simp only [lstR_lst, Option.some.injEq] at hx; subst hx; rfl
  | sl ys => simp only [lstR_sl, Option.some.injEq] at hx; subst hx; rfl
  | ref i =>
    show (match lstR R (.ref i) with
      | some xs => (pyL (py n R) xs).map PyData.list
      | none => _) = _
    rw [hx]
  | sub i k =>
    show (match lstR R (.sub i k) with
      | some xs => (pyL (py n R) xs).map PyData.list
      | none => _) = _
    rw [hx]
  | _ => simp [lstR, lstOf] at hx
theorem pyL_strs (n : Nat) : ∀ ss : List Str, pyL (py (n + 1) R) (ss.map .str) = some (ss.map .str)
  | [] => rfl
  | s :: ss => by rw [List.map_cons, pyL, py_str, pyL_strs n ss]; rfl
theorem py_strs (hx : lstR R x = some (ss.map .str)) : py 40 R x = some (.list (ss.map .str)) := by
  rw [py_lst 39 hx, pyL_strs 38]; rfl
theorem shaped_strs (h : ∀ s ∈ ss, PyData.strOk s = true) : SeqAt.shaped (.list (ss.map .str)) = true := by
  have a : PyData.canLayAll0 (ss.map .str) = true := by
    induction ss with
    | nil => rfl
    | cons s ss ih => simp [PyData.canLayAll0, PyData.canLay0, h s List.mem_cons_self, ih fun t ht => h t (List.mem_cons_of_mem _ ht)]
  have b : PyData.depthAll (ss.map .str) ≤ 1 := by
    clear h a
    induction ss with
    | nil => simp [PyData.depthAll]
    | cons s ss ih => simp [PyData.depthAll, PyData.depth] at ih ⊢; omega
  have c : (PyData.list (ss.map PyData.str)).depth ≤ 2 := by
    rw [PyData.depth]; omega
  simp only [SeqAt.shaped, PyData.canLay0, a, Bool.true_and, decide_eq_true_eq]
  omega
theorem eqvAll_strs : ∀ (ss ts : List Str), PyData.eqvAll (ss.map .str) (ts.map .str) = decide (ss = ts)
  | [], [] => rfl
  | [], _ :: _ => rfl
  | _ :: _, [] => rfl
  | s :: ss, t :: ts => by
    simp only [List.map_cons, PyData.eqvAll, PyData.eqv, eqvAll_strs ss ts]
    by_cases h : s = t
    · subst h; by_cases k : ss = ts <;> simp [k]
    · simp [h]
theorem eqVal_strs (hx : lstR R x = some (ss.map .str)) (hy : lstR R y = some (ts.map .str)) (h1 : ∀ s ∈ ss, PyData.strOk s = true) (h2 : ∀ s ∈ ts, PyData.strOk s = true) : eqVal R x y = some (decide (ss = ts)) := by
  simp only [eqVal, py_strs hx, py_strs hy, if_pos (And.intro (shaped_strs h1) (shaped_strs h2)), PyData.eqv, eqvAll_strs]
theorem gNe_strs (hx : lstR R x = some (ss.map .str)) (hy : lstR R y = some (ts.map .str)) (h1 : ∀ s ∈ ss, PyData.strOk s = true) (h2 : ∀ s ∈ ts, PyData.strOk s = true) : gNe R x y = some (.bl (!decide (ss = ts))) := by
  have e := eqVal_strs hx hy h1 h2
  cases x <;> first | (simp [lstR, lstOf] at hx; done) | simp [gNe, e]
theorem gEq_strs (hx : lstR R x = some (ss.map .str)) (hy : lstR R y = some (ts.map .str)) (h1 : ∀ s ∈ ss, PyData.strOk s = true) (h2 : ∀ s ∈ ts, PyData.strOk s = true) : gEq R x y = some (.bl (decide (ss = ts))) := by
  have e := eqVal_strs hx hy h1 h2
  cases x <;> first | (simp [lstR, lstOf] at hx; done) | simp [gEq, e]
@[simp] theorem gNe_str (a b : Str) : gNe R (.str a) (.str b) = some (.bl (!decide (a = b))) := rfl
@[simp] theorem gEq_str (a b : Str) : gEq R (.str a) (.str b) = some (.bl (decide (a = b))) := rfl
theorem gList_lst {xs : List D} (hx : lstR R x = some xs) : gList R [x] = some xs := by simp [gList, seqOf_lst hx]
end
end Y
end
end
section
set_option Elab.async false
set_option linter.all false
set_option maxRecDepth 100000
set_option maxHeartbeats 4000000
noncomputable section
namespace Y
open PySem PySem.Spec PyProof.Rows L2
open Classical
/-! ### one step at a time -/
section
variable {ρ ρ1 : Rho} {R R1 R2 : Wd} {x y z : D} {xs : List D}
theorem ev_seq {a b : DS} (h : a ρ R = .nx ρ1 R1) : dSeq a b ρ R = b ρ1 R1 := by unfold dSeq; rw [h]
theorem ev_seq_rt {a b : DS} (h : a ρ R = .rt x R1) : dSeq a b ρ R = .rt x R1 := by unfold dSeq; rw [h]
theorem ev_set {i : Nat} {e : DE} (h : e ρ R = .ok x R1) : dSet i e ρ R = .nx (ρ.set i (some x)) R1 := by unfold dSet; rw [h]; rfl
theorem ev_ret {e : DE} (h : e ρ R = .ok x R1) : dRet e ρ R = .rt x R1 := by unfold dRet; rw [h]; rfl
theorem ev_newL {d : DA} (h : d ρ R = .ok xs R1) : dNewL d ρ R = .ok (.ref R1.length) (R1 ++ [.lst xs]) := by unfold dNewL; rw [h]; rfl
theorem ev_fz {d : DA} (h : d ρ R = .ok xs R1) : dFz d ρ R = .ok (.lst xs) R1 := by unfold dFz; rw [h]; rfl
theorem ev_all {n : Nat} {b : DS} {ds : List D} (h : b (startR n ds) R = .rt x R1) : fnD n .all b ds R = .ok x R1 := by unfold fnD; rw [h]; rfl
end
end Y
end
end
section
set_option Elab.async false
set_option linter.all false
set_option maxRecDepth 100000
set_option maxHeartbeats 4000000
noncomputable section
namespace Y
open PySem PySem.Spec PyProof.Rows L2
open Classical
/-! ### what is wanted behind a denotation, stepwise -/
inductive wR {α : Type} : Rs α → (α → Wd → Prop) → (Exn → Wd → Prop) → Prop
  | ok {a : α} {R : Wd} {P : α → Wd → Prop} {E : Exn → Wd → Prop} (h : P a R) : wR (.ok a R) P E
  | exc {c : Exn} {R : Wd} {P : α → Wd → Prop} {E : Exn → Wd → Prop} (h : E c R) : wR (.exc c R) P E
inductive wS : SRs → (Rho → Wd → Prop) → (D → Wd → Prop) → (Rho → Wd → Prop) → (Rho → Wd → Prop) → (Exn → Rho → Wd → Prop) → Prop
  | nx {ρ R N T B C E} (h : N ρ R) : wS (.nx ρ R) N T B C E
  | rt {d R N T B C E} (h : T d R) : wS (.rt d R) N T B C E
  | bk {ρ R N T B C E} (h : B ρ R) : wS (.bk ρ R) N T B C E
  | ct {ρ R N T B C E} (h : C ρ R) : wS (.ct ρ R) N T B C E
  | exc {c ρ R N T B C E} (h : E c ρ R) : wS (.exc c ρ R) N T B C E
abbrev nvr {α β : Type} : α → β → Prop := fun _ _ => False
abbrev nvr3 {α β γ : Type} : α → β → γ → Prop := fun _ _ _ => False
section
variable {α β : Type} {r : Rs α} {P P' : α → Wd → Prop} {E E' : Exn → Wd → Prop}
theorem wR_ok {a : α} {R : Wd} (e : r = .ok a R) (h : P a R) : wR r P E := by rw [e]; exact .ok h
theorem wR_exc {c : Exn} {R : Wd} (e : r = .exc c R) (h : E c R) : wR r P E := by rw [e]; exact .exc h
theorem wR_ex (h : wR r P nvr) : ∃ a R, r = .ok a R ∧ P a R := by
  cases h with
  | ok h => exact ⟨_, _, rfl, h⟩
  | exc h => exact h.elim
theorem wR_imp (h : wR r P E) (i : ∀ a R, P a R → P' a R) (j : ∀ c R, E c R → E' c R) : wR r P' E' := by
  cases h with
  | ok h => exact .ok (i _ _ h)
  | exc h => exact .exc (j _ _ h)
theorem wR_nv (h : wR r P nvr) (i : ∀ a R, P a R → P' a R) : wR r P' E := wR_imp h i fun _ _ => False.elim
theorem wR_bind {f : α → Wd → Rs β} {P : β → Wd → Prop} (h : wR r (fun a R => wR (f a R) P E) E) : wR (r.bind f) P E := by
  cases h with
  | ok h => exact h
  | exc h => exact .exc h
variable {N B C N' B' C' : Rho → Wd → Prop} {T T' : D → Wd → Prop} {F F' : Exn → Rho → Wd → Prop} {ρ : Rho} {R : Wd}
theorem wS_imp {r : SRs} (h : wS r N T B C F) (i : ∀ a R, N a R → N' a R) (j : ∀ a R, T a R → T' a R) (k : ∀ a R, B a R → B' a R) (l : ∀ a R, C a R → C' a R) (m : ∀ a b R, F a b R → F' a b R) : wS r N' T' B' C' F' := by
  cases h with
  | nx h => exact .nx (i _ _ h)
  | rt h => exact .rt (j _ _ h)
  | bk h => exact .bk (k _ _ h)
  | ct h => exact .ct (l _ _ h)
  | exc h => exact .exc (m _ _ _ h)
theorem wS_toS {f : α → Wd → SRs} (h : wR r (fun a R => wS (f a R) N T B C F) (fun c R => F c ρ R)) : wS (r.toS ρ f) N T B C F := by
  cases h with
  | ok h => exact h
  | exc h => exact .exc h
/-! statements -/
theorem w_seq {a b : DS} (h : wS (a ρ R) (fun ρ1 R1 => wS (b ρ1 R1) N T B C F) T B C F) : wS (dSeq a b ρ R) N T B C F := by
  unfold dSeq
  cases e : a ρ R <;> rw [e] at h <;> cases h <;> first | assumption | (constructor; assumption)
theorem w_next (h : N ρ R) : wS (dNext ρ R) N T B C F := .nx h
theorem w_set {i : Nat} {e : DE} (h : wR (e ρ R) (fun x R1 => N (ρ.set i (some x)) R1) (fun c R1 => F c ρ R1)) : wS (dSet i e ρ R) N T B C F := wS_toS (wR_imp h (fun _ _ h => .nx h) fun _ _ h => h)
theorem w_asg {t : Tg} {e : DE} (h : wR (e ρ R) (fun x R1 => ∃ ρ', t.bind x ρ = some ρ' ∧ N ρ' R1) (fun c R1 => F c ρ R1)) : wS (dAsg t e ρ R) N T B C F :=
  wS_toS (wR_imp h (fun x R1 ⟨ρ', e1, h⟩ => by rw [e1]; exact .nx h) fun _ _ h => h)
theorem w_ifs {c : DT} {a b : DS} (h : wR (c ρ R) (fun k R1 => (k = true → wS (a ρ R1) N T B C F) ∧ (k = false → wS (b ρ R1) N T B C F)) (fun c R1 => F c ρ R1)) : wS (dIfS c a b ρ R) N T B C F :=
  wS_toS (wR_imp h (fun k R1 h => by cases k with | true => exact h.1 rfl | false => exact h.2 rfl) fun _ _ h => h)
theorem w_ret {e : DE} (h : wR (e ρ R) T (fun c R1 => F c ρ R1)) : wS (dRet e ρ R) N T B C F := wS_toS (wR_imp h (fun _ _ h => .rt h) fun _ _ h => h)
theorem w_retN (h : T .non R) : wS (dRetN ρ R) N T B C F := .rt h
theorem w_exp {e : DE} (h : wR (e ρ R) (fun _ R1 => N ρ R1) (fun c R1 => F c ρ R1)) : wS (dExp e ρ R) N T B C F := wS_toS (wR_imp h (fun _ _ h => .nx h) fun _ _ h => h)
theorem w_brk (h : B ρ R) : wS (dBrk ρ R) N T B C F := .bk h
theorem w_cnt (h : C ρ R) : wS (dCnt ρ R) N T B C F := .ct h
theorem w_par {i j : Nat} {d : DA} (h : wR (d ρ R) (fun xs R1 => ∃ x y, xs = [x, y] ∧ N ((ρ.set i (some x)).set j (some y)) R1) (fun c R1 => F c ρ R1)) : wS (dPar i j d ρ R) N T B C F :=
  wS_toS (wR_imp h (fun xs R1 ⟨x, y, e, h⟩ => by subst e; exact .nx h) fun _ _ h => h)
theorem w_put {e o i : DE} (h : wR (e ρ R) (fun z R1 => wR (o ρ R1) (fun x R2 => wR (i ρ R2) (fun y R3 => ∃ R4, gSet R3 x y z = some R4 ∧ N ρ R4) (fun c R => F c ρ R)) (fun c R => F c ρ R)) (fun c R => F c ρ R)) : wS (dPut e o i ρ R) N T B C F :=
  wS_toS (wR_imp h (fun z R1 h => wS_toS (wR_imp h (fun x R2 h => wS_toS (wR_imp h (fun y R3 ⟨R4, e, h⟩ => by rw [e]; exact .nx h) fun _ _ h => h)) fun _ _ h => h)) fun _ _ h => h)
theorem w_aug {i : Nat} {g : Wd → D → D → Option D} {e : DE} {x : D} (hx : ρ[i]? = some (some x)) (h : wR (e ρ R) (fun y R1 => ∃ z, g R1 x y = some z ∧ N (ρ.set i (some z)) R1) (fun c R1 => F c ρ R1)) : wS (dAug i g e ρ R) N T B C F := by
  unfold dAug
  rw [hx]
  exact wS_toS (wR_imp h (fun y R1 ⟨z, e1, h⟩ => by rw [e1]; exact .nx h) fun _ _ h => h)
theorem w_raise {cl : Addr} {a : DA} (h : wR (a ρ R) (fun xs R1 => xs.length ≤ sizeLine ∧ F ⟨cl, none⟩ ρ R1) (fun c R1 => F c ρ R1)) : wS (dRaise cl a ρ R) N T B C F :=
  wS_toS (wR_imp h (fun xs R1 ⟨e, h⟩ => by rw [if_pos e]; exact .exc h) fun _ _ h => h)
theorem w_for {t : Tg} {d : DI} {b : DS} (h : wR (d ρ R) (fun p R1 => wS (forD t p.2 b p.1 ρ R1) N T B C F) (fun c R1 => F c ρ R1)) : wS (dFor t d b ρ R) N T B C F := wS_toS h
/-- by an invariant over what is left -/
theorem w_forD {t : Tg} {ok : Wd → Prop} {b : DS} (I : List D → Rho → Wd → Prop) (xs : List D) (hok : ∀ l ρ R, I l ρ R → ok R) (h0 : I xs ρ R)
    (hn : ∀ ρ R, I [] ρ R → N ρ R)
    (hs : ∀ x l ρ R, I (x :: l) ρ R → ∃ ρ1, t.bind x ρ = some ρ1 ∧ wS (b ρ1 R) (I l) T N (I l) F) : wS (forD t ok b xs ρ R) N T B C F := by
  induction xs generalizing ρ R with
  | nil => unfold forD; rw [if_pos (hok _ _ _ h0)]; exact .nx (hn _ _ h0)
  | cons x xs ih =>
    obtain ⟨ρ1, e1, h⟩ := hs x xs ρ R h0
    unfold forD
    rw [if_pos (hok _ _ _ h0)]
    simp only [e1]
    cases e : b ρ1 R with
    | nx ρ2 R2 => rw [e] at h; cases h with | nx h => exact ih h
    | ct ρ2 R2 => rw [e] at h; cases h with | ct h => exact ih h
    | bk ρ2 R2 => rw [e] at h; cases h with | bk h => exact .nx h
    | rt d R2 => rw [e] at h; cases h with | rt h => exact .rt h
    | exc c ρ2 R2 => rw [e] at h; cases h with | exc h => exact .exc h
    | stuck => rw [e] at h; cases h
/-- by an invariant over the turn -/
theorem w_forI {t : Tg} {ok : Wd → Prop} {b : DS} (I : Nat → Rho → Wd → Prop) (xs : List D) (hok : ∀ k ρ R, I k ρ R → ok R) (h0 : I 0 ρ R)
    (hn : ∀ ρ R, I xs.length ρ R → N ρ R)
    (hs : ∀ k x ρ R, xs[k]? = some x → I k ρ R → ∃ ρ1, t.bind x ρ = some ρ1 ∧ wS (b ρ1 R) (I (k + 1)) T N (I (k + 1)) F) : wS (forD t ok b xs ρ R) N T B C F := by
  refine w_forD (fun l ρ R => ∃ k, k + l.length = xs.length ∧ (∀ j x, l[j]? = some x → xs[k + j]? = some x) ∧ I k ρ R) xs (fun l ρ R ⟨k, _, _, h⟩ => hok k ρ R h) ⟨0, by simp, fun j x h => by simpa using h, h0⟩ (fun ρ R ⟨k, e, _, h⟩ => by simp at e; subst e; exact hn _ _ h) ?_
  rintro x l ρ R ⟨k, e1, e2, h⟩
  obtain ⟨ρ1, e3, h3⟩ := hs k x ρ R (e2 0 x rfl) h
  have nx : ∀ a R, I (k + 1) a R → ∃ k, k + l.length = xs.length ∧ (∀ j x, l[j]? = some x → xs[k + j]? = some x) ∧ I k a R := fun a R h => ⟨k + 1, by simp at e1; omega, fun j y hy => by rw [show k + 1 + j = k + (j + 1) by omega]; exact e2 (j + 1) y hy, h⟩
  exact ⟨ρ1, e3, wS_imp h3 nx (fun _ _ h => h) (fun _ _ h => h) nx fun _ _ _ h => h⟩
/-- a list is walked -/
theorem w_lockS {src : DE} {d : DS} {x : D} {xs : List D} {R' : Wd} (h : src ρ R = .ok x R') (hx : lstR R x = some xs) (h2 : wS (d ρ R) N T B C F) : wS (dLockS src d ρ R) N T B C F := by rw [dLockS_lst h hx]; exact h2
theorem w_lockS_dK {src : DE} {d : DS} {i : Nat} {kvs : List (Key × D)} {R' : Wd} (h : src ρ R = .ok (.ref i) R') (hx : R[i]? = some (.dK kvs))
    (h2 : wS (d ρ (R.set i (.lkK kvs))) (fun ρ1 R1 => R1[i]? = some (.lkK kvs) ∧ N ρ1 (R1.set i (.dK kvs))) (fun ρ1 R1 => R1[i]? = some (.lkK kvs) ∧ T ρ1 (R1.set i (.dK kvs))) (fun ρ1 R1 => R1[i]? = some (.lkK kvs) ∧ B ρ1 (R1.set i (.dK kvs))) (fun ρ1 R1 => R1[i]? = some (.lkK kvs) ∧ C ρ1 (R1.set i (.dK kvs))) F) : wS (dLockS src d ρ R) N T B C F := by
  unfold dLockS
  rw [h]
  simp only [hx]
  cases e : d ρ (R.set i (.lkK kvs)) with
  | nx a b => rw [e] at h2; cases h2 with | nx h2 => obtain ⟨h3, h4⟩ := h2; simp only [unS, if_pos h3]; exact .nx h4
  | rt a b => rw [e] at h2; cases h2 with | rt h2 => obtain ⟨h3, h4⟩ := h2; simp only [unS, if_pos h3]; exact .rt h4
  | bk a b => rw [e] at h2; cases h2 with | bk h2 => obtain ⟨h3, h4⟩ := h2; simp only [unS, if_pos h3]; exact .bk h4
  | ct a b => rw [e] at h2; cases h2 with | ct h2 => obtain ⟨h3, h4⟩ := h2; simp only [unS, if_pos h3]; exact .ct h4
  | exc a b c => rw [e] at h2; cases h2 with | exc h2 => exact .exc h2
  | stuck => rw [e] at h2; cases h2
end
/-! a def -/
section
variable {R : Wd} {P : D → Wd → Prop} {E : Exn → Wd → Prop}
theorem w_fn {n : Nat} {b : DS} {ds : List D} (h : wS (b (startR n ds) R) (fun _ R' => P .non R') P nvr nvr (fun c _ R' => Clean R R' ∧ c.pay = none ∧ E c (R'.take R.length))) : wR (fnD n .all b ds R) P E := by
  unfold fnD
  cases e : b (startR n ds) R with
  | nx a b => rw [e] at h; cases h with | nx h => exact .ok h
  | rt a b => rw [e] at h; cases h with | rt h => exact .ok h
  | bk a b => rw [e] at h; cases h with | bk h => exact h.elim
  | ct a b => rw [e] at h; cases h with | ct h => exact h.elim
  | exc a b c =>
    rw [e] at h
    cases h with
    | exc h =>
    obtain ⟨h1, h2, h3⟩ := h
    have : (∀ fs, a.pay = some fs → ∀ p ∈ fs, Bl R.length p.2) := fun fs e => by rw [h2] at e; cases e
    simp only [finX, if_pos (And.intro h1 this)]
    exact .exc h3
  | stuck => rw [e] at h; cases h
end
/-! expressions -/
section
variable {ρ : Rho} {R : Wd} {P : D → Wd → Prop} {E : Exn → Wd → Prop} {a b c : DE}
theorem w_var {i : Nat} {x y : D} (h : ρ[i]? = some (some x)) (hz : zv R x = y) (p : P y R) : wR (dVar i ρ R) P E := by
  unfold dVar; rw [h]; subst hz; exact .ok p
theorem w_k {d : D} (p : P d R) : wR (Y.dK d ρ R) P E := .ok p
theorem w_bin {g : Wd → D → D → Option D} (h : wR (a ρ R) (fun x R1 => wR (b ρ R1) (fun y R2 => ∃ z, g R2 x y = some z ∧ P z R2) E) E) : wR (dBin g a b ρ R) P E :=
  wR_bind (wR_imp h (fun x R1 h => wR_bind (wR_imp h (fun y R2 ⟨z, e, h⟩ => by rw [e]; exact .ok h) fun _ _ h => h)) fun _ _ h => h)
theorem w_un {g : Wd → D → Option D} (h : wR (a ρ R) (fun x R1 => ∃ z, g R1 x = some z ∧ P z R1) E) : wR (dUn g a ρ R) P E :=
  wR_bind (wR_imp h (fun x R1 ⟨z, e, h⟩ => by rw [e]; exact .ok h) fun _ _ h => h)
theorem w_chain {g g' : Wd → D → D → Option D} (h : wR (a ρ R) (fun x R1 => wR (b ρ R1) (fun y R2 => ∃ k, g R2 x y = some (.bl k) ∧ (k = true → wR (c ρ R2) (fun z R3 => ∃ t, g' R3 y z = some t ∧ P t R3) E) ∧ (k = false → P (.bl false) R2)) E) E) : wR (dChain g g' a b c ρ R) P E :=
  wR_bind (wR_imp h (fun x R1 h => wR_bind (wR_imp h (fun y R2 ⟨k, e, h1, h2⟩ => by
    rw [e]
    cases k with
    | true => exact wR_bind (wR_imp (h1 rfl) (fun z R3 ⟨t, e, h⟩ => by rw [e]; exact .ok h) fun _ _ h => h)
    | false => exact .ok (h2 rfl)) fun _ _ h => h)) fun _ _ h => h)
theorem w_andV (h : wR (a ρ R) (fun x R1 => ∃ k, x = .bl k ∧ (k = true → wR (b ρ R1) P E) ∧ (k = false → P (.bl false) R1)) E) : wR (dAndV a b ρ R) P E :=
  wR_bind (wR_imp h (fun x R1 ⟨k, e, h1, h2⟩ => by subst e; cases k with | true => exact h1 rfl | false => exact .ok (h2 rfl)) fun _ _ h => h)
theorem w_orV (h : wR (a ρ R) (fun x R1 => ∃ k, x = .bl k ∧ (k = false → wR (b ρ R1) P E) ∧ (k = true → P (.bl true) R1)) E) : wR (dOrV a b ρ R) P E :=
  wR_bind (wR_imp h (fun x R1 ⟨k, e, h1, h2⟩ => by subst e; cases k with | true => exact .ok (h2 rfl) | false => exact h1 rfl) fun _ _ h => h)
theorem w_notV (h : wR (a ρ R) (fun x R1 => ∃ k, x = .bl k ∧ P (.bl (!k)) R1) E) : wR (dNotV a ρ R) P E :=
  wR_bind (wR_imp h (fun x R1 ⟨k, e, h1⟩ => by subst e; exact .ok h1) fun _ _ h => h)
theorem w_ife {α : Type} {P : α → Wd → Prop} {c : DT} {a b : Rho → Wd → Rs α} (h : wR (c ρ R) (fun k R1 => (k = true → wR (a ρ R1) P E) ∧ (k = false → wR (b ρ R1) P E)) E) : wR (dIfE c a b ρ R) P E :=
  wR_bind (wR_imp h (fun k R1 h => by cases k with | true => exact h.1 rfl | false => exact h.2 rfl) fun _ _ h => h)
theorem w_tup {d : DA} (h : wR (d ρ R) (fun xs R1 => P (.tup xs) R1) E) : wR (dTup d ρ R) P E := wR_bind (wR_imp h (fun _ _ h => .ok h) fun _ _ h => h)
theorem w_fz {d : DA} (h : wR (d ρ R) (fun xs R1 => P (.lst xs) R1) E) : wR (dFz d ρ R) P E := wR_bind (wR_imp h (fun _ _ h => .ok h) fun _ _ h => h)
theorem w_fzK {d : Rho → Wd → Rs (List (Key × D))} (h : wR (d ρ R) (fun xs R1 => P (.dic xs) R1) E) : wR (dFzK d ρ R) P E := wR_bind (wR_imp h (fun _ _ h => .ok h) fun _ _ h => h)
theorem w_newL {d : DA} (h : wR (d ρ R) (fun xs R1 => P (.ref R1.length) (R1 ++ [.lst xs])) E) : wR (dNewL d ρ R) P E := wR_bind (wR_imp h (fun _ _ h => .ok h) fun _ _ h => h)
theorem w_newK {d : Rho → Wd → Rs (List (Key × D))} (h : wR (d ρ R) (fun xs R1 => P (.ref R1.length) (R1 ++ [.dK xs])) E) : wR (dNewK d ρ R) P E := wR_bind (wR_imp h (fun _ _ h => .ok h) fun _ _ h => h)
theorem w_call {g : Wd → List D → Ro} {d : DA} (h : wR (d ρ R) (fun xs R1 => ∃ z R2, g R1 xs = some (z, R2) ∧ P z R2) E) : wR (dCall g d ρ R) P E :=
  wR_bind (wR_imp h (fun xs R1 ⟨z, R2, e, h⟩ => by rw [e]; exact .ok h) fun _ _ h => h)
theorem w_callF {n : Nat} {g : List D → Wd → Rs D} {d : DA} (h : wR (d ρ R) (fun xs R1 => xs.length = n ∧ wR (g xs R1) P E) E) : wR (dCallF n g d ρ R) P E :=
  wR_bind (wR_imp h (fun xs R1 ⟨e, h⟩ => by rw [if_pos e]; exact h) fun _ _ h => h)
theorem w_meth {Ty : String} {g : Wd → D → List D → Ro} {o : DE} {d : DA} (h : wR (o ρ R) (fun x R1 => tyOf R1 x = some Ty ∧ wR (d ρ R1) (fun xs R2 => ∃ z R3, g R2 x xs = some (z, R3) ∧ P z R3) E) E) : wR (dMeth Ty g o d ρ R) P E :=
  wR_bind (wR_imp h (fun x R1 ⟨e, h⟩ => by rw [if_pos e]; exact wR_bind (wR_imp h (fun xs R2 ⟨z, R3, e, h⟩ => by rw [e]; exact .ok h) fun _ _ h => h)) fun _ _ h => h)
theorem w_methG {α : Type} {P : α → Wd → Prop} {Ty : String} {g : Wd → D → List D → Option α} {o : DE} {d : DA} (h : wR (o ρ R) (fun x R1 => tyOf R1 x = some Ty ∧ wR (d ρ R1) (fun xs R2 => ∃ z, g R2 x xs = some z ∧ P z R2) E) E) : wR (dMethG Ty g o d ρ R) P E :=
  wR_bind (wR_imp h (fun x R1 ⟨e, h⟩ => by rw [if_pos e]; exact wR_bind (wR_imp h (fun xs R2 ⟨z, e, h⟩ => by rw [e]; exact .ok h) fun _ _ h => h)) fun _ _ h => h)
theorem w_callG {α : Type} {P : α → Wd → Prop} {g : Wd → List D → Option α} {d : DA} (h : wR (d ρ R) (fun xs R1 => ∃ z, g R1 xs = some z ∧ P z R1) E) : wR (dCallG g d ρ R) P E :=
  wR_bind (wR_imp h (fun xs R1 ⟨z, e, h⟩ => by rw [e]; exact .ok h) fun _ _ h => h)
theorem w_binL {P : List D → Wd → Prop} {g : Wd → D → D → Option (List D)} (h : wR (a ρ R) (fun x R1 => wR (b ρ R1) (fun y R2 => ∃ z, g R2 x y = some z ∧ P z R2) E) E) : wR (dBinL g a b ρ R) P E :=
  wR_bind (wR_imp h (fun x R1 h => wR_bind (wR_imp h (fun y R2 ⟨z, e, h⟩ => by rw [e]; exact .ok h) fun _ _ h => h)) fun _ _ h => h)
theorem w_isi {Ty : String} (h : wR (a ρ R) (fun x R1 => ∃ t, tyN R1 x = some t ∧ P (.bl (subB t Ty)) R1) E) : wR (dIsi Ty a ρ R) P E :=
  wR_bind (wR_imp h (fun x R1 ⟨t, e, h⟩ => by rw [e]; exact .ok h) fun _ _ h => h)
theorem w_slice {α : Type} {P : α → Wd → Prop} {g : Wd → D → Option Int → Option Int → Option α} {lo hi : Option DE} (h : wR (a ρ R) (fun x R1 => wR (dPart lo ρ R1) (fun l R2 => wR (dPart hi ρ R2) (fun u R3 => ∃ z, g R3 x l u = some z ∧ P z R3) E) E) E) : wR (dSlice g a lo hi ρ R) P E :=
  wR_bind (wR_imp h (fun x R1 h => wR_bind (wR_imp h (fun l R2 h => wR_bind (wR_imp h (fun u R3 ⟨z, e, h⟩ => by rw [e]; exact .ok h) fun _ _ h => h)) fun _ _ h => h)) fun _ _ h => h)
theorem w_partN {P : Option Int → Wd → Prop} (h : P none R) : wR (dPart none ρ R) P E := .ok h
theorem w_partS {P : Option Int → Wd → Prop} {d : DE} (h : wR (d ρ R) (fun x R1 => ∃ i, x = .int i ∧ P (some i) R1) E) : wR (dPart (some d) ρ R) P E :=
  wR_bind (wR_imp h (fun x R1 ⟨i, e, h⟩ => by subst e; exact .ok h) fun _ _ h => h)
/-! arguments -/
section
variable {Q : List D → Wd → Prop}
theorem w_nil (h : Q [] R) : wR (dNil ρ R) Q E := .ok h
theorem w_cons {d : DA} (h : wR (a ρ R) (fun x R1 => wR (d ρ R1) (fun xs R2 => Q (x :: xs) R2) E) E) : wR (dCons a d ρ R) Q E :=
  wR_bind (wR_imp h (fun x R1 h => wR_bind (wR_imp h (fun _ _ h => .ok h) fun _ _ h => h)) fun _ _ h => h)
theorem w_sz {d : DA} (h : wR (d ρ R) (fun xs R1 => xs.length ≤ sizeLine ∧ Q xs R1) E) : wR (dSz d ρ R) Q E :=
  wR_bind (wR_imp h (fun xs R1 ⟨e, h⟩ => by rw [if_pos e]; exact .ok h) fun _ _ h => h)
theorem w_lc {t : Tg} {d : DI} {tt : DT} {e : DE} (h : wR (d ρ R) (fun p R1 => ∃ ys R2, lcD t p.2 tt e p.1 (wipeR ρ t.vs) R1 = some (ys, R2) ∧ Q ys R2) E) : wR (dLc t d tt e ρ R) Q E :=
  wR_bind (wR_imp h (fun p R1 ⟨ys, R2, e, h⟩ => by rw [e]; exact .ok h) fun _ _ h => h)
theorem w_dc {P : List (Key × D) → Wd → Prop} {t : Tg} {d : DI} {tt : DT} {e f : DE} (h : wR (d ρ R) (fun p R1 => ∃ ys R2, dcD t p.2 tt e f p.1 [] (wipeR ρ t.vs) R1 = some (ys, R2) ∧ P ys R2) E) : wR (dDc t d tt e f ρ R) P E :=
  wR_bind (wR_imp h (fun p R1 ⟨ys, R2, e, h⟩ => by rw [e]; exact .ok h) fun _ _ h => h)
theorem w_nilK {P : List (Key × D) → Wd → Prop} (h : P [] R) : wR (dNilK ρ R) P E := .ok h
end
theorem w_lock {α : Type} {P : α → Wd → Prop} {src : DE} {d : Rho → Wd → Rs α} {x : D} {xs : List D} {R' : Wd} (h : src ρ R = .ok x R') (hx : lstR R x = some xs) (h2 : wR (d ρ R) P E) : wR (dLock src d ρ R) P E := by rw [dLock_lst h hx]; exact h2
theorem w_lock_str {α : Type} {P : α → Wd → Prop} {src : DE} {d : Rho → Wd → Rs α} {x : Str} {R' : Wd} (h : src ρ R = .ok (.str x) R') (h2 : wR (d ρ R) P E) : wR (dLock src d ρ R) P E := by unfold dLock; rw [h]; exact h2
theorem w_lock_dic {α : Type} {P : α → Wd → Prop} {src : DE} {d : Rho → Wd → Rs α} {x : List (Key × D)} {R' : Wd} (h : src ρ R = .ok (.dic x) R') (h2 : wR (d ρ R) P E) : wR (dLock src d ρ R) P E := by unfold dLock; rw [h]; exact h2
theorem w_lock_dK {α : Type} {P : α → Wd → Prop} {src : DE} {d : Rho → Wd → Rs α} {i : Nat} {kvs : List (Key × D)} {R' : Wd} (h : src ρ R = .ok (.ref i) R') (hx : R[i]? = some (.dK kvs))
    (h2 : wR (d ρ (R.set i (.lkK kvs))) (fun x R1 => R1[i]? = some (.lkK kvs) ∧ P x (R1.set i (.dK kvs))) E) : wR (dLock src d ρ R) P E := by
  unfold dLock
  rw [h]
  simp only [hx]
  cases e : d ρ (R.set i (.lkK kvs)) with
  | ok a b => rw [e] at h2; cases h2 with | ok h2 => obtain ⟨h3, h4⟩ := h2; simp only [if_pos h3]; exact .ok h4
  | exc a b => rw [e] at h2; cases h2 with | exc h2 => exact .exc h2
  | stuck => rw [e] at h2; cases h2
/-! tests -/
section
variable {Q : Bool → Wd → Prop} {s t : DT}
theorem w_tst (h : wR (a ρ R) (fun x R1 => ∃ k, x = .bl k ∧ Q k R1) E) : wR (dTst a ρ R) Q E :=
  wR_bind (wR_imp h (fun x R1 ⟨k, e, h⟩ => by subst e; exact .ok h) fun _ _ h => h)
theorem w_not (h : wR (s ρ R) (fun k R1 => Q (!k) R1) E) : wR (dNot s ρ R) Q E := wR_bind (wR_imp h (fun _ _ h => .ok h) fun _ _ h => h)
theorem w_and (h : wR (s ρ R) (fun k R1 => (k = true → wR (t ρ R1) Q E) ∧ (k = false → Q false R1)) E) : wR (dAnd s t ρ R) Q E :=
  wR_bind (wR_imp h (fun k R1 h => by cases k with | true => exact h.1 rfl | false => exact .ok (h.2 rfl)) fun _ _ h => h)
theorem w_or (h : wR (s ρ R) (fun k R1 => (k = false → wR (t ρ R1) Q E) ∧ (k = true → Q true R1)) E) : wR (dOr s t ρ R) Q E :=
  wR_bind (wR_imp h (fun k R1 h => by cases k with | true => exact .ok (h.2 rfl) | false => exact h.1 rfl) fun _ _ h => h)
theorem w_yes (h : Q true R) : wR (dYes ρ R) Q E := .ok h
end
/-! what is walked -/
section
variable {Q : List D × (Wd → Prop) → Wd → Prop}
theorem w_its (h : wR (a ρ R) (fun x R1 => ∃ p, itsOf R1 x = some p ∧ p.1.length ≤ sizeLine ∧ Q p R1) E) : wR (dIts a ρ R) Q E :=
  wR_bind (wR_imp h (fun x R1 ⟨p, e, l, h⟩ => by rw [e]; simp only [if_pos l]; exact .ok h) fun _ _ h => h)
theorem w_itsL (h : wR (a ρ R) (fun x R1 => ∃ xs, lstR R1 x = some xs ∧ xs.length ≤ sizeLine ∧ Q (xs, okAt R1 x) R1) E) : wR (dIts a ρ R) Q E :=
  w_its (wR_imp h (fun x R1 ⟨xs, e, l, h⟩ => ⟨_, itsOf_lst e, l, h⟩) fun _ _ h => h)
theorem w_vals (h : wR (a ρ R) (fun x R1 => ∃ kvs, frK R1 x = some kvs ∧ kvs.length ≤ sizeLine ∧ Q (kvs.map (fun p => p.2), okAt R1 x) R1) E) : wR (dVals a ρ R) Q E :=
  wR_bind (wR_imp h (fun x R1 ⟨p, e, l, h⟩ => by rw [e]; simp only [if_pos l]; exact .ok h) fun _ _ h => h)
theorem w_items (h : wR (a ρ R) (fun x R1 => ∃ kvs, frK R1 x = some kvs ∧ kvs.length ≤ sizeLine ∧ Q (kvs.map (fun p => D.tup [dKy p.1, p.2]), okAt R1 x) R1) E) : wR (dItems a ρ R) Q E :=
  wR_bind (wR_imp h (fun x R1 ⟨p, e, l, h⟩ => by rw [e]; simp only [if_pos l]; exact .ok h) fun _ _ h => h)
theorem w_rng1 (h : wR (a ρ R) (fun x R1 => ∃ n : Nat, x = .int (n : Int) ∧ n ≤ 1000000 ∧ Q (rngD 0 n, fun _ => True) R1) E) : wR (dRng1 a ρ R) Q E :=
  wR_bind (wR_imp h (fun x R1 ⟨n, e, l, h⟩ => by
    subst e
    have : -(2 ^ 62 : Int) ≤ (n : Int) ∧ (n : Int) < 2 ^ 62 ∧ (n : Int).toNat ≤ sizeLine := ⟨by omega, by omega, by rw [sizeLine_eq]; omega⟩
    simp only [if_pos this]
    exact .ok h) fun _ _ h => h)
theorem w_rng2 (h : wR (a ρ R) (fun x R1 => ∃ i : Int, x = .int i ∧ wR (b ρ R1) (fun y R2 => ∃ j : Int, y = .int j ∧ (-1000000 ≤ i ∧ i ≤ 1000000 ∧ -1000000 ≤ j ∧ j ≤ 1000000) ∧ Q (rngD i (j - i).toNat, fun _ => True) R2) E) E) : wR (dRng2 a b ρ R) Q E :=
  wR_bind (wR_imp h (fun x R1 ⟨i, e1, h⟩ => wR_bind (wR_imp h (fun y R2 ⟨j, e2, l, h⟩ => by
    subst e1 e2
    have : (-(2 ^ 62 : Int) ≤ i ∧ i < 2 ^ 62 ∧ -(2 ^ 62 : Int) ≤ j ∧ j < 2 ^ 62) ∧ (j - i).toNat ≤ sizeLine := ⟨by omega, by rw [sizeLine_eq]; omega⟩
    simp only [if_pos this]
    exact .ok h) fun _ _ h => h)) fun _ _ h => h)
theorem w_zip (h : wR (a ρ R) (fun x R1 => wR (b ρ R1) (fun y R2 => ∃ xs ys, lstR R2 x = some xs ∧ lstR R2 y = some ys ∧ xs.length ≤ sizeLine ∧ Q ((xs.zip ys).map fun p => D.tup [p.1, p.2], fun R' => okAt R2 x R' ∧ okAt R2 y R') R2) E) E) : wR (dZip a b ρ R) Q E :=
  wR_bind (wR_imp h (fun x R1 h => wR_bind (wR_imp h (fun y R2 ⟨xs, ys, e1, e2, l, h⟩ => by rw [e1, e2]; simp only [if_pos l]; exact .ok h) fun _ _ h => h)) fun _ _ h => h)
theorem w_enum (h : wR (a ρ R) (fun x R1 => ∃ xs, lstR R1 x = some xs ∧ xs.length ≤ sizeLine ∧ Q (enumD 0 xs, okAt R1 x) R1) E) : wR (dEnum a ρ R) Q E :=
  wR_bind (wR_imp h (fun x R1 ⟨xs, e, l, h⟩ => by rw [e]; simp only [if_pos l]; exact .ok h) fun _ _ h => h)
end
/-! comprehensions -/
section
variable {t : Tg} {ok : Wd → Prop} {tt : DT} {e : DE} {xs : List D} {Q : List D → Wd → Prop}
/-- the world stays -/
theorem w_map (f : D → D) (o : ok R) (hs : ∀ x ∈ xs, ∃ ρ1, t.bind x ρ = some ρ1 ∧ wR (e ρ1 R) (fun y R' => y = f x ∧ R' = R) nvr) (h : Q (xs.map f) R) : ∃ ys R2, lcD t ok dYes e xs ρ R = some (ys, R2) ∧ Q ys R2 :=
  ⟨_, _, lcD_map f o fun x hx => by obtain ⟨ρ1, e1, h⟩ := hs x hx; obtain ⟨y, R', e2, rfl, rfl⟩ := wR_ex h; exact ⟨ρ1, e1, e2⟩, h⟩
theorem w_filt (q : D → Bool) (f : D → D) (o : ok R) (hs : ∀ x ∈ xs, ∃ ρ1, t.bind x ρ = some ρ1 ∧ wR (tt ρ1 R) (fun k R' => k = q x ∧ R' = R) nvr ∧ (q x = true → wR (e ρ1 R) (fun y R' => y = f x ∧ R' = R) nvr)) (h : Q ((xs.filter q).map f) R) : ∃ ys R2, lcD t ok tt e xs ρ R = some (ys, R2) ∧ Q ys R2 :=
  ⟨_, _, lcD_filter q f o fun x hx => by
    obtain ⟨ρ1, e1, h, h2⟩ := hs x hx
    obtain ⟨y, R', e2, rfl, rfl⟩ := wR_ex h
    refine ⟨ρ1, e1, e2, fun k => ?_⟩
    obtain ⟨y, R', e3, rfl, e4⟩ := wR_ex (h2 k)
    rw [e3, e4], h⟩
/-- the world changes -/
theorem w_lcI (I : Nat → List D → Wd → Prop) (h0 : I 0 [] R) (ho : ∀ k acc R, I k acc R → ok R)
    (hs : ∀ k x acc R, xs[k]? = some x → I k acc R → ∃ ρ1, t.bind x ρ = some ρ1 ∧ wR (e ρ1 R) (fun y R' => I (k + 1) (acc ++ [y]) R') nvr) (h : ∀ ys R, I xs.length ys R → Q ys R) : ∃ ys R2, lcD t ok dYes e xs ρ R = some (ys, R2) ∧ Q ys R2 := by
  obtain ⟨ys, R', e1, p⟩ := lcD_inv (t := t) (ok := ok) (e := e) (ρ := ρ) (xs := xs) I h0 (fun k x acc R hx p => by
    obtain ⟨ρ1, e1, h⟩ := hs k x acc R hx p
    obtain ⟨y, R', e2, h3⟩ := wR_ex h
    exact ⟨ho k acc R p, ρ1, y, R', e1, e2, h3⟩) fun acc R p => ho _ _ _ p
  exact ⟨ys, R', e1, h ys R' p⟩
end
end
end Y
end
end
section
set_option Elab.async false
set_option linter.all false
set_option maxRecDepth 100000
set_option maxHeartbeats 4000000
noncomputable section
namespace Y
open PySem PySem.Spec PyProof.Rows L2
open Classical
open TL (tl joinL len_tl join_eq tl_join)
section
variable {R : Wd} {i : Nat}
theorem tyOf_cell {xs : List D} (e : R[i]? = some (.lst xs)) : tyOf R (.ref i) = some "list" := by simp [tyOf, e, oTy]
theorem cellL_ref {xs : List D} (e : R[i]? = some (.lst xs)) : cellL R (.ref i) = some (i, xs) := by simp [cellL, e]
theorem app_set (R : Wd) (a b : O) : (R ++ [a]).set R.length b = R ++ [b] := by simp
end
/-! texts -/
theorem joinL_len (S : List Nat) : ∀ ps : List (List Nat), (joinL S ps).length ≤ (ps.map List.length).sum + ps.length * S.length
  | [] => by simp [joinL]
  | [p] => by simp [joinL]
  | p :: q :: r => by
    have := joinL_len S (q :: r)
    simp only [joinL, List.length_append, List.map_cons, List.sum_cons, List.length_cons] at this ⊢
    simp only [Nat.add_mul] at this ⊢
    omega
theorem join_len (a : Str) (ss : List Str) : (Txt.join a ss).length ≤ (ss.map (·.length)).sum + ss.length * a.length := by
  have := joinL_len (tl a) (ss.map tl)
  rw [join_eq, len_tl, tl_join, len_tl a]
  simp only [List.map_map, List.length_map] at this
  have e : (List.length ∘ tl) = fun x : Str => x.length := funext fun x => (len_tl x).symm
  rw [e] at this
  exact this
theorem mem_joinL {S : List Nat} {c : Nat} : ∀ {ps : List (List Nat)}, c ∈ joinL S ps → c ∈ S ∨ ∃ p ∈ ps, c ∈ p
  | [], h => by simp [joinL] at h
  | [p], h => .inr ⟨p, by simp, by simpa [joinL] using h⟩
  | p :: q :: r, h => by
    simp only [joinL, List.mem_append] at h
    rcases h with h | h | h
    · exact .inr ⟨p, by simp, h⟩
    · exact .inl h
    · rcases mem_joinL h with h | ⟨p', h1, h2⟩
      · exact .inl h
      · exact .inr ⟨p', List.mem_cons_of_mem _ h1, h2⟩
theorem mem_join {a : Str} {ss : List Str} {c : Nat} (h : c ∈ tl (Txt.join a ss)) : c ∈ tl a ∨ ∃ s ∈ ss, c ∈ tl s := by
  rw [join_eq, tl_join] at h
  rcases mem_joinL h with h | ⟨p, h1, h2⟩
  · exact .inl h
  · obtain ⟨s, hs, rfl⟩ := List.mem_map.mp h1
    exact .inr ⟨s, hs, h2⟩
theorem sortStr_perm (xs : List Str) : (sortStr xs).Perm xs := List.mergeSort_perm _ _
theorem sortStr_le (xs : List Str) : (sortStr xs).Pairwise fun a b => a.cps.toList ≤ b.cps.toList := by
  have := List.pairwise_mergeSort (le := fun a b : Str => decide (a.cps.toList ≤ b.cps.toList)) (fun a b c h1 h2 => by
    simp only [decide_eq_true_eq] at *; exact List.le_trans h1 h2) (fun a b => by
    simp only [Bool.or_eq_true, decide_eq_true_eq]; exact List.le_total _ _) xs
  exact this.imp fun {a b} h => of_decide_eq_true h
theorem sortStr_lt {xs : List Str} (h : xs.Nodup) : (sortStr xs).Pairwise fun a b => a.cps.toList < b.cps.toList := by
  have nd : (sortStr xs).Nodup := (sortStr_perm xs).nodup_iff.mpr h
  refine ((sortStr_le xs).and nd).imp fun {a b} ⟨h1, h2⟩ => ?_
  apply Classical.byContradiction
  intro h3
  have h3 : b.cps.toList ≤ a.cps.toList := h3
  exact h2 (Str.ext' (Array.toList_inj.mp (List.le_antisymm h1 h3)))

section
variable {ρ : Rho} {R : Wd} {P : D → Wd → Prop} {E : Exn → Wd → Prop}
/-- a new cell, the world no further told -/
theorem w_newLx {d : DA} (h : wR (d ρ R) (fun xs R1 => ∀ R2, Y.Ext R1 R2 → R2[R1.length]? = some (.lst xs) → R2.length = R1.length + 1 → P (.ref R1.length) R2) E) : wR (dNewL d ρ R) P E :=
  w_newL (wR_imp h (fun xs R1 h => h _ (Y.Ext.app _ _) (app_self _ _) (by simp)) fun _ _ h => h)
theorem w_newKx {d : Rho → Wd → Rs (List (Key × D))} (h : wR (d ρ R) (fun xs R1 => ∀ R2, Y.Ext R1 R2 → R2[R1.length]? = some (.dK xs) → R2.length = R1.length + 1 → P (.ref R1.length) R2) E) : wR (dNewK d ρ R) P E :=
  w_newK (wR_imp h (fun xs R1 h => h _ (Y.Ext.app _ _) (app_self _ _) (by simp)) fun _ _ h => h)
/-- a text, no further told -/
theorem w_kS {s : Str} (h : ∀ s', s' = s → P (.str s') R) : wR (Y.dK (.str s) ρ R) P E := .ok (h s rfl)
end
end Y
end
end
section
set_option Elab.async false
set_option linter.all false
set_option maxRecDepth 100000
set_option maxHeartbeats 4000000
noncomputable section
namespace Y
open PySem PySem.Spec PyProof.Rows L2
open Classical
/-! ### further rules, stepwise -/
section
variable {ρ : Rho} {R : Wd} {P : D → Wd → Prop} {E : Exn → Wd → Prop} {o k v : DE}
theorem w_setd (h : wR (o ρ R) (fun x R1 => (dkOf R1 x).isSome = true ∧ wR (k ρ R1) (fun y R2 => wR (v ρ R2) (fun z R3 => ∃ d R4, gSetd R3 x y z = some (d, R4) ∧ P d R4) E) E) E) : wR (dSetd o k v ρ R) P E :=
  wR_bind (wR_imp h (fun x R1 ⟨c, h⟩ => by rw [if_pos c]; exact wR_bind (wR_imp h (fun y R2 h => wR_bind (wR_imp h (fun z R3 ⟨d, R4, e, h⟩ => by rw [e]; exact .ok h) fun _ _ h => h)) fun _ _ h => h)) fun _ _ h => h)
theorem w_disp1 {P : List (Key × D) → Wd → Prop} (h : wR (k ρ R) (fun x R1 => wR (v ρ R1) (fun y R2 => ∃ q, Y.keyOf x = some q ∧ P [(q, y)] R2) E) E) : wR (dDisp1 k v ρ R) P E :=
  wR_bind (wR_imp h (fun x R1 h => wR_bind (wR_imp h (fun y R2 ⟨q, e, h⟩ => by rw [e]; exact .ok h) fun _ _ h => h)) fun _ _ h => h)
theorem w_lc2 {Q : List D → Wd → Prop} {t t1 : Tg} {d d1 : DI} {tt tt1 : DT} {e : DE} (h : wR (d ρ R) (fun p R1 => ∃ ys R2, lc2D t p.2 tt d1 t1 tt1 e p.1 (wipeR ρ (t.vs ++ t1.vs)) R1 = some (ys, R2) ∧ ys.length ≤ sizeLine ∧ Q ys R2) E) : wR (dLc2 t d tt t1 d1 tt1 e ρ R) Q E :=
  wR_bind (wR_imp h (fun p R1 ⟨ys, R2, e, l, h⟩ => by rw [e]; simp only [bigN, if_pos l]; exact .ok h) fun _ _ h => h)
/-- two sources, the world stays -/
theorem w_flat {Q : List D → Wd → Prop} {t t1 : Tg} {ok : Wd → Prop} {d1 : DI} {tt tt1 : DT} {e : DE} {xs : List D} (F : D → List D) (o : ok R)
    (hs : ∀ x ∈ xs, ∃ ρ1, t.bind x ρ = some ρ1 ∧ wR (tt ρ1 R) (fun k R' => k = true ∧ R' = R) nvr ∧ wR (d1 ρ1 R) (fun p R' => R' = R ∧ ∃ ys R2, lcD t1 p.2 tt1 e p.1 (wipeR ρ1 t1.vs) R = some (ys, R2) ∧ ys = F x ∧ R2 = R) nvr)
    (hl : (xs.flatMap F).length ≤ sizeLine) (h : Q (xs.flatMap F) R) : ∃ ys R2, lc2D t ok tt d1 t1 tt1 e xs ρ R = some (ys, R2) ∧ ys.length ≤ sizeLine ∧ Q ys R2 := by
  refine ⟨_, _, ?_, hl, h⟩
  clear hl h
  induction xs with
  | nil => simp [lc2D, o]
  | cons x xs ih =>
    obtain ⟨ρ1, e1, h1, h2⟩ := hs x List.mem_cons_self
    obtain ⟨kk, R1, e2, rfl, rfl⟩ := wR_ex h1
    obtain ⟨p, R2, e3, rfl, ys, R3, e4, rfl, rfl⟩ := wR_ex h2
    simp [lc2D, o, e1, e2, e3, e4, ih fun y hy => hs y (List.mem_cons_of_mem _ hy)]
/-- while, by a measure -/
theorem w_while {c : DT} {b : DS} {N B C : Rho → Wd → Prop} {T : D → Wd → Prop} {F : Exn → Rho → Wd → Prop} (I : Nat → Rho → Wd → Prop) (n : Nat) (h0 : I n ρ R)
    (hs : ∀ n ρ R, I n ρ R → wR (c ρ R) (fun k R1 => (k = true → wS (b ρ R1) (fun ρ2 R2 => ∃ m, m < n ∧ I m ρ2 R2) T N (fun ρ2 R2 => ∃ m, m < n ∧ I m ρ2 R2) F) ∧ (k = false → N ρ R1)) (fun c R1 => F c ρ R1)) : wS (dWhile c b ρ R) N T B C F := by
  have go : ∀ n ρ R, I n ρ R → ∃ r k, whN c b k ρ R = some r ∧ wS r N T B C F := by
    intro n
    induction n using Nat.strongRecOn with
    | ind n ih =>
      intro ρ R hi
      have h := hs n ρ R hi
      cases ec : c ρ R with
      | stuck => rw [ec] at h; cases h
      | exc x R1 => rw [ec] at h; cases h with | exc h => exact ⟨_, 1, by simp only [whN, ec], .exc h⟩
      | ok kk R1 =>
        rw [ec] at h
        cases h with
        | ok h =>
        cases kk with
        | false => exact ⟨_, 1, by simp [whN, ec], .nx (h.2 rfl)⟩
        | true =>
          have h := h.1 rfl
          cases eb : b ρ R1 with
          | nx ρ2 R2 =>
            rw [eb] at h; cases h with | nx h =>
            obtain ⟨m, hm, him⟩ := h
            obtain ⟨r, j, e, w⟩ := ih m hm _ _ him
            exact ⟨r, j + 1, by simp [whN, ec, eb, e], w⟩
          | ct ρ2 R2 =>
            rw [eb] at h; cases h with | ct h =>
            obtain ⟨m, hm, him⟩ := h
            obtain ⟨r, j, e, w⟩ := ih m hm _ _ him
            exact ⟨r, j + 1, by simp [whN, ec, eb, e], w⟩
          | bk ρ2 R2 => rw [eb] at h; cases h with | bk h => exact ⟨_, 1, by simp [whN, ec, eb], .nx h⟩
          | rt d R2 => rw [eb] at h; cases h with | rt h => exact ⟨_, 1, by simp [whN, ec, eb], .rt h⟩
          | exc x ρ2 R2 => rw [eb] at h; cases h with | exc h => exact ⟨_, 1, by simp [whN, ec, eb], .exc h⟩
          | stuck => rw [eb] at h; cases h
  obtain ⟨r, k, e, w⟩ := go n ρ R h0
  rw [dWhile_of e]
  exact w
end
end Y
end
end
section
set_option Elab.async false
set_option linter.all false
set_option maxRecDepth 100000
set_option maxHeartbeats 4000000
noncomputable section
namespace Y
open PySem PySem.Spec PyProof.Rows L2
open Classical
open TL (tl joinL len_tl join_eq tl_join)
/-! the laws' texts, names and tables: plain reckoning (first made for k49) -/
def StOK (R : Wd) (i : Nat) (n : Nat) : Prop := ∃ a b c : Int, R[i]? = some (.lst [.int a, .int b, .int c]) ∧ 0 ≤ b ∧ b < 10 ^ 60 ∧ 0 ≤ c ∧ c ≤ n
abbrev letters : Str := "abcdefghijklmnopqrstuvwxyz"
def IsName (s : Str) : Prop := 1 ≤ s.length ∧ s.length ≤ 8 ∧ ∀ c ∈ s.cps.toList, c ∈ letters.cps.toList
theorem size8 : 8 ≤ sizeLine := by rw [sizeLine_eq]; omega
theorem line400 : 400 ≤ sizeLine := by rw [sizeLine_eq]; omega
theorem name_chars {s : Str} (h : IsName s) : ∀ c ∈ s.cps.toList, 97 ≤ c ∧ c ≤ 122 := fun c hc => by
  have := h.2.2 c hc
  have e : ∀ c ∈ letters.cps.toList, 97 ≤ c ∧ c ≤ 122 := by decide +kernel
  exact e c this
theorem name_len {ss : List Str} (hn : ∀ s ∈ ss, IsName s) : (ss.map (·.length)).sum ≤ 8 * ss.length := by
  induction ss with
  | nil => simp
  | cons s ss ih =>
    have h1 := (hn s List.mem_cons_self).2.1
    have h2 := ih fun x hx => hn x (List.mem_cons_of_mem _ hx)
    simp only [List.map_cons, List.sum_cons, List.length_cons]
    omega
theorem gJoin_ok {R : Wd} {x : D} {a : Str} {ss : List Str} (hx : seqOf R x = some (ss.map .str)) (h : (ss.map (·.length)).sum + ss.length * a.length ≤ 16777216) : gJoin R (.str a) [x] = some (.str (Txt.join a ss), R) := by
  simp only [gJoin, hx, Option.bind_some, strsOf_map, if_pos h]
theorem gSplit_ok {R : Wd} {a b : Str} (h1 : (b.length == 0) = false) (h2 : a.length + 2 ≤ sizeLine) : gSplit R (.str a) [.str b] = some ((Txt.split a b).map .str) := by
  simp only [gSplit, if_pos (And.intro h1 h2)]
theorem name_ok {s : Str} (h : IsName s) : PyData.strOk s = true := by
  have := name_chars h
  unfold PyData.strOk
  rw [Array.all_eq_true']
  intro c hc
  have := this c (Array.mem_toList_iff.mpr hc)
  simp; omega
def base : List Str := ["a", "b", "p", "g", "z", "ask", "net", "line", "none", "empty", "abcdefgh", "abcdefgi", "zzzzzzzz"]
def pool : List Str := base ++ letters.cps.toList.map (fun c => ("n" : Str) ++ ⟨#[c]⟩) ++ letters.cps.toList.map (fun c => ("k" : Str) ++ ⟨#[c]⟩)
instance (s : Str) : Decidable (IsName s) := by unfold IsName; infer_instance
theorem pool_name : ∀ s ∈ pool, IsName s := by decide +kernel
theorem pool_nodup : pool.Nodup := by decide +kernel
theorem pool_len : pool.length = 65 := by decide +kernel
def Else (i : Nat) (R R' : Wd) : Prop := ∀ (j : Nat) (o : O), j ≠ i → R[j]? = some o → R'[j]? = some o
theorem Else.refl (i : Nat) (R : Wd) : Else i R R := fun _ _ _ h => h
theorem Else.trans {i : Nat} {A B C : Wd} (h : Else i A B) (k : Else i B C) : Else i A C := fun j o n e => k j o n (h j o n e)
theorem Else.ext {i : Nat} {A B : Wd} (h : Y.Ext A B) : Else i A B := fun j o _ e => h j o e
theorem Else.set {i : Nat} (R : Wd) (o : O) : Else i R (R.set i o) := fun j p n e => by rw [List.getElem?_set_ne (Ne.symm n)]; exact e
theorem StOK.ext {R R' : Wd} {i n : Nat} (h : StOK R i n) (e : Y.Ext R R') : StOK R' i n := by
  obtain ⟨a, b, c, e1, r⟩ := h
  exact ⟨a, b, c, e i _ e1, r⟩
theorem gPop_ok {R : Wd} {i k : Nat} {xs : List D} {d : D} {r : Int} (e : R[i]? = some (.lst xs)) (h0 : 0 ≤ r) (h1 : r < xs.length) (hk : r.toNat = k) (hd : xs[k]? = some d) (hb : xs.length < 10 ^ 9) : gPop R (.ref i) [.int r] = some (d, R.set i (.lst (xs.eraseIdx k))) := by
  have h2 : -(2 ^ 63 : Int) ≤ r ∧ r < 2 ^ 63 := by omega
  have h3 : seqIndex? r xs.length = some k := by rw [seqIndex_of h0 h1, hk]
  simp only [gPop, cellL_ref e, Option.bind_some, if_pos h2, h3, hd, Option.map_some]
def adS (p : Str) : D → D
  | .str s => .str (p ++ s)
  | d => d
def lsD : List D := letters.cps.toList.map fun c => D.str ⟨#[c]⟩
theorem comp_let (K : PySem.W.Frag) (p : Str) (hp : p.length = 1) (R : Wd) (ρ : Rho) (hρ : ρ.length = 6) : lcD (.nm 5) (fun _ => True) dYes (dBin gAddX (Y.dK (.str p)) (dVar 5)) (letters.cps.toList.map fun c => .str ⟨#[c]⟩) ρ R = some (lsD.map (adS p), R) := by
  refine lcD_map _ trivial fun x hx => ?_
  obtain ⟨c, hc, rfl⟩ := List.mem_map.mp hx
  refine ⟨ρ.set 5 (some (.str ⟨#[c]⟩)), rfl, ?_⟩
  have e1 : (ρ.set 5 (some (D.str ⟨#[c]⟩)))[5]? = some (some (.str ⟨#[c]⟩)) := List.getElem?_set_self (by omega)
  have e2 : gAddX R (.str p) (.str ⟨#[c]⟩) = some (.str (p ++ ⟨#[c]⟩)) := by
    have : p.length + (⟨#[c]⟩ : Str).length ≤ sizeLine := by rw [hp, show (⟨#[c]⟩ : Str).length = 1 from rfl, sizeLine_eq]; omega
    simp only [gAddX, gAdd, if_pos this]
  simp [dBin, dVar, Y.dK, Rs.bind, e1, e2, adS]
theorem comp_den (K : PySem.W.Frag) (p : Str) (hp : p.length = 1) (R : Wd) (ρ : Rho) (h3 : dVar 3 ρ R = .ok (.str letters) R) (hl : ρ.length = 6) (hw : wipeR ρ [5] = ρ) :
    dFz (dLock (dVar 3) (dLc (.nm 5) (dIts (dVar 3)) dYes (dBin gAddX (Y.dK (.str p)) (dVar 5)))) ρ R = .ok (.lst (lsD.map (adS p))) R := by
  have l26 : letters.cps.toList.length ≤ sizeLine := by rw [sizeLine_eq]; decide +kernel
  have l26' : letters.length ≤ sizeLine := l26
  have lc := comp_let K p hp R ρ hl
  have hi : itsOf R (.str letters) = some (letters.cps.toList.map (fun c => .str ⟨#[c]⟩), fun _ => True) := by
    unfold itsOf
    exact if_pos l26'
  have hd : dIts (dVar 3) ρ R = .ok (letters.cps.toList.map (fun c => .str ⟨#[c]⟩), fun _ => True) R := by
    unfold dIts
    rw [h3]
    simp only [Rs.bind, hi, List.length_map, if_pos l26]
  have hk : dLock (dVar 3) (dLc (.nm 5) (dIts (dVar 3)) dYes (dBin gAddX (Y.dK (.str p)) (dVar 5))) ρ R = dLc (.nm 5) (dIts (dVar 3)) dYes (dBin gAddX (Y.dK (.str p)) (dVar 5)) ρ R := by
    unfold dLock
    rw [h3]
  unfold dFz
  rw [hk]
  unfold dLc
  rw [hd]
  simp only [Rs.bind, Tg.vs, hw, lc, ofO]
theorem dBin_ok {g : Wd → D → D → Option D} {a b : DE} {ρ : Rho} {R R1 R2 : Wd} {x y z : D} (ha : a ρ R = .ok x R1) (hb : b ρ R1 = .ok y R2) (hg : g R2 x y = some z) : dBin g a b ρ R = .ok z R2 := by
  unfold dBin
  rw [ha]
  show (b ρ R1).bind _ = _
  rw [hb]
  show (match g R2 x y with
    | some z => Rs.ok z R2
    | none => .stuck) = _
  rw [hg]
theorem dBinL_ok {g : Wd → D → D → Option (List D)} {a b : DE} {ρ : Rho} {R R1 R2 : Wd} {x y : D} {z : List D} (ha : a ρ R = .ok x R1) (hb : b ρ R1 = .ok y R2) (hg : g R2 x y = some z) : dBinL g a b ρ R = .ok z R2 := by
  unfold dBinL
  rw [ha]
  show (b ρ R1).bind _ = _
  rw [hb]
  show (match g R2 x y with
    | some z => Rs.ok z R2
    | none => .stuck) = _
  rw [hg]
theorem pool_eq : base.map D.str ++ lsD.map (adS "n") ++ lsD.map (adS "k") = pool.map D.str := by
  simp only [pool, lsD, List.map_append, List.map_map]
  rfl
theorem sum_le {α : Type} {f : α → Nat} {k : Nat} : ∀ {l : List α}, (∀ x ∈ l, f x ≤ k) → (l.map f).sum ≤ k * l.length
  | [], _ => by simp
  | x :: l, h => by
    have h1 := h x List.mem_cons_self
    have h2 := sum_le (f := f) (l := l) fun y hy => h y (List.mem_cons_of_mem _ hy)
    simp only [List.map_cons, List.sum_cons, List.length_cons, Nat.mul_add]
    omega
theorem ends_app (a b : Str) : Txt.endswith (a ++ b) b = true := by
  have e : (a ++ b : Str).length = a.length + b.length := by rw [len_tl, TL.tl_append, List.length_append, ← len_tl, ← len_tl]
  have e2 : (a ++ b : Str).length - b.length = (tl a).length := by rw [e, ← len_tl]; omega
  unfold Txt.endswith
  rw [PySem.StrLaws.subAt_eq, e2]
  have h3 : (a ++ b : Str).cps.toList = tl a ++ tl b := TL.tl_append a b
  rw [h3, List.drop_left, e, len_tl b, List.take_length]
  simp [len_tl]
theorem cut_last (a b : Str) (hb : b.length = 1) : cutS (a ++ b) none (some (-1)) = a := by
  have e : (a ++ b : Str).length = a.length + 1 := by rw [len_tl, TL.tl_append, List.length_append, ← len_tl, ← len_tl, hb]
  have h3 : (a ++ b : Str).cps.toList = tl a ++ tl b := TL.tl_append a b
  have e2 : HT.sIx (a ++ b : Str).length (a ++ b : Str).length (some (-1)) = (tl a).length := by
    rw [e, ← len_tl]
    show (if (-1 : Int) < 0 then ((-1 : Int) + ((a.length + 1 : Nat) : Int)).toNat else min ((-1 : Int).toNat) (a.length + 1)) = _
    rw [if_pos (by decide)]; omega
  apply TL.ext_tl
  unfold cutS
  rw [h3, e2, HT.sIx_none]
  show List.take ((tl a).length - 0) (List.drop 0 (tl a ++ tl b)) = tl a
  rw [List.drop_zero, Nat.sub_zero, List.take_left]
def dkN (ns : List Str) (g : Str → D) : List (Key × D) := ns.map fun n => ((Sum.inr n : Key), g n)
theorem dkN_len (ns : List Str) (g : Str → D) : (dkN ns g).length = ns.length := by simp [dkN]
theorem gA_dkN {ns : List Str} {g : Str → D} {n : Str} (h : n ∈ ns) : gA (Sum.inr n : Key) (dkN ns g) = some (g n) := by
  induction ns with
  | nil => simp at h
  | cons x ns ih =>
    unfold dkN at ih ⊢
    simp only [List.map_cons, gA]
    by_cases c : x = n
    · subst c; simp
    · rw [if_neg (fun z => c (Sum.inr.inj z))]
      exact ih (List.mem_of_ne_of_mem (fun z => c z.symm) h)
theorem pA_new {ns : List Str} {g : Str → D} {n : Str} {v : D} (h : n ∉ ns) : pA (Sum.inr n : Key) v (dkN ns g) = dkN (ns ++ [n]) (fun x => if x = n then v else g x) := by
  induction ns with
  | nil => simp [dkN, pA]
  | cons x ns ih =>
    have c : x ≠ n := fun z => h (by simp [z])
    have ih := ih fun z => h (List.mem_cons_of_mem _ z)
    unfold dkN at ih ⊢
    simp only [List.map_cons, pA, List.cons_append, if_neg (fun z : (Sum.inr x : Key) = Sum.inr n => c (Sum.inr.inj z)), ih, if_neg c]
theorem dkN_congr {ns : List Str} {g g' : Str → D} (h : ∀ x ∈ ns, g x = g' x) : dkN ns g = dkN ns g' := List.map_congr_left fun x hx => by rw [h x hx]
theorem pA_old {ns : List Str} {g : Str → D} {n : Str} {v : D} (h : n ∈ ns) (nd : ns.Nodup) : pA (Sum.inr n : Key) v (dkN ns g) = dkN ns (fun x => if x = n then v else g x) := by
  induction ns with
  | nil => simp at h
  | cons x ns ih =>
    rw [List.nodup_cons] at nd
    by_cases c : x = n
    · subst c
      have e : dkN ns (fun y => if y = x then v else g y) = dkN ns g := dkN_congr fun y hy => by
        have : y ≠ x := fun z => nd.1 (z ▸ hy)
        rw [if_neg this]
      unfold dkN at e ⊢
      simp only [List.map_cons, pA, if_true, e]
    · have ih := ih (List.mem_of_ne_of_mem (fun z => c z.symm) h) nd.2
      unfold dkN at ih ⊢
      simp only [List.map_cons, pA, if_neg (fun z : (Sum.inr x : Key) = Sum.inr n => c (Sum.inr.inj z)), ih, if_neg c]
structure LG (R : Wd) (f : Nat) (ns : List Str) (c : Str → Nat) (m : Str → List Str) : Prop where
  dict : R[f]? = some (.dK (dkN ns fun n => .ref (c n)))
  cells : ∀ n ∈ ns, R[c n]? = some (.lst ((m n).map .str))
  nodup : ns.Nodup
  inj : ∀ n ∈ ns, ∀ n' ∈ ns, c n = c n' → n = n'
  names : ∀ n ∈ ns, IsName n ∧ ∀ s ∈ m n, IsName s
theorem st_ne {R : Wd} {i n j : Nat} {es : List Str} (h : StOK R i n) (e : R[j]? = some (.lst (es.map .str))) : j ≠ i := by
  rintro rfl
  obtain ⟨a, b, c, e1, _⟩ := h
  rw [e1] at e
  cases es with
  | nil => simp at e
  | cons x es => simp at e
theorem st_neK {R : Wd} {i n j : Nat} {kvs : List (Key × D)} (h : StOK R i n) (e : R[j]? = some (.dK kvs)) : j ≠ i := by
  rintro rfl
  obtain ⟨a, b, c, e1, _⟩ := h
  rw [e1] at e
  simp at e
theorem LG.else {R R' : Wd} {f i n : Nat} {ns : List Str} {c : Str → Nat} {m : Str → List Str} (g : LG R f ns c m) (h : StOK R i n) (e : Else i R R') : LG R' f ns c m :=
  ⟨e _ _ (st_neK h g.dict) g.dict, fun n hn => e _ _ (st_ne h (g.cells n hn)) (g.cells n hn), g.nodup, g.inj, g.names⟩
theorem LG.ext {R R' : Wd} {f : Nat} {ns : List Str} {c : Str → Nat} {m : Str → List Str} (g : LG R f ns c m) (e : Y.Ext R R') : LG R' f ns c m :=
  ⟨e _ _ g.dict, fun n hn => e _ _ (g.cells n hn), g.nodup, g.inj, g.names⟩
theorem LG.cne {R : Wd} {f : Nat} {ns : List Str} {c : Str → Nat} {m : Str → List Str} (g : LG R f ns c m) {n : Str} (hn : n ∈ ns) : c n ≠ f := fun e => by
  have h1 := g.cells n hn
  rw [e, g.dict] at h1
  simp at h1
/-- a new entry -/
theorem LG.add {R : Wd} {f : Nat} {ns : List Str} {c : Str → Nat} {m : Str → List Str} (g : LG R f ns c m) {n : Str} {k : Nat} {es : List Str} (hn : n ∉ ns) (hk : R[k]? = some (.lst (es.map .str))) (hf : ∀ x ∈ ns, c x ≠ k) (nm : IsName n) (em : ∀ s ∈ es, IsName s) :
    LG (R.set f (.dK (pA (Sum.inr n : Key) (.ref k) (dkN ns fun n => .ref (c n))))) f (ns ++ [n]) (fun x => if x = n then k else c x) (fun x => if x = n then es else m x) := by
  have kf : k ≠ f := fun e => by rw [e, g.dict] at hk; simp at hk
  refine ⟨?_, fun x hx => ?_, ?_, fun x hx y hy e => ?_, fun x hx => ?_⟩
  · rw [List.getElem?_set_self (ref_lt g.dict), pA_new hn]
    congr 2
    exact dkN_congr fun x hx => by by_cases c : x = n <;> simp [c]
  · by_cases q : x = n
    · simp only [if_pos q]; rw [List.getElem?_set_ne (Ne.symm kf)]; exact hk
    · have hx' : x ∈ ns := by rcases List.mem_append.mp hx with h | h; exact h; exact absurd (by simpa using h) q
      simp only [if_neg q]; rw [List.getElem?_set_ne (Ne.symm (g.cne hx'))]; exact g.cells x hx'
  · exact List.nodup_append.mpr ⟨g.nodup, by simp, fun x hx y hy e => hn (by simp at hy; rw [← hy, ← e]; exact hx)⟩
  · have mem : ∀ z, z ∈ ns ++ [n] → z ≠ n → z ∈ ns := fun z hz q => by rcases List.mem_append.mp hz with h | h; exact h; exact absurd (by simpa using h) q
    by_cases q : x = n <;> by_cases r : y = n
    · rw [q, r]
    · simp only [if_pos q, if_neg r] at e; exact absurd e.symm (hf y (mem y hy r))
    · simp only [if_pos r, if_neg q] at e; exact absurd e (hf x (mem x hx q))
    · simp only [if_neg r, if_neg q] at e; exact g.inj x (mem x hx q) y (mem y hy r) e
  · by_cases q : x = n
    · simp only [if_pos q]; exact ⟨q ▸ nm, em⟩
    · simp only [if_neg q]
      exact g.names x (by rcases List.mem_append.mp hx with h | h; exact h; exact absurd (by simpa using h) q)
/-- another list for an entry -/
theorem LG.swap {R : Wd} {f : Nat} {ns : List Str} {c : Str → Nat} {m : Str → List Str} (g : LG R f ns c m) {n : Str} {k : Nat} {es : List Str} (hn : n ∈ ns) (hk : R[k]? = some (.lst (es.map .str))) (hf : ∀ x ∈ ns, c x ≠ k) (em : ∀ s ∈ es, IsName s) :
    LG (R.set f (.dK (pA (Sum.inr n : Key) (.ref k) (dkN ns fun n => .ref (c n))))) f ns (fun x => if x = n then k else c x) (fun x => if x = n then es else m x) := by
  have kf : k ≠ f := fun e => by rw [e, g.dict] at hk; simp at hk
  refine ⟨?_, fun x hx => ?_, g.nodup, fun x hx y hy e => ?_, fun x hx => ?_⟩
  · rw [List.getElem?_set_self (ref_lt g.dict), pA_old hn g.nodup]
    congr 2
    exact dkN_congr fun x hx => by by_cases c : x = n <;> simp [c]
  · by_cases q : x = n
    · simp only [if_pos q]; rw [List.getElem?_set_ne (Ne.symm kf)]; exact hk
    · simp only [if_neg q]; rw [List.getElem?_set_ne (Ne.symm (g.cne hx))]; exact g.cells x hx
  · by_cases q : x = n <;> by_cases r : y = n
    · rw [q, r]
    · simp only [if_pos q, if_neg r] at e; exact absurd e.symm (hf y hy)
    · simp only [if_pos r, if_neg q] at e; exact absurd e (hf x hx)
    · simp only [if_neg r, if_neg q] at e; exact g.inj x hx y hy e
  · by_cases q : x = n
    · simp only [if_pos q]; exact ⟨(g.names x hx).1, em⟩
    · simp only [if_neg q]; exact g.names x hx
/-- an entry's list changes in place -/
theorem LG.write {R : Wd} {f : Nat} {ns : List Str} {c : Str → Nat} {m : Str → List Str} (g : LG R f ns c m) {n : Str} {es : List Str} (hn : n ∈ ns) (em : ∀ s ∈ es, IsName s) :
    LG (R.set (c n) (.lst (es.map .str))) f ns c (fun x => if x = n then es else m x) := by
  refine ⟨?_, fun x hx => ?_, g.nodup, g.inj, fun x hx => ?_⟩
  · rw [List.getElem?_set_ne (g.cne hn)]; exact g.dict
  · by_cases q : x = n
    · simp only [if_pos q, q]; exact List.getElem?_set_self (ref_lt (g.cells n hn))
    · simp only [if_neg q]; rw [List.getElem?_set_ne (fun e => q (g.inj _ hx _ hn e.symm))]; exact g.cells x hx
  · by_cases q : x = n
    · simp only [if_pos q]; exact ⟨(g.names x hx).1, em⟩
    · simp only [if_neg q]; exact g.names x hx
theorem gSet_dK {R : Wd} {i : Nat} {kvs : List (Key × D)} (e : R[i]? = some (.dK kvs)) (n : Str) (z : D) (h : kvs.length < sizeLine) : gSet R (.ref i) (.str n) z = some (R.set i (.dK (pA (Sum.inr n : Key) z kvs))) := by
  simp only [gSet, e, Y.keyOf, if_pos h]
theorem len_le {R R' : Wd} {i n' : Nat} (h : StOK R' i n') (e : Else i R R') : R.length ≤ R'.length := by
  apply Classical.byContradiction
  intro c
  by_cases q : R.length - 1 = i
  · obtain ⟨_, _, _, e1, _⟩ := h
    have := ref_lt e1
    omega
  · have h1 : R.length - 1 < R.length := by omega
    have := ref_lt (e (R.length - 1) _ q (List.getElem?_eq_getElem h1))
    omega
theorem StOK.mono {R : Wd} {i n n' : Nat} (h : StOK R i n) (e : n ≤ n') : StOK R i n' := by
  obtain ⟨a, b, c, e1, h1, h2, h3, h4⟩ := h
  exact ⟨a, b, c, e1, h1, h2, h3, by omega⟩
theorem StOK.set {R : Wd} {i n j : Nat} {o : O} (h : StOK R i n) (e : j ≠ i) : StOK (R.set j o) i n := by
  obtain ⟨a, b, c, e1, r⟩ := h
  exact ⟨a, b, c, by rw [List.getElem?_set_ne e]; exact e1, r⟩
section
variable {R : Wd} {i : Nat}
theorem set_back {a b : O} (h : R[i]? = some a) : (R.set i b).set i a = R := by
  apply List.ext_getElem?
  intro j
  rw [List.set_set]
  by_cases c : i = j
  · subst c; rw [List.getElem?_set_self (ref_lt h), h]
  · rw [List.getElem?_set_ne c]
theorem lstR_lkK {kvs : List (Key × D)} (e : R[i]? = some (.lkK kvs)) : lstR R (.ref i) = none := by simp [lstR, lstOf, e, oLst]
theorem frK_lkK {kvs : List (Key × D)} (e : R[i]? = some (.lkK kvs)) : frK R (.ref i) = some kvs := by simp [frK, e, oFr]
theorem itsOf_lkK {kvs : List (Key × D)} (e : R[i]? = some (.lkK kvs)) : itsOf R (.ref i) = some (kvs.map (fun p => dKy p.1), okAt R (.ref i)) := by
  simp [itsOf, lstR_lkK e, frK_lkK e]
theorem tyN_dK {kvs : List (Key × D)} (e : R[i]? = some (.dK kvs)) : tyN R (.ref i) = some "dict" := by
  simp [tyN, lstR_dK e, dkOf_ref e]
theorem gLen_dK {kvs : List (Key × D)} (e : R[i]? = some (.dK kvs)) : gLen R [.ref i] = some (.int (kvs.length : Int), R) := by
  simp [gLen, seqOf, lstR_dK e, dkOf_ref e]
theorem keyStrs_dkN (ns : List Str) (g : Str → D) : keyStrs ((dkN ns g).map (·.1)) = some ns := by
  induction ns with
  | nil => rfl
  | cons x ns ih =>
    unfold dkN at ih ⊢
    simp only [List.map_cons, keyStrs, ih, Option.map_some]
theorem gSorted_dK {ns : List Str} {g : Str → D} (e : R[i]? = some (.dK (dkN ns g))) (h : ns.length < 64) : gSorted R [.ref i] = some ((sortStr ns).map .str) := by
  simp only [gSorted, lstR_dK e, dkOf_ref e, keyStrs_dkN, if_pos h]
theorem blsOf_bls (bs : List Bool) : blsOf (bs.map D.bl) = some bs := by
  induction bs with
  | nil => rfl
  | cons b bs ih => simp [blsOf, ih]
theorem gAll_bls (bs : List Bool) : gAll R [.lst (bs.map .bl)] = some (.bl (bs.all id), R) := by
  simp only [gAll, lstR_lst, Option.bind_some, blsOf_bls, Option.map_some]
theorem gAll_trues {α : Type} (xs : List α) : gAll R [.lst (xs.map fun _ => .bl true)] = some (.bl true, R) := gAll_true fun x hx => by
  obtain ⟨y, _, rfl⟩ := List.mem_map.mp hx; rfl
theorem cutY_tail {α : Type} (xs : List α) : cutY xs (some 1) none = xs.tail := by
  unfold cutY
  rw [HT.sIx_none, show (1 : Int) = ((1 : Nat) : Int) from rfl, HT.sIx_nat]
  cases xs with
  | nil => rfl
  | cons x xs => simp
end
/-- a dict comprehension by an invariant -/
theorem w_dcI {t : Tg} {ok : Wd → Prop} {dk e : DE} {ρ : Rho} {R : Wd} {xs : List D} {Q : List (Key × D) → Wd → Prop} (I : Nat → List (Key × D) → Wd → Prop) (h0 : I 0 [] R) (ho : ∀ k acc R, I k acc R → ok R)
    (hs : ∀ k x acc R, xs[k]? = some x → I k acc R → ∃ ρ1, t.bind x ρ = some ρ1 ∧ wR (dk ρ1 R) (fun z R' => ∃ q, kD z = some q ∧ wR (e ρ1 R') (fun y R'' => I (k + 1) (pA q y acc) R'') nvr) nvr)
    (h : ∀ ys R, I xs.length ys R → Q ys R) : ∃ ys R2, dcD t ok dYes dk e xs [] ρ R = some (ys, R2) ∧ Q ys R2 := by
  have go : ∀ (l : List D) (k : Nat) (acc : List (Key × D)) (R : Wd), (∀ j x, l[j]? = some x → xs[k + j]? = some x) → k + l.length = xs.length → I k acc R → ∃ ys R', dcD t ok dYes dk e l acc ρ R = some (ys, R') ∧ I xs.length ys R' := by
    intro l
    induction l with
    | nil =>
      intro k acc R _ hl p
      have : k = xs.length := by simpa using hl
      subst this
      exact ⟨acc, R, by simp [dcD, ho _ acc R p], p⟩
    | cons x l ih =>
      intro k acc R hg hl p
      obtain ⟨ρ1, e1, h1⟩ := hs k x acc R (hg 0 x rfl) p
      obtain ⟨z, R1, e2, q, e3, h2⟩ := wR_ex h1
      obtain ⟨y, R2, e4, h3⟩ := wR_ex h2
      obtain ⟨ys, R3, e5, p2⟩ := ih (k + 1) _ R2 (fun j z hz => by rw [show k + 1 + j = k + (j + 1) by omega]; exact hg (j + 1) z hz) (by simp at hl; omega) h3
      exact ⟨ys, R3, by simp [dcD, ho _ acc R p, e1, dYes, e2, e3, e4, e5], p2⟩
  obtain ⟨ys, R', e1, p⟩ := go xs 0 [] R (fun j x h => by simpa using h) (by simp) h0
  exact ⟨ys, R', e1, h ys R' p⟩
def ltS (a b : Str) : Bool := decide (a.cps.toList < b.cps.toList)
def ascB (ss : List Str) : Bool := ((ss.zip ss.tail).map fun p => ltS p.1 p.2).all id
theorem ascB_true {ss : List Str} (h : ss.Pairwise fun a b => a.cps.toList < b.cps.toList) : ascB ss = true := by
  induction ss with
  | nil => rfl
  | cons x ss ih =>
    cases ss with
    | nil => rfl
    | cons y ss =>
      rw [List.pairwise_cons] at h
      have := ih h.2
      simp only [ascB, List.tail_cons, List.zip_cons_cons, List.map_cons, List.all_cons, Bool.and_eq_true] at this ⊢
      exact ⟨by simpa [ltS] using h.1 y List.mem_cons_self, this⟩
def ltD : D → D
  | .tup [.str a, .str b] => .bl (ltS a b)
  | d => d
theorem zip_map2 {α β : Type} (f : α → β) (xs ys : List α) : (xs.map f).zip (ys.map f) = (xs.zip ys).map fun p => (f p.1, f p.2) := by
  induction xs generalizing ys with
  | nil => simp
  | cons x xs ih => cases ys with
    | nil => simp
    | cons y ys => simp [ih]
theorem zip_same {α β γ : Type} (f : α → β) (g : α → γ) (xs : List α) : (xs.map f).zip (xs.map g) = xs.map fun x => (f x, g x) := by
  induction xs with
  | nil => rfl
  | cons x xs ih => simp [ih]
theorem gNe_int {R : Wd} (a b : Int) : gNe R (.int a) (.int b) = some (.bl (!decide (a = b))) := rfl
def logP (ns : List Str) (m : Str → List Str) : PyData := .dict (ns.map fun n => (.str n, .list ((m n).map .str)))
theorem app_len (a b : Str) : (a ++ b : Str).length = a.length + b.length := by rw [len_tl, TL.tl_append, List.length_append, ← len_tl, ← len_tl]
theorem textFrom_le : ∀ (ts : List Str) (k : Nat) (acc : Str), (textFrom k acc ts).length ≤ acc.length + (ts.map (·.length)).sum + 2 * ts.length
  | [], k, acc => by show acc.length ≤ _; simp
  | t :: r, k, acc => by
    have h := textFrom_le r (k + 1) (acc ++ (if k > 0 then ", " else "" : String) ++ t)
    have e : (textFrom k acc (t :: r)) = textFrom (k + 1) (acc ++ (if k > 0 then ", " else "" : String) ++ t) r := rfl
    have l : (Str.ofString (if k > 0 then ", " else "" : String)).length ≤ 2 := by
      by_cases c : k > 0
      · rw [if_pos c]; decide +kernel
      · rw [if_neg c]; decide +kernel
    rw [e]
    rw [app_len, app_len] at h
    simp only [List.map_cons, List.sum_cons, List.length_cons]
    omega
theorem repr_letters : ∀ c ∈ List.range' 97 26, (PySem.Builtin.Str.reprChar 34 c).length ≤ 10 ∧ (PySem.Builtin.Str.reprChar 39 c).length ≤ 10 := by decide +kernel
theorem reprName_len {s : Str} (h : IsName s) : (reprText s).length ≤ 82 := by
  rw [← reprLen_eq, ← Array.foldl_toList]
  have go : ∀ (q : Nat), q = 34 ∨ q = 39 → ∀ (l : List Nat) (k : Nat), (∀ c ∈ l, 97 ≤ c ∧ c ≤ 122) → l.foldl (fun n c => n + (PySem.Builtin.Str.reprChar q c).length) k ≤ k + 10 * l.length := by
    intro q hq l
    induction l with
    | nil => intro k _; simp
    | cons c l ih =>
      intro k hc
      have h1 := hc c List.mem_cons_self
      have h2 := repr_letters c (by rw [List.mem_range']; exact ⟨c - 97, by omega, by omega⟩)
      have h3 := ih (k + (PySem.Builtin.Str.reprChar q c).length) fun d hd => hc d (List.mem_cons_of_mem _ hd)
      have h4 : (PySem.Builtin.Str.reprChar q c).length ≤ 10 := by rcases hq with rfl | rfl; exact h2.1; exact h2.2
      simp only [List.foldl_cons, List.length_cons]
      omega
  have hq : reprQuote s = 34 ∨ reprQuote s = 39 := by unfold reprQuote; split; exact .inl rfl; exact .inr rfl
  have := go (reprQuote s) hq s.cps.toList 2 (name_chars h)
  have h8 := h.2.1
  have : s.cps.toList.length = s.length := rfl
  omega
theorem shownAll_map (ss : List Str) : PyData.shownAll (ss.map .str) = ss.map reprText := by
  induction ss with
  | nil => rfl
  | cons s ss ih => simp only [List.map_cons, PyData.shownAll, PyData.shown, ih]
theorem shownKv_map (ns : List Str) (m : Str → List Str) : PyData.shownKv (ns.map fun n => (.str n, .list ((m n).map .str))) = ns.map fun n => reprText n ++ ": " ++ listText ((m n).map reprText) := by
  induction ns with
  | nil => rfl
  | cons s ss ih => simp only [List.map_cons, PyData.shownKv, PyData.shown, ih, shownAll_map]
theorem logP_len {ns : List Str} {m : Str → List Str} (h : ns.length ≤ 40) (hn : ∀ n ∈ ns, IsName n ∧ (∀ s ∈ m n, IsName s) ∧ (m n).length ≤ 401) : (logP ns m).shown.length ≤ sizeLine := by
  have l1 : ∀ n ∈ ns, (reprText n ++ ": " ++ listText ((m n).map reprText)).length ≤ 34000 := fun n hh => by
    obtain ⟨a, b, c⟩ := hn n hh
    have h1 := reprName_len a
    have h2 := textFrom_le ((m n).map reprText) 0 "["
    have h3 := sum_le (f := fun s => (reprText s).length) (l := m n) (k := 82) fun s hs => reprName_len (b s hs)
    rw [List.map_map, List.length_map] at h2
    have e : (List.map ((fun x => x.length) ∘ reprText) (m n)) = (m n).map fun s => (reprText s).length := rfl
    rw [e] at h2
    unfold listText
    rw [app_len, app_len, app_len]
    have e1 : (Str.ofString ": ").length = 2 := rfl
    have e2 : (Str.ofString "[").length = 1 := rfl
    have e3 : (Str.ofString "]").length = 1 := rfl
    omega
  have e : (logP ns m).shown = dictText (ns.map fun n => reprText n ++ ": " ++ listText ((m n).map reprText)) := by
    unfold logP; rw [PyData.shown, shownKv_map]
  rw [e]
  unfold dictText
  rw [← join_eq]
  have h4 := join_len ", " (ns.map fun n => reprText n ++ ": " ++ listText ((m n).map reprText))
  have h5 := sum_le l1
  rw [List.map_map, List.length_map] at h4
  have e' : (List.map ((fun x => x.length) ∘ fun n => reprText n ++ ": " ++ listText ((m n).map reprText)) ns) = ns.map fun n => (reprText n ++ ": " ++ listText ((m n).map reprText)).length := rfl
  rw [e'] at h4
  rw [app_len, app_len]
  have e1 : (Str.ofString ", ").length = 2 := rfl
  have e2 : (Str.ofString "{").length = 1 := rfl
  have e3 : (Str.ofString "}").length = 1 := rfl
  rw [e1] at h4
  rw [sizeLine_eq]
  omega
theorem showableAll_strs (ss : List Str) : PyData.showableAll (ss.map .str) = true := by
  induction ss with
  | nil => rfl
  | cons s ss ih => simp only [List.map_cons, PyData.showableAll, PyData.showable, ih, Bool.and_self]
theorem logP_ok (ns : List Str) (m : Str → List Str) : (logP ns m).showable = true ∧ (logP ns m).depth ≤ 60 := by
  constructor
  · unfold logP
    rw [PyData.showable]
    induction ns with
    | nil => rfl
    | cons s ss ih => simp only [List.map_cons, PyData.showableKv, PyData.showable, showableAll_strs, ih, Bool.and_self]
  · unfold logP
    have ds : ∀ ss : List Str, PyData.depthAll (ss.map .str) ≤ 1 := fun ss => by
      induction ss with
      | nil => simp [PyData.depthAll]
      | cons s ss ih => simp [PyData.depthAll, PyData.depth] at ih ⊢; omega
    have : PyData.depthKv (ns.map fun n => (PyData.str n, PyData.list ((m n).map .str))) ≤ 4 := by
      induction ns with
      | nil => simp [PyData.depthKv]
      | cons s ss ih =>
        have := ds (m s)
        simp only [List.map_cons, PyData.depthKv, PyData.depth] at ih ⊢
        omega
    rw [PyData.depth]
    omega
theorem pyL_lists {R : Wd} {c : Str → Nat} {m : Str → List Str} (k : Nat) : ∀ {ns : List Str}, (∀ n ∈ ns, R[c n]? = some (.lst ((m n).map .str))) → pyL (py (k + 2) R) (ns.map fun n => .ref (c n)) = some (ns.map fun n => .list ((m n).map .str))
  | [], _ => rfl
  | n :: ns, h => by
    have h1 : py (k + 2) R (.ref (c n)) = some (.list ((m n).map .str)) := by
      rw [py_lst (k + 1) (lstR_ref (h n List.mem_cons_self)), pyL_strs k]; rfl
    rw [List.map_cons, pyL, h1, pyL_lists k fun x hx => h x (List.mem_cons_of_mem _ hx)]
    rfl
theorem py_dict {R : Wd} {x : D} {c : Str → Nat} {m : Str → List Str} {ns : List Str} (h1 : lstR R x = none) (h2 : dkOf R x = some (dkN ns fun n => .ref (c n))) (h : ∀ n ∈ ns, R[c n]? = some (.lst ((m n).map .str))) :
    py 40 R x = some (logP ns m) := by
  have e : py 40 R x = (pyL (py 39 R) ((dkN ns fun n => D.ref (c n)).map (·.2))).map fun vs => PyData.dict (((dkN ns fun n => D.ref (c n)).map fun p => pyK p.1).zip vs) := by
    cases x with
    | ref i =>
      show (match lstR R (.ref i) with
        | some xs => (pyL (py 39 R) xs).map PyData.list
        | none => _) = _
      rw [h1]
      show (match dkOf R (.ref i) with
        | some kvs => _
        | none => _) = _
      rw [h2]
    | dic kvs =>
      simp only [dkOf, Option.some.injEq] at h2
      subst h2
      rfl
    | _ => simp [dkOf] at h2
  have e1 : (dkN ns fun n => D.ref (c n)).map (·.2) = ns.map fun n => .ref (c n) := by simp [dkN, Function.comp_def]
  have e2 : ((dkN ns fun n => D.ref (c n)).map fun p => pyK p.1) = ns.map .str := by simp [dkN, pyK, Function.comp_def]
  rw [e, e1, e2, pyL_lists 37 h, Option.map_some, zip_same]
  rfl
theorem gRepr_py {R : Wd} {x : D} {p : PyData} (hx : (∃ i, x = .ref i) ∨ ∃ kvs, x = .dic kvs) (h : py 40 R x = some p) (h1 : p.showable = true) (h2 : p.depth ≤ 60) (h3 : p.shown.length ≤ sizeLine) : gRepr R [x] = some (.str p.shown, R) := by
  rcases hx with ⟨i, rfl⟩ | ⟨i, rfl⟩ <;> simp only [gRepr, h, if_pos (And.intro h1 (And.intro h2 h3))]
theorem ext_len {R R' : Wd} (e : Y.Ext R R') : R.length ≤ R'.length := by
  apply Classical.byContradiction
  intro c
  have := ref_lt (e (R.length - 1) _ (List.getElem?_eq_getElem (by omega)))
  omega
theorem mA_dkN (g : Str → D) : ∀ (rest done : List Str), (done ++ rest).Nodup → mA (dkN done g) (dkN rest g) = dkN (done ++ rest) g
  | [], done, _ => by simp [dkN, mA]
  | n :: rest, done, nd => by
    have hn : n ∉ done := fun h => (List.nodup_append.mp nd).2.2 n h n List.mem_cons_self rfl
    have e : dkN (n :: rest) g = (Sum.inr n, g n) :: dkN rest g := rfl
    rw [e, mA, pA_new hn]
    have e2 : dkN (done ++ [n]) (fun x => if x = n then g n else g x) = dkN (done ++ [n]) g := dkN_congr fun x _ => by by_cases c : x = n <;> simp [c]
    rw [e2, mA_dkN g rest (done ++ [n]) (by simpa using nd)]
    simp
theorem pairsOf_map (ns : List Str) (g : Str → D) : Y.pairsOf (ns.map fun n => D.tup [.str n, g n]) = some (dkN ns g) := by
  induction ns with
  | nil => rfl
  | cons n ns ih => rw [List.map_cons, Y.pairsOf, ih]; rfl
theorem gIx_dic {R : Wd} {xs : List (Key × D)} {k : D} {q : Key} (hk : Y.keyOf k = some q) : gIx R (.dic xs) k = (gA q xs).map (zv R) := by
  simp [gIx, ixY, ixD, dGetY, dkOf, hk]
def dueD (c : Str → Nat) : D → D
  | .str n => .tup [.str n, .ref (c n)]
  | d => d
theorem odd_name : IsName "odd" := by decide +kernel
theorem gMax_int {R : Wd} (i j : Int) : gMax R [.int i, .int j] = some (.int (if j > i then j else i), R) := rfl
theorem gMin_int {R : Wd} (i j : Int) : gMin R [.int i, .int j] = some (.int (if j < i then j else i), R) := rfl
theorem ixL_nat {α : Type} {xs : List α} {k : Nat} {x : α} (h : xs[k]? = some x) : ixL xs (k : Int) = some x := by
  unfold ixL
  rw [if_pos (by omega), Int.toNat_natCast, h]
theorem ixL_last {α : Type} {xs : List α} {x : α} (h : xs[xs.length - 1]? = some x) : ixL xs (-1) = some x := by
  have hl : xs.length - 1 < xs.length := (List.getElem?_eq_some_iff.mp h).1
  unfold ixL
  rw [if_neg (by omega), if_pos (by omega)]
  rw [show (-1 + (xs.length : Int)).toNat = xs.length - 1 by omega]
  exact h
theorem mm_name : IsName "mm" := by decide +kernel
end Y
end
end
section
set_option Elab.async false
set_option linter.all false
set_option maxRecDepth 100000
set_option maxHeartbeats 4000000
noncomputable section
namespace Y
open PySem PySem.Spec PyProof.Rows L2
open Classical
open TL (tl joinL len_tl join_eq tl_join)
/-! trees: plain reckoning -/
theorem nodup_sub_len {α : Type} [DecidableEq α] : ∀ {l k : List α}, l.Nodup → (∀ x ∈ l, x ∈ k) → l.length ≤ k.length
  | [], _, _, _ => Nat.zero_le _
  | x :: l, k, nd, h => by
    rw [List.nodup_cons] at nd
    have hx : x ∈ k := h x List.mem_cons_self
    have := nodup_sub_len (l := l) (k := k.erase x) nd.2 fun y hy => by
      have ne : y ≠ x := fun e => nd.1 (e ▸ hy)
      exact (List.mem_erase_of_ne ne).mpr (h y (List.mem_cons_of_mem _ hy))
    rw [List.length_erase_of_mem hx] at this
    have := List.length_pos_of_mem hx
    simp only [List.length_cons]; omega
theorem nodup_full {α : Type} [DecidableEq α] {l k : List α} (nd : l.Nodup) (h : ∀ x ∈ l, x ∈ k) (e : l.length = k.length) (nk : k.Nodup) : ∀ x ∈ k, x ∈ l := by
  intro x hx
  apply Classical.byContradiction
  intro c
  have := nodup_sub_len (l := x :: l) (k := k) (List.nodup_cons.mpr ⟨c, nd⟩) fun y hy => by
    rcases List.mem_cons.mp hy with rfl | hy
    · exact hx
    · exact h y hy
  simp at this; omega
abbrev ltL (a b : Str) : Prop := a.cps.toList < b.cps.toList
theorem ascB_iff {ss : List Str} : ascB ss = true ↔ ss.Pairwise ltL := by
  constructor
  · intro h
    have step : ∀ (ss : List Str), ascB ss = true → ss.Pairwise ltL := by
      intro ss
      induction ss with
      | nil => intro _; exact .nil
      | cons x ss ih =>
        intro h
        cases ss with
        | nil => simp
        | cons y ss =>
          simp only [ascB, List.tail_cons, List.zip_cons_cons, List.map_cons, List.all_cons, Bool.and_eq_true] at h ih
          have h1 : ltL x y := of_decide_eq_true h.1
          have h2 := ih h.2
          refine List.pairwise_cons.mpr ⟨fun z hz => ?_, h2⟩
          rcases List.mem_cons.mp hz with rfl | hz
          · exact h1
          · exact List.lt_trans h1 ((List.pairwise_cons.mp h2).1 z hz)
    exact step ss h
  · exact ascB_true
theorem gA_none {ns : List Str} {g : Str → D} {n : Str} (h : n ∉ ns) : gA (Sum.inr n : Key) (dkN ns g) = none := by
  induction ns with
  | nil => rfl
  | cons x ns ih =>
    unfold dkN at ih ⊢
    simp only [List.map_cons, gA]
    rw [if_neg (fun z => h (by rw [Sum.inr.inj z]; simp))]
    exact ih fun z => h (List.mem_cons_of_mem _ z)
section
variable {R : Wd} {x : D}
theorem dGetY_dkN {ns : List Str} {g : Str → D} (h : dkOf R x = some (dkN ns g)) (y : Str) : dGetY R x (.str y) = some (if y ∈ ns then some (g y) else none) := by
  simp only [dGetY, h, Y.keyOf, Option.map_some]
  by_cases c : y ∈ ns
  · rw [gA_dkN c, if_pos c]
  · rw [gA_none c, if_neg c]
theorem gIn_dkN {ns : List Str} {g : Str → D} (h : dkOf R x = some (dkN ns g)) (y : Str) : gIn R (.str y) x = some (.bl (decide (y ∈ ns))) := by
  have e := dGetY_dkN h y
  have ns' : ∀ z, x ≠ .str z := fun z e => by subst e; simp [dkOf] at h
  have : inY R (.str y) x = some (decide (y ∈ ns)) := by
    unfold inY
    split
    · rename_i z _; exact absurd rfl (ns' z)
    · rw [e]
      by_cases c : y ∈ ns <;> simp [c]
  simp only [gIn, this, Option.map_some]
theorem gNin_dkN {ns : List Str} {g : Str → D} (h : dkOf R x = some (dkN ns g)) (y : Str) : gNin R (.str y) x = some (.bl (!decide (y ∈ ns))) := by
  have e := gIn_dkN h y
  simp only [gIn] at e
  obtain ⟨b, e1, e2⟩ := Option.map_eq_some_iff.mp e
  cases e2
  simp only [gNin, e1, Option.map_some]
theorem gIx_dkN {ns : List Str} {g : Str → D} (h : dkOf R x = some (dkN ns g)) {y : Str} (hy : y ∈ ns) : gIx R x (.str y) = some (zv R (g y)) := by
  have e := dGetY_dkN h y
  rw [if_pos hy] at e
  have : ixY R x (.str y) = some (g y) := by
    unfold ixY
    split
    · rename_i e2; cases e2
    · simp only [ixD, e]
  simp only [gIx, this, Option.map_some]
theorem dkOf_lkK {i : Nat} {kvs : List (Key × D)} (e : R[i]? = some (.lkK kvs)) : dkOf R (.ref i) = some kvs := by simp [dkOf, e, oDk]
theorem any_strs (a : Str) (ss : List Str) : ((ss.map D.str).any fun y => eqF y (.str a)) = decide (a ∈ ss) := by
  induction ss with
  | nil => simp
  | cons s ss ih =>
    have e : (((s :: ss).map D.str).any fun y => eqF y (.str a)) = ((s == a) || ((ss.map D.str).any fun y => eqF y (.str a))) := rfl
    rw [e, ih]
    by_cases c : s = a
    · subst c; simp
    · have : (s == a) = false := by simpa using c
      rw [this]
      simp [Ne.symm c]
theorem gIn_strs {ss : List Str} (hx : lstR R x = some (ss.map .str)) (a : Str) : gIn R (.str a) x = some (.bl (decide (a ∈ ss))) := by
  have e1 : dGetY R x (.str a) = none := by
    cases x with
    | ref i => rcases cell_lst hx with e | ⟨d, e⟩
               · simp [dGetY, dkOf_lst e, dtOf_lst e]
               · simp only [lstR, lstOf, e, Option.bind_some] at hx
                 cases d <;> simp [oLst] at hx
                 simp [dGetY, dkOf, dtOf, e, oDk, oDt]
    | _ => first | (simp [lstR, lstOf] at hx; done) | simp [dGetY, dkOf, dtOf]
  have : inY R (.str a) x = some (decide (a ∈ ss)) := by
    unfold inY
    split
    · simp [lstR, lstOf] at hx
    · rw [e1, seqOf_lst hx]
      have f : flat (.str a) = true ∧ (ss.map D.str).all flat = true := ⟨rfl, by simp [flat]⟩
      simp only [inS, if_pos f, any_strs]
  simp only [gIn, this, Option.map_some]
theorem gSl_lst {xs : List D} (hx : lstR R x = some xs) (lo hi : Option Int) : gSl R x lo hi = some (.lst (cutY xs lo hi)) := by
  cases x <;> first | (simp [lstR, lstOf] at hx; done) | simp [gSl, hx]
theorem intsOf_map (ns : List Int) : intsOf (ns.map .int) = some ns := by
  induction ns with
  | nil => rfl
  | cons n ns ih => simp [intsOf, ih]
theorem gSum_ints (ns : List Int) : gSum R [.lst (ns.map .int)] = some (.int ns.sum, R) := by
  simp only [gSum, lstR_lst, Option.bind_some, intsOf_map, Option.map_some]
end
theorem sum_cast (ns : List Nat) : (ns.map fun (n : Nat) => (n : Int)).sum = ((ns.sum : Nat) : Int) := by
  induction ns with
  | nil => rfl
  | cons n ns ih => simp only [List.map_cons, List.sum_cons, ih]; push_cast; rfl
/-- the least of a dict's names -/
def leastS (ns : List Str) : Str := ((sortStr ns)[0]?).getD ""
theorem least_mem {ns : List Str} (h : ns ≠ []) : (sortStr ns)[0]? = some (leastS ns) ∧ leastS ns ∈ ns := by
  have pm := sortStr_perm ns
  have : 0 < (sortStr ns).length := by rw [pm.length_eq]; exact List.length_pos_iff.mpr h
  have e : (sortStr ns)[0]? = some (leastS ns) := by unfold leastS; rw [List.getElem?_eq_getElem this]; rfl
  exact ⟨e, pm.mem_iff.mp (List.mem_of_getElem? e)⟩
theorem gMin_dkN {R : Wd} {i : Nat} {ns : List Str} {g : Str → D} (e : R[i]? = some (.dK (dkN ns g))) (h : ns ≠ []) : gMinX R [.ref i] = some (.str (leastS ns), R) := by
  have e1 : gMin R [.ref i] = none := by simp [gMin, lstR_dK e]
  simp only [gMinX, e1, dkCell, e, Option.bind_some, keyStrs_dkN, (least_mem h).1, Option.map_some]
/-- what is_tree asks of names and their neighbours -/
structure TreeP (ns : List Str) (m : Str → List Str) : Prop where
  len1 : 1 ≤ ns.length
  len40 : ns.length ≤ 40
  nb : ∀ n ∈ ns, (m n).Pairwise ltL ∧ ∀ y ∈ m n, y ∈ ns ∧ y ≠ n
  sym : ∀ n ∈ ns, ∀ y ∈ m n, n ∈ m y
  deg : (ns.map fun n => (m n).length).sum = 2 * (ns.length - 1)
  conn : ∀ S : Str → Prop, S (leastS ns) → (∀ x ∈ ns, S x → ∀ y ∈ m x, S y) → ∀ x ∈ ns, S x
def treeB (ns : List Str) (m : Str → List Str) : Bool := decide (TreeP ns m)
theorem treeB_true {ns : List Str} {m : Str → List Str} (h : TreeP ns m) : treeB ns m = true := decide_eq_true h
theorem treeB_false {ns : List Str} {m : Str → List Str} (h : ¬ TreeP ns m) : treeB ns m = false := decide_eq_false h
theorem treeB_iff {ns : List Str} {m : Str → List Str} : treeB ns m = true ↔ TreeP ns m := decide_eq_true_iff
end Y
end
end
section
set_option Elab.async false
set_option linter.all false
set_option maxRecDepth 100000
set_option maxHeartbeats 4000000
noncomputable section
namespace Y
open PySem PySem.Spec PyProof.Rows L2
open Classical
open TL (tl joinL len_tl join_eq tl_join)
/-! edges: plain reckoning -/
theorem sorted_unique {α : Type} {lt : α → α → Prop} (irr : ∀ a, ¬ lt a a) (asy : ∀ a b, lt a b → ¬ lt b a) : ∀ {l k : List α}, l.Pairwise lt → k.Pairwise lt → (∀ x, x ∈ l ↔ x ∈ k) → l = k
  | [], [], _, _, _ => rfl
  | [], b :: k, _, _, h => absurd ((h b).mpr List.mem_cons_self) (by simp)
  | a :: l, [], _, _, h => absurd ((h a).mp List.mem_cons_self) (by simp)
  | a :: l, b :: k, hl, hk, h => by
    rw [List.pairwise_cons] at hl hk
    have e : a = b := by
      rcases List.mem_cons.mp ((h a).mp List.mem_cons_self) with e | ha
      · exact e
      · rcases List.mem_cons.mp ((h b).mpr List.mem_cons_self) with e | hb
        · exact e.symm
        · exact absurd (hk.1 a ha) (asy _ _ (hl.1 b hb))
    subst e
    have := sorted_unique irr asy hl.2 hk.2 fun x => ⟨fun hx => by
      rcases List.mem_cons.mp ((h x).mp (List.mem_cons_of_mem _ hx)) with e | hx'
      · subst e; exact absurd (hl.1 x hx) (irr x)
      · exact hx', fun hx => by
      rcases List.mem_cons.mp ((h x).mpr (List.mem_cons_of_mem _ hx)) with e | hx'
      · subst e; exact absurd (hk.1 x hx) (irr x)
      · exact hx'⟩
    rw [this]
theorem ltL_irr (a : Str) : ¬ ltL a a := List.lt_irrefl _
theorem ltL_asy (a b : Str) (h : ltL a b) : ¬ ltL b a := fun h' => List.lt_irrefl _ (List.lt_trans h h')
theorem ltL_tri (a b : Str) : ltL a b ∨ a = b ∨ ltL b a := by
  by_cases h : ltL a b
  · exact .inl h
  · by_cases h' : ltL b a
    · exact .inr (.inr h')
    · exact .inr (.inl (Str.ext' (Array.toList_inj.mp (List.le_antisymm (List.not_lt.mp h') (List.not_lt.mp h)))))
theorem sortStr_of {xs ys : List Str} (h : ys.Pairwise ltL) (nd : xs.Nodup) (hm : ∀ x, x ∈ xs ↔ x ∈ ys) : sortStr xs = ys :=
  sorted_unique ltL_irr ltL_asy (sortStr_lt nd) h fun x => (sortStr_perm xs).mem_iff.trans (hm x)
theorem pw_nodup {ys : List Str} (h : ys.Pairwise ltL) : ys.Nodup := h.imp fun {a b} h e => by subst e; exact ltL_irr _ h
theorem sortStr_self {xs : List Str} (h : xs.Pairwise ltL) : sortStr xs = xs := sortStr_of h (pw_nodup h) fun _ => Iff.rfl
theorem sortStr_eq {xs ys : List Str} (h1 : xs.Nodup) (h2 : ys.Nodup) (hm : ∀ x, x ∈ xs ↔ x ∈ ys) : sortStr xs = sortStr ys :=
  sortStr_of (sortStr_lt h2) h1 fun x => (hm x).trans (sortStr_perm ys).mem_iff.symm
/-! pairs -/
abbrev SP := Str × Str
def ltP (p q : SP) : Prop := ltL p.1 q.1 ∨ (p.1 = q.1 ∧ ltL p.2 q.2)
theorem ltP_irr (a : SP) : ¬ ltP a a := by
  rintro (h | ⟨_, h⟩)
  · exact ltL_irr _ h
  · exact ltL_irr _ h
theorem ltP_asy (a b : SP) (h : ltP a b) : ¬ ltP b a := by
  rintro (h' | ⟨e', h'⟩) <;> rcases h with h | ⟨e, h⟩
  · exact ltL_asy _ _ h h'
  · rw [e] at h'; exact ltL_irr _ h'
  · rw [e'] at h; exact ltL_irr _ h
  · exact ltL_asy _ _ h h'
theorem ltP_tri (a b : SP) : ltP a b ∨ a = b ∨ ltP b a := by
  rcases ltL_tri a.1 b.1 with h | h | h
  · exact .inl (.inl h)
  · rcases ltL_tri a.2 b.2 with h2 | h2 | h2
    · exact .inl (.inr ⟨h, h2⟩)
    · exact .inr (.inl (Prod.ext h h2))
    · exact .inr (.inr (.inr ⟨h.symm, h2⟩))
  · exact .inr (.inr (.inl h))
theorem ltP_trans {a b c : SP} (h : ltP a b) (k : ltP b c) : ltP a c := by
  rcases h with h | ⟨e, h⟩ <;> rcases k with k | ⟨e', k⟩
  · exact .inl (List.lt_trans h k)
  · exact .inl (e' ▸ h)
  · exact .inl (e ▸ k)
  · exact .inr ⟨e.trans e', List.lt_trans h k⟩
def twoD (p : SP) : D := .tup [.str p.1, .str p.2]
def twoP (p : SP) : PyData := .tuple [.str p.1, .str p.2]
theorem dataLt_ss (p q : SP) : PySem.W.dataLt (twoP p) (twoP q) = decide (ltP p q) := by
  unfold twoP
  rw [PySem.W.dataLt_pair (by simp [PySem.W.alike]) (by simp [PySem.W.alike]), PySem.W.dataLt_str, PySem.W.dataLt_str]
  simp only [PyData.eqv, beq_iff_eq]
  by_cases h1 : p.1 = q.1
  · rw [if_pos h1]
    by_cases h2 : p.2 = q.2
    · rw [if_pos h2, decide_eq_false]
      rintro (h | ⟨_, h⟩)
      · rw [h1] at h; exact ltL_irr _ h
      · rw [h2] at h; exact ltL_irr _ h
    · rw [if_neg h2]
      by_cases h3 : ltL p.2 q.2
      · rw [decide_eq_true h3, decide_eq_true (.inr ⟨h1, h3⟩)]
      · rw [decide_eq_false h3, decide_eq_false]
        rintro (h | ⟨_, h⟩)
        · rw [h1] at h; exact ltL_irr _ h
        · exact h3 h
  · rw [if_neg h1]
    by_cases h3 : ltL p.1 q.1
    · rw [decide_eq_true h3, decide_eq_true (.inl h3)]
    · rw [decide_eq_false h3, decide_eq_false]
      rintro (h | ⟨h, _⟩)
      · exact h3 h
      · exact h1 h
section
variable {R : Wd}
theorem py_pair (n : Nat) (p : SP) : py (n + 2) R (twoD p) = some (twoP p) := rfl
theorem pyL_pairs (n : Nat) : ∀ L : List SP, pyL (py (n + 2) R) (L.map twoD) = some (L.map twoP)
  | [] => rfl
  | p :: L => by rw [List.map_cons, pyL, py_pair, pyL_pairs n L]; rfl
theorem pair_depth (p : SP) : (twoP p).depth = 1 := by
  unfold twoP; simp [PyData.depth, PyData.depthAll]
/-- sorted(pairs) -/
theorem gSorted_pairs (L : List SP) (hl : L.length ≤ sizeLine) : ∃ L1 : List SP, gSorted R [.lst (L.map twoD)] = some (L1.map twoD) ∧ L1.Perm L ∧ L1.Pairwise fun p q => ¬ ltP q p := by
  cases L with
  | nil => exact ⟨[], by simp [gSorted, strsOf, sortStr], .refl _, .nil⟩
  | cons p L =>
    have e1 : strsOf ((p :: L).map twoD) = none := rfl
    generalize hM : p :: L = M at *
    have hal : PySem.W.AllAlike (M.map twoP) := by
      intro d hd d' hd'
      obtain ⟨q, _, rfl⟩ := List.mem_map.mp hd
      obtain ⟨q', _, rfl⟩ := List.mem_map.mp hd'
      simp [twoP, PySem.W.alike, PySem.W.alikeAll]
    have hso : PySem.W.Sortable (M.map twoP) := .inl fun d hd => by
      obtain ⟨q, _, rfl⟩ := List.mem_map.mp hd
      exact ⟨_, _, rfl⟩
    have c : PySem.W.AllAlike (M.map twoP) ∧ PySem.W.Sortable (M.map twoP) ∧ (M.map twoD).length ≤ sizeLine ∧ ∀ p ∈ M.map twoP, p.depth ≤ 60 := ⟨hal, hso, by rw [List.length_map]; exact hl, fun d hd => by
      obtain ⟨q, _, rfl⟩ := List.mem_map.mp hd
      rw [pair_depth]; omega⟩
    have ez : (M.map twoD).zip (M.map twoP) = M.map fun p => (twoD p, twoP p) := zip_same _ _ _
    have e2 : gSorted R [.lst (M.map twoD)] = some ((((M.map fun p => (twoD p, twoP p))).mergeSort (PySem.W.dataLe false (·.2))).map (·.1)) := by
      simp only [gSorted, lstR_lst, e1, sortD, pyL_pairs 38, if_pos c, ez]
    have em : (M.mergeSort fun p q => !decide (ltP q p)).map (fun p => (twoD p, twoP p)) = (M.map fun p => (twoD p, twoP p)).mergeSort (PySem.W.dataLe false (·.2)) :=
      List.map_mergeSort fun a _ b _ => by
        show _ = (!PySem.W.dataLt (twoP b) (twoP a))
        rw [dataLt_ss]
    refine ⟨M.mergeSort fun p q => !decide (ltP q p), ?_, List.mergeSort_perm _ _, ?_⟩
    · rw [e2, ← em, List.map_map]; rfl
    · have pw := List.pairwise_mergeSort (le := fun p q : SP => !decide (ltP q p)) (fun a b c h1 h2 => by
        simp only [Bool.not_eq_true', decide_eq_false_iff_not] at *
        intro h
        rcases ltP_tri a b with x | x | x
        · exact h2 (ltP_trans h x)
        · subst x; exact h2 h
        · exact h1 x) (fun a b => by
        simp only [Bool.or_eq_true, Bool.not_eq_true', decide_eq_false_iff_not]
        by_cases h : ltP b a
        · exact .inr (ltP_asy _ _ h)
        · exact .inl h) M
      exact pw.imp fun {a b} h => by simpa using h
theorem gSorted_pairs_of {L E : List SP} (hl : L.length ≤ sizeLine) (nd : L.Nodup) (hE : E.Pairwise ltP) (hm : ∀ x, x ∈ L ↔ x ∈ E) : gSorted R [.lst (L.map twoD)] = some (E.map twoD) := by
  obtain ⟨L1, e, pm, pw⟩ := gSorted_pairs (R := R) L hl
  have nd1 : L1.Nodup := pm.nodup_iff.mpr nd
  have st : L1.Pairwise ltP := (pw.and nd1).imp fun {a b} ⟨h1, h2⟩ => by
    rcases ltP_tri a b with x | x | x
    · exact x
    · exact absurd x h2
    · exact absurd x h1
  rw [e, sorted_unique ltP_irr ltP_asy st hE fun x => pm.mem_iff.trans (hm x)]
end
/-! the edges of a tree -/
def edgesOf (ns : List Str) (m : Str → List Str) : List SP := ns.flatMap fun n => ((m n).filter (ltS n ·)).map fun y => (n, y)
def edgesL (ns : List Str) (m : Str → List Str) : List SP := edgesOf (sortStr ns) m
theorem mem_edges {ns : List Str} {m : Str → List Str} {p : SP} : p ∈ edgesOf ns m ↔ p.1 ∈ ns ∧ p.2 ∈ m p.1 ∧ ltL p.1 p.2 := by
  unfold edgesOf
  rw [List.mem_flatMap]
  constructor
  · rintro ⟨n, hn, h⟩
    obtain ⟨y, hy, rfl⟩ := List.mem_map.mp h
    obtain ⟨h1, h2⟩ := List.mem_filter.mp hy
    exact ⟨hn, h1, of_decide_eq_true h2⟩
  · rintro ⟨h1, h2, h3⟩
    exact ⟨p.1, h1, List.mem_map.mpr ⟨p.2, List.mem_filter.mpr ⟨h2, decide_eq_true h3⟩, rfl⟩⟩
theorem edges_sorted {ns : List Str} {m : Str → List Str} (h : ns.Pairwise ltL) (hm : ∀ n ∈ ns, (m n).Pairwise ltL) : (edgesOf ns m).Pairwise ltP := by
  induction ns with
  | nil => exact .nil
  | cons n ns ih =>
    rw [List.pairwise_cons] at h
    unfold edgesOf at ih ⊢
    rw [List.flatMap_cons, List.pairwise_append]
    refine ⟨?_, ih h.2 fun x hx => hm x (List.mem_cons_of_mem _ hx), fun p hp q hq => ?_⟩
    · rw [List.pairwise_map]
      exact ((hm n List.mem_cons_self).filter _).imp fun {a b} h => .inr ⟨rfl, h⟩
    · obtain ⟨y, hy, rfl⟩ := List.mem_map.mp hp
      have := (mem_edges (ns := ns) (m := m) (p := q)).mp hq
      exact .inl (h.1 _ this.1)
theorem edges_nodup {ns : List Str} {m : Str → List Str} (h : ns.Nodup) (hm : ∀ n ∈ ns, (m n).Pairwise ltL) : (edgesOf ns m).Nodup := by
  induction ns with
  | nil => exact .nil
  | cons n ns ih =>
    rw [List.nodup_cons] at h
    unfold edgesOf at ih ⊢
    rw [List.flatMap_cons, List.nodup_append]
    refine ⟨?_, ih h.2 fun x hx => hm x (List.mem_cons_of_mem _ hx), fun p hp q hq e => ?_⟩
    · unfold List.Nodup
      rw [List.pairwise_map]
      exact ((hm n List.mem_cons_self).filter _).imp fun {a b} h e => by
        have : a = b := (Prod.mk.inj e).2
        subst this; exact ltL_irr _ h
    · obtain ⟨y, hy, rfl⟩ := List.mem_map.mp hp
      have := (mem_edges (ns := ns) (m := m) (p := q)).mp hq
      rw [← e] at this
      exact h.1 this.1
theorem edges_mem {ns : List Str} {m : Str → List Str} (p : SP) : p ∈ edgesOf ns m ↔ p ∈ edgesL ns m := by
  unfold edgesL
  rw [mem_edges, mem_edges, (sortStr_perm ns).mem_iff]
/-! an edge as a word -/
def eT (p : SP) : Str := p.1 ++ "-" ++ p.2
theorem eT_tl (p : SP) : tl (eT p) = tl p.1 ++ 45 :: tl p.2 := by
  unfold eT
  rw [TL.tl_append, TL.tl_append]
  show tl p.1 ++ [45] ++ tl p.2 = _
  rw [List.append_assoc]; rfl
theorem lex_sep : ∀ {a b s t : List Nat}, a < b → (∀ c ∈ b, 45 < c) → a ++ 45 :: s < b ++ 45 :: t
  | [], [], _, _, h, _ => absurd h (List.lt_irrefl _)
  | [], y :: b, s, t, _, hb => by
    show 45 :: s < y :: (b ++ 45 :: t)
    exact List.Lex.rel (hb y List.mem_cons_self)
  | x :: a, [], _, _, h, _ => by cases h
  | x :: a, y :: b, s, t, h, hb => by
    cases h with
    | rel h => exact List.Lex.rel h
    | cons h => exact List.Lex.cons (lex_sep h fun c hc => hb c (List.mem_cons_of_mem _ hc))
theorem lex_pre' : ∀ {a s t : List Nat}, s < t → a ++ s < a ++ t
  | [], _, _, h => h
  | _ :: _, _, _, h => List.Lex.cons (lex_pre' h)
theorem eT_lt {p q : SP} (hq : IsName q.1) (h : ltP p q) : ltL (eT p) (eT q) := by
  show tl (eT p) < tl (eT q)
  rw [eT_tl, eT_tl]
  rcases h with h | ⟨e, h⟩
  · exact lex_sep h fun c hc => by have := (name_chars hq c hc).1; omega
  · rw [e]
    exact lex_pre' (List.Lex.cons h)
def treeT (ns : List Str) (m : Str → List Str) : Str := if edgesL ns m = [] then leastS ns else Txt.join " " ((edgesL ns m).map eT)
end Y
end
end
section
set_option Elab.async false
set_option linter.all false
set_option maxRecDepth 100000
set_option maxHeartbeats 4000000
noncomputable section
namespace Y
open PySem PySem.Spec PyProof.Rows L2
open Classical
open TL (tl joinL len_tl join_eq tl_join spl)
/-! a tree's text read back: plain reckoning -/
theorem spl_length (S : List Nat) : ∀ (l : List Nat) (k : Nat) (acc : List Nat), (spl S k acc l).length ≤ l.length + 1
  | [], k, acc => by rw [TL.spl_nil]; simp
  | c :: r, 0, acc => by
    by_cases h : TL.pre S (c :: r) = true
    · rw [TL.spl_hit h]
      have := spl_length S r (S.length - 1) []
      simp only [List.length_cons]; omega
    · rw [TL.spl_miss (by simpa using h)]
      have := spl_length S r 0 (acc ++ [c])
      simp only [List.length_cons]; omega
  | c :: r, k + 1, acc => by
    have := spl_length S r k acc
    show (spl S k acc r).length ≤ _
    simp only [List.length_cons]; omega
theorem spl_part_len (S : List Nat) : ∀ (l : List Nat) (k : Nat) (acc : List Nat), ∀ p ∈ spl S k acc l, p.length ≤ acc.length + l.length
  | [], k, acc => by rw [TL.spl_nil]; intro p hp; simp at hp; subst hp; simp
  | c :: r, 0, acc => by
    intro p hp
    by_cases h : TL.pre S (c :: r) = true
    · rw [TL.spl_hit h] at hp
      rcases List.mem_cons.mp hp with rfl | hp
      · simp
      · have := spl_part_len S r (S.length - 1) [] p hp
        simp only [List.length_cons, List.length_nil] at this ⊢; omega
    · rw [TL.spl_miss (by simpa using h)] at hp
      have := spl_part_len S r 0 (acc ++ [c]) p hp
      simp only [List.length_append, List.length_cons, List.length_nil] at this ⊢; omega
  | c :: r, k + 1, acc => by
    intro p hp
    have := spl_part_len S r k acc p hp
    simp only [List.length_cons]; omega
theorem split_len {t y : Str} (hy : tl y ≠ []) (hk : y.cps.all (· < 256) = true) : (Txt.split t y).length ≤ t.length + 1 ∧ ∀ w ∈ Txt.split t y, w.length ≤ t.length := by
  have e := TL.split_spl t y hy (TL.kind_ok hk)
  constructor
  · have := spl_length (tl y) (tl t) 0 []
    rw [← e, List.length_map] at this
    rw [len_tl t]; exact this
  · intro w hw
    have := spl_part_len (tl y) (tl t) 0 [] (tl w) (by rw [← e]; exact List.mem_map.mpr ⟨w, hw, rfl⟩)
    rw [len_tl w, len_tl t]; simpa using this
def edgeIn (w : Str) : Option SP := if (Txt.partition w "-").2.1 = "-" ∧ IsName (Txt.partition w "-").1 ∧ IsName (Txt.partition w "-").2.2 ∧ ltL (Txt.partition w "-").1 (Txt.partition w "-").2.2 then some ((Txt.partition w "-").1, (Txt.partition w "-").2.2) else none
def optD : Option SP → D
  | some p => twoD p
  | none => .non
def optP : Option SP → PyData
  | some p => twoP p
  | none => .none
def ltPB (p q : SP) : Bool := decide (ltP p q)
theorem ltPB_iff {p q : SP} : ltPB p q = true ↔ ltP p q := decide_eq_true_iff
def ascPB (E : List SP) : Bool := ((E.zip E.tail).map fun p => ltPB p.1 p.2).all id
theorem ascPB_iff {E : List SP} : ascPB E = true ↔ E.Pairwise ltP := by
  induction E with
  | nil => simp [ascPB]
  | cons x E ih =>
    cases E with
    | nil => simp [ascPB]
    | cons y E =>
      have e : ascPB (x :: y :: E) = (ltPB x y && ascPB (y :: E)) := rfl
      rw [e, Bool.and_eq_true, ltPB_iff, ih, List.pairwise_cons (l := y :: E)]
      constructor
      · rintro ⟨h1, h2⟩
        refine ⟨fun z hz => ?_, h2⟩
        rcases List.mem_cons.mp hz with rfl | hz
        · exact h1
        · exact ltP_trans h1 ((List.pairwise_cons.mp h2).1 z hz)
      · rintro ⟨h1, h2⟩
        exact ⟨h1 y List.mem_cons_self, h2⟩
section
variable {R : Wd}
theorem gLtX_pair (p q : SP) : gLtX R (twoD p) (twoD q) = some (.bl (ltPB p q)) := by
  have e : gLt R (twoD p) (twoD q) = none := rfl
  have c : PySem.W.alike (twoP p) (twoP q) = true ∧ twoP p ≠ .none ∧ min (twoP p).depth (twoP q).depth ≤ 60 := ⟨by simp [twoP, PySem.W.alike, PySem.W.alikeAll], by simp [twoP], by rw [pair_depth, pair_depth]; omega⟩
  have e1 : py 40 R (twoD p) = some (twoP p) := py_pair 38 p
  have e2 : py 40 R (twoD q) = some (twoP q) := py_pair 38 q
  simp only [gLtX, e, e1, e2, if_pos c, dataLt_ss]
  rfl
theorem pyL_opts : ∀ L : List (Option SP), pyL (py 40 R) (L.map optD) = some (L.map optP)
  | [] => rfl
  | none :: L => by
    have e : py 40 R (optD none) = some .none := rfl
    rw [List.map_cons, pyL, e, pyL_opts L]; rfl
  | some p :: L => by
    have e : py 40 R (optD (some p)) = some (twoP p) := py_pair 38 p
    rw [List.map_cons, pyL, e, pyL_opts L]; rfl
theorem shaped_opts {L : List (Option SP)} (h : ∀ p, some p ∈ L → IsName p.1 ∧ IsName p.2) : SeqAt.shaped (.list (L.map optP)) = true := by
  have a : PyData.canLayAll0 (L.map optP) = true := by
    induction L with
    | nil => rfl
    | cons o L ih =>
      have ih := ih fun p hp => h p (List.mem_cons_of_mem _ hp)
      cases o with
      | none => simp [PyData.canLayAll0, PyData.canLay0, optP, ih]
      | some p =>
        obtain ⟨h1, h2⟩ := h p List.mem_cons_self
        simp [PyData.canLayAll0, PyData.canLay0, optP, twoP, ih, name_ok h1, name_ok h2]
  have b : PyData.depthAll (L.map optP) ≤ 1 := by
    clear h a
    induction L with
    | nil => simp [PyData.depthAll]
    | cons o L ih =>
      cases o with
      | none => simp [PyData.depthAll, PyData.depth, optP] at ih ⊢; omega
      | some p => simp [PyData.depthAll, PyData.depth, optP, twoP] at ih ⊢; omega
  have c : (PyData.list (L.map optP)).depth ≤ 2 := by rw [PyData.depth]; omega
  simp only [SeqAt.shaped, PyData.canLay0, a, Bool.true_and, decide_eq_true_eq]
  omega
theorem gIn_none {L : List (Option SP)} (h : ∀ p, some p ∈ L → IsName p.1 ∧ IsName p.2) : gIn R .non (.lst (L.map optD)) = some (.bl (L.any fun o => o.isNone)) := by
  have e1 : dGetY R (.lst (L.map optD)) .non = none := rfl
  have : inS R .non (L.map optD) = some (L.any fun o => o.isNone) := by
    unfold inS
    split
    · rename_i c
      congr 1
      rw [List.any_map]
      have : ∀ o ∈ L, o = none := fun o ho => by
        have := List.all_eq_true.mp c.2 (optD o) (List.mem_map.mpr ⟨o, ho, rfl⟩)
        cases o with
        | none => rfl
        | some p => simp [optD, twoD, flat] at this
      clear h c e1
      induction L with
      | nil => rfl
      | cons o L ih =>
        rw [this o List.mem_cons_self]
        simp [List.any_cons, optD, eqF]
    · have e2 : py 40 R .non = some .none := rfl
      rw [e2, pyL_opts]
      have sh := shaped_opts h
      have s0 : SeqAt.shaped .none = true := by simp [SeqAt.shaped, PyData.canLay0, PyData.depth]
      simp only [if_pos (And.intro s0 sh)]
      congr 1
      rw [List.any_map]
      congr 1
      funext o
      cases o <;> simp [optP, twoP, PyData.eqv]
  have e3 : inY R .non (.lst (L.map optD)) = some (L.any fun o => o.isNone) := by
    show (match dGetY R (.lst (L.map optD)) .non with
      | some o => some o.isSome
      | none => match seqOf R (.lst (L.map optD)) with
        | some ys => inS R .non ys
        | none => none) = _
    rw [e1, seqOf_lst (lstR_lst _)]
    exact this
  simp only [gIn, e3, Option.map_some]
end
/-! nodes and neighbours of edges -/
def addK (ks : List Str) (x : Str) : List Str := if x ∈ ks then ks else ks ++ [x]
def ksE (E : List SP) : List Str := E.foldl (fun ks p => addK (addK ks p.1) p.2) []
def nbOf (x : Str) (p : SP) : Option Str := if p.1 = x then some p.2 else if p.2 = x then some p.1 else none
def adj0 (E : List SP) (x : Str) : List Str := E.filterMap (nbOf x)
def adjE (E : List SP) (x : Str) : List Str := sortStr (adj0 E x)
def nodesE (E : List SP) : List Str := sortStr (ksE E)
theorem addK_nodup {ks : List Str} {x : Str} (h : ks.Nodup) : (addK ks x).Nodup := by
  unfold addK
  split
  · exact h
  · rename_i c; exact List.nodup_append.mpr ⟨h, by simp, fun a ha b hb e => c (by simp at hb; rw [← hb, ← e]; exact ha)⟩
theorem mem_addK {ks : List Str} {x y : Str} : y ∈ addK ks x ↔ y ∈ ks ∨ y = x := by
  unfold addK
  split
  · rename_i c; exact ⟨.inl, fun h => h.elim id fun e => e ▸ c⟩
  · simp
theorem addK_len {ks : List Str} {x : Str} : (addK ks x).length ≤ ks.length + 1 := by
  unfold addK; split <;> simp
theorem ksE_snoc (E : List SP) (p : SP) : ksE (E ++ [p]) = addK (addK (ksE E) p.1) p.2 := by simp [ksE, List.foldl_append]
theorem ksE_ok (E : List SP) : (ksE E).Nodup ∧ (∀ x, x ∈ ksE E ↔ ∃ p ∈ E, x = p.1 ∨ x = p.2) ∧ (ksE E).length ≤ 2 * E.length := by
  have go : ∀ (E : List SP) (ks : List Str), ks.Nodup → (E.foldl (fun ks p => addK (addK ks p.1) p.2) ks).Nodup ∧ (∀ x, x ∈ E.foldl (fun ks p => addK (addK ks p.1) p.2) ks ↔ x ∈ ks ∨ ∃ p ∈ E, x = p.1 ∨ x = p.2) ∧ (E.foldl (fun ks p => addK (addK ks p.1) p.2) ks).length ≤ ks.length + 2 * E.length := by
    intro E
    induction E with
    | nil => intro ks h; exact ⟨h, by simp, by simp⟩
    | cons p E ih =>
      intro ks h
      obtain ⟨h1, h2, h3⟩ := ih (addK (addK ks p.1) p.2) (addK_nodup (addK_nodup h))
      refine ⟨h1, fun x => ?_, ?_⟩
      · rw [List.foldl_cons, h2, mem_addK, mem_addK]
        constructor
        · rintro (((h | h) | h) | ⟨q, hq, h⟩)
          · exact .inl h
          · exact .inr ⟨p, List.mem_cons_self, .inl h⟩
          · exact .inr ⟨p, List.mem_cons_self, .inr h⟩
          · exact .inr ⟨q, List.mem_cons_of_mem _ hq, h⟩
        · rintro (h | ⟨q, hq, h⟩)
          · exact .inl (.inl (.inl h))
          · rcases List.mem_cons.mp hq with rfl | hq
            · rcases h with h | h
              · exact .inl (.inl (.inr h))
              · exact .inl (.inr h)
            · exact .inr ⟨q, hq, h⟩
      · have a := addK_len (ks := ks) (x := p.1)
        have b := addK_len (ks := addK ks p.1) (x := p.2)
        rw [List.foldl_cons, List.length_cons]; omega
  obtain ⟨h1, h2, h3⟩ := go E [] (by simp)
  exact ⟨h1, fun x => by rw [ksE, h2]; simp, by simpa [ksE] using h3⟩
theorem mem_adj0 {E : List SP} {x y : Str} : y ∈ adj0 E x ↔ ∃ p ∈ E, nbOf x p = some y := by
  unfold adj0; rw [List.mem_filterMap]
theorem adj0_none {E : List SP} {x : Str} (h : x ∉ ksE E) : adj0 E x = [] := by
  rw [List.eq_nil_iff_forall_not_mem]
  intro y hy
  obtain ⟨p, hp, e⟩ := mem_adj0.mp hy
  apply h
  rw [(ksE_ok E).2.1]
  unfold nbOf at e
  split at e
  · rename_i c; exact ⟨p, hp, .inl c.symm⟩
  · split at e
    · rename_i c; exact ⟨p, hp, .inr c.symm⟩
    · cases e
theorem adj0_snoc (E : List SP) (p : SP) (ne : p.1 ≠ p.2) : adj0 (E ++ [p]) = fun z => if z = p.2 then (if p.2 = p.1 then adj0 E p.1 ++ [p.2] else adj0 E p.2) ++ [p.1] else if z = p.1 then adj0 E p.1 ++ [p.2] else adj0 E z := by
  funext z
  have e : adj0 (E ++ [p]) z = adj0 E z ++ (match nbOf z p with | some y => [y] | none => []) := by
    unfold adj0
    rw [List.filterMap_append]
    congr 1
    cases h : nbOf z p <;> simp [h]
  rw [e, if_neg (Ne.symm ne)]
  by_cases c2 : z = p.2
  · subst c2; simp [nbOf, ne]
  · rw [if_neg c2]
    by_cases c1 : z = p.1
    · subst c1; simp [nbOf]
    · rw [if_neg c1]; simp [nbOf, Ne.symm c1, Ne.symm c2]
def treeIn (t : Str) : Option (List Str × (Str → List Str)) :=
  if IsName t then some ([t], fun _ => [])
  else if (∀ w ∈ Txt.split t " ", (edgeIn w).isSome = true) ∧ ((Txt.split t " ").filterMap edgeIn).Pairwise ltP ∧ TreeP (nodesE ((Txt.split t " ").filterMap edgeIn)) (adjE ((Txt.split t " ").filterMap edgeIn)) then
    some (nodesE ((Txt.split t " ").filterMap edgeIn), adjE ((Txt.split t " ").filterMap edgeIn)) else none
theorem edgeIn_names {w : Str} {p : SP} (h : edgeIn w = some p) : IsName p.1 ∧ IsName p.2 ∧ ltL p.1 p.2 := by
  unfold edgeIn at h
  split at h
  · rename_i c; cases h; exact ⟨c.2.1, c.2.2.1, c.2.2.2⟩
  · cases h
theorem edgeIn_eT {p : SP} (h1 : IsName p.1) (h2 : IsName p.2) (h3 : ltL p.1 p.2) : edgeIn (eT p) = some p := by
  have e : Txt.partition (eT p) "-" = (p.1, ("-" : Str), p.2) := TL.partition_app (y := ("-" : Str)) (s := 45) (S := []) (by rfl) fun hc => by
    have := name_chars h1 45 hc; omega
  unfold edgeIn
  rw [e, if_pos ⟨rfl, h1, h2, h3⟩]
theorem par_len (S : List Nat) : ∀ (l acc a b : List Nat), TL.par S acc l = some (a, b) → a.length ≤ acc.length + l.length ∧ b.length ≤ l.length
  | [], acc, a, b, h => by cases h
  | c :: r, acc, a, b, h => by
    by_cases q : TL.pre S (c :: r) = true
    · rw [TL.par_hit q] at h
      cases h
      exact ⟨by simp, by rw [List.length_drop]; omega⟩
    · rw [TL.par_miss (by simpa using q)] at h
      have := par_len S r (acc ++ [c]) a b h
      simp only [List.length_append, List.length_cons, List.length_nil] at this ⊢
      omega
theorem part_len {w y : Str} (hy : tl y ≠ []) : (Txt.partition w y).1.length ≤ w.length ∧ (Txt.partition w y).2.2.length ≤ w.length := by
  rw [TL.partition_par w y hy]
  cases h : TL.par (tl y) [] (tl w) with
  | none => exact ⟨Nat.le_refl _, by show (0 : Nat) ≤ _; omega⟩
  | some ab =>
    obtain ⟨a, b⟩ := ab
    have := par_len _ _ _ _ _ h
    rw [len_tl w]
    exact ⟨by show a.toArray.size ≤ _; rw [List.size_toArray]; simpa using this.1, by show b.toArray.size ≤ _; rw [List.size_toArray]; exact this.2⟩
end Y
end
end
section
set_option Elab.async false
set_option linter.all false
set_option maxRecDepth 100000
set_option maxHeartbeats 4000000
noncomputable section
namespace Y
open PySem PySem.Spec PyProof.Rows L2
open Classical
open TL (tl joinL len_tl join_eq tl_join spl)
/-! a tree and its text -/
theorem sum_perm {l k : List Nat} (h : l.Perm k) : l.sum = k.sum := by
  induction h with
  | nil => rfl
  | cons x _ ih => simp [ih]
  | swap x y l => simp only [List.sum_cons]; omega
  | trans _ _ a b => exact a.trans b
theorem leastS_sort {ns : List Str} (nd : ns.Nodup) : leastS (sortStr ns) = leastS ns := by
  unfold leastS; rw [sortStr_self (sortStr_lt nd)]
theorem TreeP.sorted {ns : List Str} {m m' : Str → List Str} (T : TreeP ns m) (nd : ns.Nodup) (e : ∀ n ∈ ns, m' n = m n) : TreeP (sortStr ns) m' := by
  have pm := sortStr_perm ns
  have mm : ∀ {x}, x ∈ sortStr ns ↔ x ∈ ns := pm.mem_iff
  refine ⟨by rw [pm.length_eq]; exact T.len1, by rw [pm.length_eq]; exact T.len40, fun n hn => ?_, fun n hn y hy => ?_, ?_, fun S s0 sc x hx => ?_⟩
  · rw [e n (mm.mp hn)]
    exact ⟨(T.nb n (mm.mp hn)).1, fun y hy => ⟨mm.mpr ((T.nb n (mm.mp hn)).2 y hy).1, ((T.nb n (mm.mp hn)).2 y hy).2⟩⟩
  · rw [e n (mm.mp hn)] at hy
    rw [e y ((T.nb n (mm.mp hn)).2 y hy).1]
    exact T.sym n (mm.mp hn) y hy
  · rw [pm.length_eq, ← T.deg, ← sum_perm (pm.map fun n => (m n).length)]
    exact congrArg List.sum (List.map_congr_left fun n hn => by rw [e n (mm.mp hn)])
  · rw [leastS_sort nd] at s0
    exact T.conn S s0 (fun z hz sz y hy => sc z (mm.mpr hz) sz y (by rw [e z hz]; exact hy)) x (mm.mp hx)
theorem TreeP.some_nb {ns : List Str} {m : Str → List Str} (T : TreeP ns m) {p : SP} (hp : p ∈ edgesOf ns m) {x : Str} (hx : x ∈ ns) : ∃ y, y ∈ m x := by
  apply Classical.byContradiction
  intro h
  have hm : ∀ y, y ∉ m x := fun y hy => h ⟨y, hy⟩
  by_cases q : leastS ns = x
  · have all := T.conn (fun z => z = x) q fun z _ hz y hy => by subst hz; exact absurd hy (hm y)
    obtain ⟨h1, h2, _⟩ := mem_edges.mp hp
    rw [all _ h1] at h2
    exact hm _ h2
  · have := T.conn (fun z => z ≠ x) q (fun z hz _ y hy e => by subst e; exact hm z (T.sym z hz y hy)) x hx
    exact this rfl
theorem nbOf_some {x y : Str} {p : SP} (h : nbOf x p = some y) : (p.1 = x ∧ p.2 = y) ∨ (p.2 = x ∧ p.1 = y) := by
  unfold nbOf at h
  by_cases c : p.1 = x
  · rw [if_pos c, Option.some.injEq] at h; exact .inl ⟨c, h⟩
  · rw [if_neg c] at h
    by_cases d : p.2 = x
    · rw [if_pos d, Option.some.injEq] at h; exact .inr ⟨d, h⟩
    · rw [if_neg d] at h; cases h
theorem nbOf_inj {x y : Str} {p q : SP} (hp : ltL p.1 p.2) (hq : ltL q.1 q.2) (h1 : nbOf x p = some y) (h2 : nbOf x q = some y) : p = q := by
  rcases nbOf_some h1 with ⟨a, b⟩ | ⟨a, b⟩ <;> rcases nbOf_some h2 with ⟨c, d⟩ | ⟨c, d⟩
  · exact Prod.ext (a.trans c.symm) (b.trans d.symm)
  · rw [a, b] at hp; rw [c, d] at hq; exact absurd hp (ltL_asy _ _ hq)
  · rw [a, b] at hp; rw [c, d] at hq; exact absurd hp (ltL_asy _ _ hq)
  · exact Prod.ext (b.trans d.symm) (a.trans c.symm)
theorem edges_len_le (ns : List Str) (m : Str → List Str) : (edgesOf ns m).length ≤ (ns.map fun n => (m n).length).sum := by
  induction ns with
  | nil => exact Nat.le_refl _
  | cons n ns ih =>
    unfold edgesOf at ih ⊢
    rw [List.flatMap_cons, List.length_append, List.map_cons, List.sum_cons, List.length_map]
    have := List.length_filter_le (ltS n ·) (m n)
    omega
theorem mem_joinL' {S : List Nat} {c : Nat} : ∀ {ps : List (List Nat)} {p : List Nat}, p ∈ ps → c ∈ p → c ∈ joinL S ps
  | [], p, h, _ => by simp at h
  | [q], p, h, hc => by simp at h; subst h; simpa [joinL] using hc
  | q :: r :: ps, p, h, hc => by
    simp only [joinL, List.mem_append]
    rcases List.mem_cons.mp h with rfl | h
    · exact .inl hc
    · exact .inr (.inr (mem_joinL' h hc))
theorem treeIn_treeT {ns : List Str} {m : Str → List Str} (T : TreeP ns m) (nd : ns.Nodup) (nm : ∀ n ∈ ns, IsName n ∧ ∀ s ∈ m n, IsName s) :
    (∃ m', treeIn (treeT ns m) = some (sortStr ns, m') ∧ ∀ n ∈ ns, m' n = m n) ∧ (treeT ns m).length ≤ 4000 ∧ (ksE ((Txt.split (treeT ns m) " ").filterMap edgeIn)).length < 64 := by
  have pm := sortStr_perm ns
  have ne0 : ns ≠ [] := fun e => by have := T.len1; subst e; simp at this
  obtain ⟨lm1, lm2⟩ := least_mem ne0
  have h40 := T.len40
  by_cases he : edgesL ns m = []
  · have nil : ∀ n ∈ ns, m n = [] := fun n hn => by
      rw [List.eq_nil_iff_forall_not_mem]
      intro y hy
      obtain ⟨a, b⟩ := (T.nb n hn).2 y hy
      rcases ltL_tri n y with h | h | h
      · have : (n, y) ∈ edgesL ns m := (edges_mem _).mp (mem_edges.mpr ⟨hn, hy, h⟩)
        rw [he] at this; simp at this
      · exact b h.symm
      · have : (y, n) ∈ edgesL ns m := (edges_mem _).mp (mem_edges.mpr ⟨a, T.sym n hn y hy, h⟩)
        rw [he] at this; simp at this
    have s0 : (ns.map fun n => (m n).length).sum = 0 := by
      have : ns.map (fun n => (m n).length) = ns.map fun _ => 0 := List.map_congr_left fun n hn => by rw [nil n hn]; rfl
      rw [this]; clear this; generalize ns = l; induction l with
      | nil => rfl
      | cons x l ih => simpa using ih
    have l1 : ns.length = 1 := by have := T.deg; have := T.len1; omega
    have sl : (sortStr ns).length = 1 := by rw [pm.length_eq]; exact l1
    have es : sortStr ns = [leastS ns] := by
      match h : sortStr ns, sl with
      | [x], _ => rw [h] at lm1; simp at lm1; rw [lm1]
    have hn := (nm _ lm2).1
    have et : treeT ns m = leastS ns := if_pos he
    have h8 := hn.2.1
    rw [et]
    refine ⟨⟨fun _ => [], ?_, fun n hn => (nil n hn).symm⟩, by omega, ?_⟩
    · rw [treeIn, if_pos hn, es]
    · have a := (ksE_ok ((Txt.split (leastS ns) " ").filterMap edgeIn)).2.2
      have b := (split_len (t := leastS ns) (y := " ") (by decide +kernel) (by decide +kernel)).1
      have c := List.length_filterMap_le edgeIn (Txt.split (leastS ns) " ")
      omega
  · have et : treeT ns m = Txt.join " " ((edgesL ns m).map eT) := if_neg he
    have en : ∀ p ∈ edgesL ns m, IsName p.1 ∧ IsName p.2 ∧ ltL p.1 p.2 := fun p hp => by
      obtain ⟨h1, h2, h3⟩ := mem_edges.mp ((edges_mem p).mpr hp)
      exact ⟨(nm _ h1).1, (nm _ h1).2 _ h2, h3⟩
    have sp : Txt.split (treeT ns m) " " = (edgesL ns m).map eT := by
      rw [et]
      refine TL.split_join (y := (" " : Str)) (s := 32) (S := []) (by rfl) (by decide +kernel) (parts := (edgesL ns m).map eT) (by simpa using he) fun w hw hc => ?_
      obtain ⟨p, hp, rfl⟩ := List.mem_map.mp hw
      rw [eT_tl, List.mem_append, List.mem_cons] at hc
      rcases hc with hc | hc | hc
      · have := name_chars (en p hp).1 32 hc; omega
      · omega
      · have := name_chars (en p hp).2.1 32 hc; omega
    have fm : ((edgesL ns m).map eT).filterMap edgeIn = edgesL ns m := by
      rw [List.filterMap_map]
      have : ∀ E : List SP, (∀ p ∈ E, IsName p.1 ∧ IsName p.2 ∧ ltL p.1 p.2) → E.filterMap (edgeIn ∘ eT) = E := by
        intro E
        induction E with
        | nil => intro _; rfl
        | cons p E ih =>
          intro h
          obtain ⟨a, b, c⟩ := h p List.mem_cons_self
          rw [List.filterMap_cons_some (show (edgeIn ∘ eT) p = some p from edgeIn_eT a b c), ih fun q hq => h q (List.mem_cons_of_mem _ hq)]
      exact this _ en
    have nn : ¬ IsName (treeT ns m) := fun h => by
      obtain ⟨p, r, hp⟩ : ∃ p r, edgesL ns m = p :: r := by
        cases h : edgesL ns m with
        | nil => exact absurd h he
        | cons p r => exact ⟨p, r, rfl⟩
      have : 45 ∈ tl (treeT ns m) := by
        rw [et, join_eq, tl_join]
        refine mem_joinL' (p := tl (eT p)) (List.mem_map.mpr ⟨eT p, List.mem_map.mpr ⟨p, by rw [hp]; simp, rfl⟩, rfl⟩) ?_
        rw [eT_tl]; simp
      have := name_chars h 45 this
      omega
    obtain ⟨kn, km, _⟩ := ksE_ok (edgesL ns m)
    have memk : ∀ x, x ∈ ksE (edgesL ns m) ↔ x ∈ ns := fun x => by
      rw [km]
      constructor
      · rintro ⟨p, hp, h⟩
        obtain ⟨h1, h2, _⟩ := mem_edges.mp ((edges_mem p).mpr hp)
        rcases h with h | h
        · rw [h]; exact h1
        · rw [h]; exact ((T.nb _ h1).2 _ h2).1
      · intro hx
        obtain ⟨p, r, hp⟩ : ∃ p r, edgesL ns m = p :: r := by
          cases h : edgesL ns m with
          | nil => exact absurd h he
          | cons p r => exact ⟨p, r, rfl⟩
        obtain ⟨y, hy⟩ := T.some_nb ((edges_mem p).mpr (by rw [hp]; simp)) hx
        obtain ⟨a, b⟩ := (T.nb x hx).2 y hy
        rcases ltL_tri x y with h | h | h
        · exact ⟨(x, y), (edges_mem _).mp (mem_edges.mpr ⟨hx, hy, h⟩), .inl rfl⟩
        · exact absurd h.symm b
        · exact ⟨(y, x), (edges_mem _).mp (mem_edges.mpr ⟨a, T.sym x hx y hy, h⟩), .inr rfl⟩
    have nodes : nodesE (edgesL ns m) = sortStr ns := sortStr_eq kn nd memk
    have adj : ∀ x ∈ ns, adjE (edgesL ns m) x = m x := fun x hx => by
      refine sortStr_of (T.nb x hx).1 ?_ fun y => ?_
      · have ndE : (edgesL ns m).Nodup := by
          have := edges_sorted (m := m) (sortStr_lt nd) fun n hn => (T.nb n (pm.mem_iff.mp hn)).1
          exact this.imp fun {a b} h e => by subst e; exact ltP_irr _ h
        have : (edgesL ns m).Pairwise fun p q => p ≠ q ∧ (ltL p.1 p.2 ∧ ltL q.1 q.2) := List.Pairwise.imp_of_mem (fun {a b} ha hb h => ⟨h, (en a ha).2.2, (en b hb).2.2⟩) ndE
        exact List.Pairwise.filterMap (S := fun a b => a ≠ b) (nbOf x) (fun p q ⟨h, a, b⟩ y hy z hz e => h (by subst e; exact nbOf_inj a b hy hz)) this
      · rw [mem_adj0]
        constructor
        · rintro ⟨p, hp, e⟩
          obtain ⟨h1, h2, _⟩ := mem_edges.mp ((edges_mem p).mpr hp)
          rcases nbOf_some e with ⟨c, d⟩ | ⟨c, d⟩
          · rw [← c, ← d]; exact h2
          · rw [← c, ← d]; exact T.sym _ h1 _ h2
        · intro hy
          obtain ⟨a, b⟩ := (T.nb x hx).2 y hy
          rcases ltL_tri x y with h | h | h
          · exact ⟨(x, y), (edges_mem _).mp (mem_edges.mpr ⟨hx, hy, h⟩), by simp [nbOf]⟩
          · exact absurd h.symm b
          · exact ⟨(y, x), (edges_mem _).mp (mem_edges.mpr ⟨a, T.sym x hx y hy, h⟩), by simp [nbOf, b]⟩
    refine ⟨⟨adjE (edgesL ns m), ?_, adj⟩, ?_, ?_⟩
    · rw [treeIn, if_neg nn, sp, fm, if_pos, nodes]
      refine ⟨fun w hw => ?_, edges_sorted (sortStr_lt nd) fun n hn => (T.nb n (pm.mem_iff.mp hn)).1, by rw [nodes]; exact T.sorted nd adj⟩
      obtain ⟨p, hp, rfl⟩ := List.mem_map.mp hw
      obtain ⟨a, b, c⟩ := en p hp
      rw [edgeIn_eT a b c]; rfl
    · have a := edges_len_le (sortStr ns) m
      rw [sum_perm (pm.map fun n => (m n).length), T.deg] at a
      have a : (edgesL ns m).length ≤ 2 * (ns.length - 1) := a
      have b := join_len " " ((edgesL ns m).map eT)
      have c := sum_le (f := fun p => (eT p).length) (l := edgesL ns m) (k := 17) fun p hp => by
        have h1 := (en p hp).1.2.1
        have h2 := (en p hp).2.1.2.1
        unfold eT
        rw [app_len, app_len, show (Str.ofString "-").length = 1 from rfl]; omega
      rw [et]
      rw [List.map_map, List.length_map, show (" " : Str).length = 1 from rfl] at b
      have e : (List.map ((fun x => x.length) ∘ eT) (edgesL ns m)) = (edgesL ns m).map fun p => (eT p).length := rfl
      rw [e] at b
      omega
    · rw [sp, fm]
      have : (ksE (edgesL ns m)).length = ns.length := by
        have a := nodup_sub_len kn fun x hx => (memk x).mp hx
        have b := nodup_sub_len nd fun x hx => (memk x).mpr hx
        omega
      omega
theorem LG.congr {R : Wd} {f : Nat} {ns : List Str} {c : Str → Nat} {m m' : Str → List Str} (g : LG R f ns c m) (e : ∀ n ∈ ns, m' n = m n) : LG R f ns c m' :=
  ⟨g.dict, fun n hn => by rw [e n hn]; exact g.cells n hn, g.nodup, g.inj, fun n hn => by rw [e n hn]; exact g.names n hn⟩
end Y
end
end
section
set_option Elab.async false
set_option linter.all false
set_option maxRecDepth 100000
set_option maxHeartbeats 4000000
noncomputable section
namespace Y
open PySem PySem.Spec PyProof.Rows L2
open Classical
/-! trees that grow -/
structure TreeQ (ns : List Str) (m : Str → List Str) : Prop where
  pos : ns ≠ []
  nd : ∀ n ∈ ns, (m n).Nodup
  nb : ∀ n ∈ ns, ∀ y ∈ m n, y ∈ ns ∧ y ≠ n
  sym : ∀ n ∈ ns, ∀ y ∈ m n, n ∈ m y
  deg : (ns.map fun n => (m n).length).sum = 2 * (ns.length - 1)
  conn : ∀ S : Str → Prop, ∀ r ∈ ns, S r → (∀ x ∈ ns, S x → ∀ y ∈ m x, S y) → ∀ x ∈ ns, S x
theorem TreeQ.one (a : Str) {m : Str → List Str} (h : m a = []) : TreeQ [a] m := by
  refine ⟨by simp, fun n hn => ?_, fun n hn y hy => ?_, fun n hn y hy => ?_, by simp [h], fun S r hr s _ x hx => ?_⟩
  · rw [List.mem_singleton.mp hn, h]; simp
  · rw [List.mem_singleton.mp hn, h] at hy; simp at hy
  · rw [List.mem_singleton.mp hn, h] at hy; simp at hy
  · rw [List.mem_singleton.mp hx, ← List.mem_singleton.mp hr]; exact s
theorem sum_upd (f : Str → Nat) {b : Str} : ∀ {ns : List Str}, ns.Nodup → b ∈ ns → (ns.map fun n => if n = b then f n + 1 else f n).sum = (ns.map f).sum + 1
  | [], _, h => by simp at h
  | x :: ns, nd, h => by
    rw [List.nodup_cons] at nd
    by_cases c : x = b
    · subst c
      have : (ns.map fun n => if n = x then f n + 1 else f n) = ns.map f := List.map_congr_left fun n hn => if_neg (fun (e : n = x) => nd.1 (e ▸ hn))
      simp only [List.map_cons, List.sum_cons, if_true, this]; omega
    · have ih := sum_upd f nd.2 (List.mem_of_ne_of_mem (fun e => c e.symm) h)
      simp only [List.map_cons, List.sum_cons, if_neg c, ih]; omega
def leafM (m : Str → List Str) (a b : Str) : Str → List Str := fun z => if z = b then m z ++ [a] else if z = a then m z ++ [b] else m z
theorem TreeQ.leaf {ns : List Str} {m : Str → List Str} (T : TreeQ ns m) (nd : ns.Nodup) {a b : Str} (ha : a ∉ ns) (hb : b ∈ ns) (ma : m a = []) : TreeQ (ns ++ [a]) (leafM m a b) := by
  have ab : a ≠ b := fun e => ha (e ▸ hb)
  have mb : leafM m a b b = m b ++ [a] := by simp [leafM]
  have mA : leafM m a b a = [b] := by simp [leafM, ab, ma]
  have mo : ∀ {z}, z ≠ a → z ≠ b → leafM m a b z = m z := fun h1 h2 => by simp [leafM, h1, h2]
  have mle : ∀ {z y}, z ∈ ns → y ∈ m z → y ∈ leafM m a b z := fun {z y} hz hy => by
    have h1 : z ≠ a := fun e => ha (e ▸ hz)
    by_cases h2 : z = b
    · subst h2; rw [mb]; exact List.mem_append_left _ hy
    · rw [mo h1 h2]; exact hy
  have anb : ∀ z ∈ ns, a ∉ m z := fun z hz h => ha (T.nb z hz a h).1
  refine ⟨by simp, fun n hn => ?_, fun n hn y hy => ?_, fun n hn y hy => ?_, ?_, fun S r hr s sc => ?_⟩
  · by_cases q : n = a
    · rw [q, mA]; simp
    · have hn : n ∈ ns := by rcases List.mem_append.mp hn with h | h; exact h; exact absurd (by simpa using h) q
      by_cases r : n = b
      · rw [r, mb]; exact List.nodup_append.mpr ⟨T.nd b hb, by simp, fun x hx y hy e => anb b hb (by simp at hy; rw [← hy, ← e]; exact hx)⟩
      · rw [mo q r]; exact T.nd n hn
  · by_cases q : n = a
    · rw [q, mA] at hy
      rw [List.mem_singleton.mp hy, q]
      exact ⟨List.mem_append_left _ hb, ab.symm⟩
    · have hn : n ∈ ns := by rcases List.mem_append.mp hn with h | h; exact h; exact absurd (by simpa using h) q
      by_cases r : n = b
      · rw [r, mb] at hy
        rcases List.mem_append.mp hy with h | h
        · rw [r]; exact ⟨List.mem_append_left _ (T.nb b hb y h).1, (T.nb b hb y h).2⟩
        · rw [List.mem_singleton.mp h, r]; exact ⟨by simp, ab⟩
      · rw [mo q r] at hy
        exact ⟨List.mem_append_left _ (T.nb n hn y hy).1, (T.nb n hn y hy).2⟩
  · by_cases q : n = a
    · rw [q, mA] at hy
      rw [List.mem_singleton.mp hy, q, mb]; simp
    · have hn : n ∈ ns := by rcases List.mem_append.mp hn with h | h; exact h; exact absurd (by simpa using h) q
      by_cases r : n = b
      · rw [r, mb] at hy
        rcases List.mem_append.mp hy with h | h
        · rw [r]; exact mle (T.nb b hb y h).1 (T.sym b hb y h)
        · rw [List.mem_singleton.mp h, r, mA]; simp
      · rw [mo q r] at hy
        exact mle (T.nb n hn y hy).1 (T.sym n hn y hy)
  · rw [List.map_append, List.sum_append]
    have e1 : (ns.map fun n => (leafM m a b n).length) = ns.map fun n => if n = b then (m n).length + 1 else (m n).length := List.map_congr_left fun n hn => by
      have h1 : n ≠ a := fun e => ha (e ▸ hn)
      by_cases h2 : n = b
      · rw [if_pos h2, h2, mb]; simp
      · rw [if_neg h2, mo h1 h2]
    rw [e1, sum_upd (fun n => (m n).length) nd hb, T.deg]
    simp only [List.map_cons, List.map_nil, List.sum_cons, List.sum_nil, mA, List.length_append, List.length_cons, List.length_nil]
    have := List.length_pos_of_mem hb
    omega
  · obtain ⟨r', hr', s'⟩ : ∃ r' ∈ ns, S r' := by
      rcases List.mem_append.mp hr with h | h
      · exact ⟨r, h, s⟩
      · have e := List.mem_singleton.mp h
        subst e
        exact ⟨b, hb, sc r hr s b (by rw [mA]; simp)⟩
    have all := T.conn S r' hr' s' fun x hx sx y hy => sc x (List.mem_append_left _ hx) sx y (mle hx hy)
    intro x hx
    rcases List.mem_append.mp hx with h | h
    · exact all x h
    · rw [List.mem_singleton.mp h]
      exact sc b (List.mem_append_left _ hb) (all b hb) a (by rw [mb]; simp)
theorem TreeQ.toP {ns : List Str} {m m' : Str → List Str} (T : TreeQ ns m) (h40 : ns.length ≤ 40) (e : ∀ n ∈ ns, m' n = sortStr (m n)) : TreeP ns m' := by
  have mm : ∀ {n y}, n ∈ ns → (y ∈ m' n ↔ y ∈ m n) := fun hn => by rw [e _ hn]; exact (sortStr_perm _).mem_iff
  refine ⟨List.length_pos_iff.mpr T.pos, h40, fun n hn => ⟨by rw [e n hn]; exact sortStr_lt (T.nd n hn), fun y hy => T.nb n hn y ((mm hn).mp hy)⟩, fun n hn y hy => ?_, ?_, fun S s0 sc => ?_⟩
  · have hy := (mm hn).mp hy
    exact (mm (T.nb n hn y hy).1).mpr (T.sym n hn y hy)
  · rw [← T.deg]
    exact congrArg List.sum (List.map_congr_left fun n hn => by rw [e n hn]; exact (sortStr_perm _).length_eq)
  · exact T.conn S _ (least_mem T.pos).2 s0 fun x hx sx y hy => sc x hx sx y ((mm hx).mpr hy)
theorem TreeP.toQ {ns : List Str} {m : Str → List Str} (T : TreeP ns m) : TreeQ ns m := by
  have ne : ns ≠ [] := fun e => by have := T.len1; subst e; simp at this
  refine ⟨ne, fun n hn => pw_nodup (T.nb n hn).1, fun n hn => (T.nb n hn).2, T.sym, T.deg, fun S r hr s sc => ?_⟩
  have s0 : S (leastS ns) := by
    apply Classical.byContradiction
    intro h
    exact T.conn (fun z => ¬ S z) h (fun x hx nx y hy sy => nx (sc y ((T.nb x hx).2 y hy).1 sy x (T.sym x hx y hy))) r hr s
  exact T.conn S s0 sc
/-- fresh lists, by names -/
theorem fresh_w {ρ : Rho} {R : Wd} {v : Nat} {ok : Wd → Prop} {ns : List Str} {mm : Str → List Str} {d : DA} (nd : ns.Nodup) (hok : ∀ R', Y.Ext R R' → ok R') (hv : ∀ x : D, (ρ.set v (some x))[v]? = some (some x))
    (hd : ∀ n ∈ ns, ∀ R', Y.Ext R R' → wR (d (ρ.set v (some (.str n))) R') (fun xs R2 => xs = (mm n).map .str ∧ R2 = R') nvr) {Q : List D → Wd → Prop}
    (q : ∀ (c : Str → Nat) R', (∀ n ∈ ns, R'[c n]? = some (.lst ((mm n).map .str)) ∧ R.length ≤ c n) → (∀ n ∈ ns, ∀ n' ∈ ns, c n = c n' → n = n') → Y.Ext R R' → Q (ns.map fun n => .tup [.str n, .ref (c n)]) R') :
    ∃ ys R2, lcD (.nm v) ok dYes (dTup (dSz (dCons (dVar v) (dCons (dNewL d) dNil)))) (ns.map .str) ρ R = some (ys, R2) ∧ Q ys R2 := by
  refine w_lcI (fun k acc R' => ∃ c : Str → Nat, acc = (ns.take k).map (fun n => D.tup [.str n, .ref (c n)]) ∧ (∀ n ∈ ns.take k, R'[c n]? = some (.lst ((mm n).map .str)) ∧ R.length ≤ c n) ∧ (∀ n ∈ ns.take k, ∀ n' ∈ ns.take k, c n = c n' → n = n') ∧ Y.Ext R R')
    ⟨fun _ => 0, by simp, by simp, by simp, Y.Ext.refl _⟩ (fun k acc R' ⟨_, _, _, _, h⟩ => hok R' h) ?_ ?_
  · rintro k x acc R1 hk ⟨c, rfl, hc, hi, hx⟩
    rw [List.getElem?_map] at hk
    obtain ⟨n, hn, rfl⟩ := Option.map_eq_some_iff.mp hk
    have tk : ns.take (k + 1) = ns.take k ++ [n] := by rw [List.take_succ, hn]; rfl
    have hnk : n ∉ ns.take k := fun h => by
      have nd2 : (ns.take (k + 1)).Nodup := nd.sublist (List.take_sublist _ _)
      rw [tk] at nd2
      exact (List.nodup_append.mp nd2).2.2 n h n (by simp) rfl
    refine ⟨_, rfl, w_tup (w_sz (w_cons (w_var (hv _) (zv_str n) (w_cons (w_newLx (wR_nv (hd n (List.mem_of_getElem? hn) R1 hx) ?_))))))⟩
    rintro xs R0 ⟨rfl, e0⟩
    rw [e0]
    intro R2 x2 c2 l2
    refine w_nil ⟨by rw [sizeLine_eq]; simp, fun x => if x = n then R1.length else c x, ?_, fun y hy => ?_, fun y hy z hz e => ?_, hx.trans x2⟩
    · rw [tk, List.map_append]
      congr 1
      · refine List.map_congr_left fun y hy => ?_
        have : y ≠ n := fun e => hnk (e ▸ hy)
        simp only [if_neg this]
      · simp
    · rw [tk] at hy
      by_cases q : y = n
      · subst q; simp only [if_true]; exact ⟨c2, ext_len hx⟩
      · simp only [if_neg q]
        have hy' : y ∈ ns.take k := by rcases List.mem_append.mp hy with h | h; exact h; exact absurd (by simpa using h) q
        exact ⟨x2 _ _ (hc y hy').1, (hc y hy').2⟩
    · rw [tk] at hy hz
      have mem : ∀ w, w ∈ ns.take k ++ [n] → w ≠ n → w ∈ ns.take k := fun w hw q => by rcases List.mem_append.mp hw with h | h; exact h; exact absurd (by simpa using h) q
      have lt : ∀ w ∈ ns.take k, c w ≠ R1.length := fun w hw => by have := ref_lt (hc w hw).1; omega
      by_cases q : y = n <;> by_cases r : z = n
      · rw [q, r]
      · simp only [if_pos q, if_neg r] at e; exact absurd e.symm (lt z (mem z hz r))
      · simp only [if_pos r, if_neg q] at e; exact absurd e (lt y (mem y hy q))
      · simp only [if_neg r, if_neg q] at e; exact hi y (mem y hy q) z (mem z hz r) e
  · rintro ys R1 ⟨c, rfl, hc, hi, hx⟩
    have lz : ns.take (ns.map D.str).length = ns := by rw [List.length_map]; exact List.take_length
    rw [lz] at hc hi ⊢
    exact q c R1 hc hi hx
theorem gDict_fresh {R : Wd} {ns : List Str} {g : Str → D} (nd : ns.Nodup) : gDict R [.lst (ns.map fun n => D.tup [.str n, g n])] = some (dkN ns g) := by
  simp only [gDict, dkOf, lstR_lst, pairsOf_map, Option.map_some]
  exact congrArg some (mA_dkN g ns [] nd)
end Y
end
end
section
set_option Elab.async false
set_option linter.all false
set_option maxRecDepth 100000
set_option maxHeartbeats 4000000
namespace Y
open PySem PySem.Spec PyProof.Rows L2 HotX

/-! ### ends of walks where an exception is handled -/
section
variable {prog : Program} {w : World} {A : Around} {E : Value → Shared → Prop} {s : Shared}
theorem hot_to {x1 : Addr} {h h' : Heap} (hot : HotAt A x1 h) (k : ∀ o, h.get? x1 = some o → h'.get? x1 = some o) : HotAt A x1 h' := by
  obtain ⟨hh, o, vs, e, d, c⟩ := hot
  exact ⟨hh, o, vs, k o e, d, c⟩
/-- the handled exception is no object with such data -/
theorem hot_ne {x1 b : Addr} {h : Heap} {o : Obj} (hot : HotAt A x1 h) (e : h.get? b = some o) (n : ∀ vs : Array Value, o.data = .fields vs → vs[2]? ≠ some .none) : x1 ≠ b := by
  obtain ⟨_, o', vs, e', d, c⟩ := hot
  intro z
  subst z
  rw [e] at e'
  cases e'
  exact n vs d c
theorem hot_ne_list {x1 it l : Addr} {i : Nat} {h : Heap} (hot : HotAt A x1 h) (q : h.IsListIter it l i) : x1 ≠ it := by
  obtain ⟨o, e, _, d⟩ := q
  refine hot_ne hot e fun vs e2 => ?_
  rw [d] at e2
  cases e2
  simp
theorem hot_ne_tup {x1 it l : Addr} {i : Nat} {h : Heap} (hot : HotAt A x1 h) (q : IsTupIter h it l i) : x1 ≠ it := by
  obtain ⟨o, e, _, d⟩ := q
  refine hot_ne hot e fun vs e2 => ?_
  rw [d] at e2
  cases e2
  simp
theorem hot_ne_zip {x1 z TI TO : Addr} {v : Value} {h : Heap} (hot : HotAt A x1 h) (q : IsZip h z TI TO v) : x1 ≠ z := by
  refine hot_ne hot q fun vs e2 => ?_
  cases e2
  simp
theorem hot_ne_pair {x1 T : Addr} {a b : Value} {h : Heap} (hot : HotAt A x1 h) (q : IsPair h T a b) : x1 ≠ T := hot_ne hot q fun vs e2 => nomatch e2
theorem nextOf_list_end_hot {it l x1 : Addr} {i : Nat} {items : Array Value} {Q : Value → Shared → Prop} (hot : HotAt A x1 s.heap)
    (hit : s.heap.IsListIter it l i) (hl : s.heap.IsList l items) (hx : items[i]? = none)
    (hE : ∀ h' e, Heap.ExtBut it s.heap h' → (∃ o, h'.get? e = some o ∧ o.cls = .type "StopIteration") → E (.ref e) { s with heap := h' }) :
    wpAny (model prog w) A (Builtin.SmallTypes.nextOf (.ref it)) Q E s := by
  have ne := hot_ne_list hot hit
  obtain ⟨o, ho, hc, hd⟩ := id hit
  obtain ⟨ol, hol, _, nl, hdl⟩ := hl
  unfold Builtin.SmallTypes.nextOf
  refine wpAny_bind (wpAny_callSpecial?_slot (name := Str.ofString "__next__") hit.typeIs slot_listiter_next
    (wpAny_call_entry slot_listiter_next hit.typeIs entry_listiter_next ?_ (args_listiter_next _)))
  show wpAny _ _ (field (.ref it) 0 >>= _) _ _ s
  refine wpAny_bind (wpAny_field ho hd (x := .ref l) rfl ?_)
  show wpAny _ _ (if (Value.ref l == Value.none) = true then _ else _) _ _ s
  rw [if_neg (show ¬ ((Value.ref l == Value.none) = true) from Bool.false_ne_true)]
  show wpAny _ _ (field (.ref it) 1 >>= _) _ _ s
  refine wpAny_bind (wpAny_field ho hd (x := .int i 0) rfl ?_)
  show wpAny _ _ (seqItems? (.ref l) >>= _) _ _ s
  refine wpAny_bind (wpAny_seqItems hol hdl ?_)
  simp only [Int.toNat_natCast, hx]
  refine wpAny_bind (wpAny_rule (wpAny_bind (wpAny_setField ho hd (by simp) ?_)))
  show wpAny _ _ (newExc (.type "StopIteration") [] >>= _) _ _ _
  refine wpAny_bind ?_
  simp only [newExc, newTuple]
  refine wpAny_bind (wpAny_newObj_type ?_ (by size_fits))
  refine wpAny_bind (m := firstArgMember _ _) (wpAny_of_eq (a := Value.none) (by first | rfl | (simp only [firstArgMember]; rfl)) ?_)
  refine wpAny_newObj_type ?_ (by size_fits)
  have up : ∀ b o, b ≠ it → s.heap.get? b = some o → ((((s.heap.update it (Obj.mapFields (·.setIfInBounds 0 .none))).push { cls := .type "tuple", data := .seq (#[] : Array Value) }).push { cls := .type "StopIteration", data := .fields #[.ref (s.heap.update it (Obj.mapFields (·.setIfInBounds 0 .none))).objs.size, .none, .none, .none, .bool false, .none] }).get? b) = some o := fun b o nb e =>
    Heap.get?_push_of_some _ (Heap.get?_push_of_some _ ((Heap.get?_update_other _ _ (Ne.symm nb)).trans e))
  obtain ⟨hh, o1, vs1, h1, d1, c1⟩ := hot
  have h1' := Heap.get?_push_of_some { cls := .type "tuple", data := .seq (#[] : Array Value) } ((Heap.get?_update_other s.heap (Obj.mapFields (·.setIfInBounds 0 .none)) (Ne.symm ne)).trans h1)
  refine raiseNew_hot (x1 := x1) ⟨hh, o1, vs1, Heap.get?_push_of_some _ h1', d1, c1⟩ (Nat.ne_of_lt (Heap.lt_size h1')) (Heap.get?_push_size _ rfl) rfl (by first | (simp; done) | (simp; omega) | (simp only [Array.size_append]; simp; omega)) ?_
  refine hE _ _ (fun b o hb e => ?_) ⟨_, Heap.get?_update_self _ (Heap.get?_push_size _ rfl) rfl, rfl⟩
  have e2 := Heap.get?_push_of_some { cls := .type "tuple", data := .seq (#[] : Array Value) } ((Heap.get?_update_other s.heap (Obj.mapFields (·.setIfInBounds 0 .none)) (Ne.symm hb)).trans e)
  exact (Heap.get?_update_other _ _ (Nat.ne_of_gt (Heap.lt_size e2))).trans (Heap.get?_push_of_some _ e2)

theorem zip_next_end_hot {z TI TO i1 i2 l1 l2 x1 : Addr} {k1 k2 : Nat} {xs ys : Array Value} {a b : Value} {Q : Fin → Shared → Prop} (hot : HotAt A x1 s.heap) (D : ZipApart z TI TO i1 i2 l1 l2)
    (hz : IsZip s.heap z TI TO .none) (hTI : IsPair s.heap TI (.ref i1) (.ref i2)) (hTO : IsPair s.heap TO a b)
    (h1 : s.heap.IsListIter i1 l1 k1) (h2 : s.heap.IsListIter i2 l2 k2) (hl1 : s.heap.IsList l1 xs) (hl2 : s.heap.IsList l2 ys) (hend : xs[k1]? = none ∨ ys[k2]? = none)
    (hE : ∀ h' e, (∀ c o, c ≠ z → c ≠ TO → c ≠ i1 → c ≠ i2 → s.heap.get? c = some o → h'.get? c = some o) → (∃ o, h'.get? e = some o ∧ o.cls = .type "StopIteration") → E (.ref e) { s with heap := h' }) :
    wpAny (model prog w) A (Builtin.«zip.__next__» ⟨[.ref z], []⟩) Q E s := by
  have nz := hot_ne_zip hot hz
  have nO := hot_ne_pair hot hTO
  have n1 := hot_ne_list hot h1
  show wpAny _ _ (field (.ref z) 2 >>= _) _ _ _
  refine wpAny_bind (wpAny_field hz rfl (x := .bool false) rfl ?_)
  show wpAny _ _ (field (.ref z) 3 >>= _) _ _ _
  refine wpAny_bind (wpAny_field hz rfl (x := .ref TI) rfl ?_)
  refine wpAny_bind (wpAny_seqItems hTI rfl ?_)
  show wpAny _ _ (Builtin.SmallTypes.ownedTupleIsFree (.ref z) >>= _) _ _ _
  refine wpAny_bind ?_
  unfold Builtin.SmallTypes.ownedTupleIsFree
  refine wpAny_bind (wpAny_field hz rfl (x := .none) rfl (wpAny_pure ?_))
  simp only [if_true]
  refine wpAny_bind (wpAny_rule ?_)
  refine wpAny_bind (wpAny_field hz rfl (x := .ref TO) rfl ?_)
  refine wpAny_bind (wpAny_setField_rec hz (by simp) fun h₁ hz₁ hs₁ => ?_)
  replace hz₁ : IsZip h₁ z TI TO .ellipsis := hz₁
  have t1 : HotAt A x1 h₁ := hot_to hot fun o q => hs₁.extBut _ _ nz q
  refine wpAny_bind ?_
  simp only [List.zipIdx_cons, List.zipIdx_nil, List.forIn_cons, List.forIn_nil]
  refine wpAny_bind (wpAny_bind (wpAny_onRaise ?_))
  show wpAny _ _ (Builtin.SmallTypes.nextOf (.ref i1) >>= _) _ _ _
  cases hx : xs[k1]? with
  | none =>
    refine wpAny_bind (nextOf_list_end_hot t1 (h1.extBut hs₁.extBut D.i1z) (hl1.extBut hs₁.extBut D.l1z) hx fun h₂ e hs₂ he => ?_)
    obtain ⟨oe, hoe, hce⟩ := he
    have hz₂ : IsZip h₂ z TI TO .ellipsis := hs₂ _ _ D.i1z.symm hz₁
    have hez : e ≠ z := fun x => by subst x; rw [hz₂] at hoe; cases hoe; simp at hce
    refine wpAny_setField_rec hz₂ (by simp) fun h₃ _ hs₃ => hE h₃ e (fun c o c1 _ c3 _ x => hs₃.extBut _ _ c1 (hs₂ _ _ c3 (hs₁.extBut _ _ c1 x))) ⟨oe, hs₃.extBut _ _ hez hoe, hce⟩
  | some x =>
    have hy : ys[k2]? = none := by rcases hend with h | h; rw [hx] at h; cases h; exact h
    refine wpAny_bind (wpAny_nextOf_list_item (h1.extBut hs₁.extBut D.i1z) (hl1.extBut hs₁.extBut D.l1z) hx fun h₂ h1₂ hs₂ => wpAny_pure ?_)
    have hTO₂ : IsPair h₂ TO a b := hs₂.extBut _ _ D.TOi1 (hs₁.extBut _ _ D.TOz hTO)
    refine wpAny_bind (wpAny_seqItems hTO₂ rfl ?_)
    refine wpAny_bind (wpAny_updateSeq_pair hTO₂ fun h₃ hTO₃ hs₃ => ?_)
    refine wpAny_bind (wpAny_letGo (wpAny_pure ?_))
    refine wpAny_bind (wpAny_bind (wpAny_onRaise ?_))
    show wpAny _ _ (Builtin.SmallTypes.nextOf (.ref i2) >>= _) _ _ _
    have t3 : HotAt A x1 h₃ := hot_to (hot_to t1 fun o q => hs₂.extBut _ _ n1 q) fun o q => hs₃.extBut _ _ nO q
    refine wpAny_bind (nextOf_list_end_hot t3 (((h2.extBut hs₁.extBut D.i2z).extBut hs₂.extBut D.i12.symm).extBut hs₃.extBut D.TOi2.symm)
      (((hl2.extBut hs₁.extBut D.l2z).extBut hs₂.extBut D.l2i1).extBut hs₃.extBut D.l2TO) hy fun h₄ e hs₄ he => ?_)
    obtain ⟨oe, hoe, hce⟩ := he
    have hz₄ : IsZip h₄ z TI TO .ellipsis := hs₄ _ _ D.i2z.symm (hs₃.extBut _ _ D.TOz.symm (hs₂.extBut _ _ D.i1z.symm hz₁))
    have hez : e ≠ z := fun x => by subst x; rw [hz₄] at hoe; cases hoe; simp at hce
    refine wpAny_setField_rec hz₄ (by simp) fun h₅ _ hs₅ => hE h₅ e (fun c o c1 c2 c3 c4 x => hs₅.extBut _ _ c1 (hs₄ _ _ c4 (hs₃.extBut _ _ c2 (hs₂.extBut _ _ c3 (hs₁.extBut _ _ c1 x))))) ⟨oe, hs₅.extBut _ _ hez hoe, hce⟩
theorem pyNext_zip_end_hot {z TI TO i1 i2 l1 l2 x1 : Addr} {k1 k2 : Nat} {xs ys : Array Value} {a b : Value} {Q : Option Value → Shared → Prop} (hot : HotAt A x1 s.heap) (D : ZipApart z TI TO i1 i2 l1 l2)
    (hz : IsZip s.heap z TI TO .none) (hTI : IsPair s.heap TI (.ref i1) (.ref i2)) (hTO : IsPair s.heap TO a b)
    (h1 : s.heap.IsListIter i1 l1 k1) (h2 : s.heap.IsListIter i2 l2 k2) (hl1 : s.heap.IsList l1 xs) (hl2 : s.heap.IsList l2 ys) (hend : xs[k1]? = none ∨ ys[k2]? = none)
    (hQ : ∀ h', (∀ c o, c ≠ z → c ≠ TO → c ≠ i1 → c ≠ i2 → s.heap.get? c = some o → h'.get? c = some o) → Q none { s with heap := h' }) : wpAny (model prog w) A (pyNext (.ref z)) Q E s := by
  have hT : s.TypeIs (.ref z) "zip" := ⟨_, hz, rfl⟩
  unfold pyNext
  refine wpAny_bind (wpAny_attempt (wpAny_callSpecial?_slot (name := Str.ofString "__next__") hT F.slot_zip_next
    (wpAny_call_entry F.slot_zip_next hT F.entry_zip_next (zip_next_end_hot hot D hz hTI hTO h1 h2 hl1 hl2 hend fun h' e hk he => ?_) (F.args_zip_next_1 _))))
  obtain ⟨o, ho, hc⟩ := he
  refine wpAny_bind (wpAny_isInstance (T := "StopIteration") (b := true) ⟨o, ho, hc⟩ isSubtype_stop ?_)
  exact wpAny_pure (hQ _ hk)
theorem next_tuple_end_hot {it t x1 : Addr} {i : Nat} {items : Array Value} {Q : Option Value → Shared → Prop} (hot : HotAt A x1 s.heap)
    (hit : IsTupIter s.heap it t i) (ht : IsTup s.heap t items) (hx : items[i]? = none)
    (hQ : ∀ h', Heap.ExtBut it s.heap h' → Q none { s with heap := h' }) : wpAny (model prog w) A (pyNext (.ref it)) Q E s := by
  have ne := hot_ne_tup hot hit
  obtain ⟨o, ho, hc, hd⟩ := id hit
  obtain ⟨ol, hol, _, nl, hdl⟩ := ht
  unfold pyNext
  refine wpAny_bind (wpAny_attempt (wpAny_callSpecial?_slot (name := Str.ofString "__next__") hit.typeIs slot_tupleiter_next
    (wpAny_call_entry slot_tupleiter_next hit.typeIs entry_tupleiter_next ?_ (args_tupleiter_next _))))
  show wpAny _ _ (field (.ref it) 0 >>= _) _ _ s
  refine wpAny_bind (wpAny_field ho hd (x := .ref t) rfl ?_)
  show wpAny _ _ (if (Value.ref t == Value.none) = true then _ else _) _ _ s
  rw [if_neg (show ¬ ((Value.ref t == Value.none) = true) from Bool.false_ne_true)]
  show wpAny _ _ (field (.ref it) 1 >>= _) _ _ s
  refine wpAny_bind (wpAny_field ho hd (x := .int i 0) rfl ?_)
  show wpAny _ _ (seqItems? (.ref t) >>= _) _ _ s
  refine wpAny_bind (wpAny_seqItems hol hdl ?_)
  simp only [Int.toNat_natCast, hx]
  refine wpAny_bind (wpAny_rule (wpAny_bind (wpAny_setField ho hd (by simp) ?_)))
  show wpAny _ _ (newExc (.type "StopIteration") [] >>= _) _ _ _
  refine wpAny_bind ?_
  simp only [newExc, newTuple]
  refine wpAny_bind (wpAny_newObj_type ?_ (by size_fits))
  refine wpAny_bind (m := firstArgMember _ _) (wpAny_of_eq (a := Value.none) (by first | rfl | (simp only [firstArgMember]; rfl)) ?_)
  refine wpAny_newObj_type ?_ (by size_fits)
  obtain ⟨hh, o1, vs1, h1, d1, c1⟩ := hot
  have h1' := Heap.get?_push_of_some { cls := .type "tuple", data := .seq (#[] : Array Value) } ((Heap.get?_update_other s.heap (Obj.mapFields (·.setIfInBounds 0 .none)) (Ne.symm ne)).trans h1)
  refine raiseNew_hot (x1 := x1) ⟨hh, o1, vs1, Heap.get?_push_of_some _ h1', d1, c1⟩ (Nat.ne_of_lt (Heap.lt_size h1')) (Heap.get?_push_size _ rfl) rfl (by first | (simp; done) | (simp; omega) | (simp only [Array.size_append]; simp; omega)) ?_
  refine wpAny_bind (wpAny_isInstance (T := "StopIteration") (b := true) ⟨_, Heap.get?_update_self _ (Heap.get?_push_size _ rfl) rfl, rfl⟩ isSubtype_stop ?_)
  refine wpAny_pure (hQ _ fun b o hb e => ?_)
  have e2 := Heap.get?_push_of_some { cls := .type "tuple", data := .seq (#[] : Array Value) } ((Heap.get?_update_other s.heap (Obj.mapFields (·.setIfInBounds 0 .none)) (Ne.symm hb)).trans e)
  exact (Heap.get?_update_other _ _ (Nat.ne_of_gt (Heap.lt_size e2))).trans (Heap.get?_push_of_some _ e2)
theorem unpackItems_tuple_hot {t x1 : Addr} {items : Array Value} {Q : List Value → Shared → Prop} (hot : HotAt A x1 s.heap) (ht : IsTup s.heap t items)
    (hQ : ∀ h', Heap.ExtBut s.heap.objs.size s.heap h' → Q items.toList { s with heap := h' }) : wpAny (model prog w) A (unpackItems (.ref t) items.size none) Q E s := by
  have hlt : t ≠ s.heap.objs.size := by obtain ⟨o, ho, _⟩ := ht; exact Nat.ne_of_lt (Heap.lt_size ho)
  have hl1 : x1 ≠ s.heap.objs.size := by obtain ⟨_, o, _, ho, _⟩ := hot; exact Nat.ne_of_lt (Heap.lt_size ho)
  unfold unpackItems
  refine wpAny_bind ?_
  · unfold notIterableAtAll
    refine wpAny_bind (wpAny_specialOf ht.typeIs slot_tuple_iter.lookup ?_)
    refine wpAny_pure ?_
    simp only [Bool.false_eq_true, if_false]
    refine wpAny_bind (wpAny_holding (iter_tuple ht ?_))
    refine wpAny_bind (wpAny_holding (draw_tuple hlt items.size 0 _ _ ⟨_, Heap.get?_push_size _ rfl, rfl, rfl⟩ (ht.push _) (by omega) fun h₁ hit₁ hs₁ => ?_))
    have hall : List.take items.size (List.drop 0 items.toList) = items.toList := by
      rw [List.drop_zero]; exact List.take_of_length_le (by simp)
    rw [hall]
    rw [if_neg (by simp)]
    have ht₁ : IsTup h₁ t items := (ht.push _).extBut hs₁.extBut hlt
    have hot1 : HotAt A x1 h₁ := hot_to hot fun o q => hs₁.extBut _ _ hl1 (Heap.get?_push_of_some _ q)
    refine wpAny_bind (wpAny_holding (next_tuple_end_hot hot1 hit₁ ht₁ (by simp) fun h₂ he₂ => ?_))
    simp only [Option.isSome_none, Bool.false_eq_true, if_false]
    refine wpAny_pure (hQ h₂ fun b o hb e => he₂ b o hb (hs₁.extBut b o hb (Heap.get?_push_of_some _ e)))
theorem assign_Tuple_tuple_hot {env : Env} {elts : List Expr} {k : Nat} {pos : Pos} {t x1 : Addr} {items : Array Value} {Q : Unit → Shared → Prop} (hot : HotAt A x1 s.heap) (ht : IsTup s.heap t items)
    (hn : (assignEach elts env).length = items.size) (hstar : (assignEach elts env).findIdx? (·.1) = none)
    (h : ∀ h', Heap.ExtBut s.heap.objs.size s.heap h' → wpAny (model prog w) A (assignInOrder ((assignEach elts env).map (·.2)) items.toList) Q E { s with heap := h' }) :
    wpAny (model prog w) A (assign (.Tuple elts k pos) env (.ref t)) Q E s := by
  rw [assign_Tuple]
  refine wpAny_bind (wpAny_standAt ?_)
  unfold unpack
  rw [hn, hstar]
  exact wpAny_bind (wpAny_holding (unpackItems_tuple_hot hot ht h))
end

/-! ### contexts where an exception is handled -/
/-- in each of its states the handled exception stands, its context None -/
def HotN (X : Cx) : Prop := ∀ (pins : List (Addr × Obj)) (σ : L2.St) (H : Hp) (s : Shared), L2.Inv X pins σ H s → ∃ x1, HotAt X.A x1 s.heap
theorem hotN_pin {X : Cx} (c : L2H.HotC X) : HotN X := fun _ _ _ _ I => c.at I
section
variable {X : Cx}
theorem pg_tupN {es : List Expr} {k : Nat} {t : TGs} {n : Nat} {pos : Pos} (hc : HotN X) (h : PGs X es t)
    (hn : (assignEach es X.env).length = n := by rfl) (hst : (assignEach es X.env).findIdx? (·.1) = none := by rfl) : PG X (.Tuple es k pos) (gTup X.K n t) := by
  refine ⟨fun pins s σ H v u Q I r hw => ?_⟩
  obtain ⟨a, xs, e1, hq, hl, hw⟩ := hw
  subst e1
  cases r
  obtain ⟨its, rv, ht, hz⟩ := I.tuple hq
  obtain ⟨x1, hot⟩ := hc pins σ H s I
  refine assign_Tuple_tuple_hot hot ht (by simp [hn, ← hl, rv.length]) hst fun h' hx => ?_
  have I1 : L2.Inv X pins σ H { s with heap := h' } := I.kept (t' := s.toks) fun b o e => hx b o (Nat.ne_of_lt (Heap.lt_size e)) e
  exact h.run pins _ σ H xs _ Q I1 (by simpa using rv) hw
end
/-- Turn's twin -/
structure TurnN (P : Program) (w : World) (K : PySem.W.Frag) (tg : Expr) (J : It) (fp : List Addr) (it : Addr) (tn : Nat → Heap → Prop) : Prop where
  mem : it ∈ fp
  obj : ∀ i h, tn i h → ∀ b ∈ fp, ∃ o, h.get? b = some o ∧ ∀ v, o.data ≠ .cell v
  keep : ∀ i h h', tn i h → (∀ b ∈ fp, ∀ o, h.get? b = some o → h'.get? b = some o) → tn i h'
  item : ∀ (X : Cx), X.prog = P → X.w = w → X.K = K → HotN X → ∀ (i : Nat) (pins : List (Addr × Obj)) (s : Shared) (σ : L2.St) (H : Hp) (E : Value → Shared → Prop), L2.Inv X pins σ H s → (∀ b ∈ fp, FpOk X pins H b) → tn i s.heap → J.go i H →
    wpAny (model P w) X.A (pyNext (.ref it)) (fun r s1 => ∃ u, r = some u ∧
      wpAny (model P w) X.A (letOwnedTupleGo tg (.ref it) u) (fun _ s2 => ∃ x H', L2.Inv X pins σ H' s2 ∧ RelV x u ∧ J.yld i H x H' ∧ tn (i + 1) s2.heap ∧ ∀ b ∈ fp, H' b = none) E s1) E s
  done : ∀ (X : Cx), X.prog = P → X.w = w → X.K = K → HotN X → ∀ (i : Nat) (pins : List (Addr × Obj)) (s : Shared) (σ : L2.St) (H : Hp) (E : Value → Shared → Prop), L2.Inv X pins σ H s → (∀ b ∈ fp, FpOk X pins H b) → tn i s.heap → J.stop i H →
    wpAny (model P w) X.A (pyNext (.ref it)) (fun r s1 => r = none ∧ L2.Inv X pins σ H s1) E s
  self : ∀ (A : Around) (i : Nat) (s : Shared) (Q : Value → Shared → Prop) (E : Value → Shared → Prop), tn i s.heap → Q (.ref it) s → wpAny (model P w) A (pyIter (.ref it)) Q E s
  ne : ∀ (A : Around) (i : Nat) (h : Heap) (x1 : Addr), tn i h → HotAt A x1 h → x1 ∉ fp
/-- p's object is the handled exception, it stays -/
def HotP (X : Cx) (p : Addr × Obj) : Prop := L2H.Hot1 X.A p ∧ ∀ (pins : List (Addr × Obj)) (σ : L2.St) (H : Hp) (s : Shared), L2.Inv X pins σ H s → s.heap.get? p.1 = some p.2 ∧ H p.1 = none ∧ p.1 ∉ frs X.stack
theorem HotP.hot {X : Cx} {p : Addr × Obj} (c : HotP X p) : HotN X := fun pins σ H s I => by
  obtain ⟨⟨hh, vs, d, e⟩, k⟩ := c
  exact ⟨p.1, hh, p.2, vs, (k pins σ H s I).1, d, e⟩
theorem hotP_pin {X : Cx} {p : Addr × Obj} (h1 : L2H.Hot1 X.A p) (h2 : p ∈ X.pn) : HotP X p := ⟨h1, fun pins σ H s I => by
  obtain ⟨e1, e2, e3, e4, _⟩ := I.pin p (List.mem_append_left _ h2)
  exact ⟨e1, e2, fun hm => (List.mem_cons.mp (I.stkSub p.1 hm)).elim e3 e4⟩⟩
theorem HotP.blk {X : Cx} {p : Addr × Obj} (c : HotP X p) {pins : List (Addr × Obj)} {σ : L2.St} {H : Hp} {s : Shared} (I : L2.Inv X pins σ H s) {scope : Scope} {ce : Env} {fp : List Addr} (nf : p.1 ∉ fp) : HotP (X.blk s H scope ce fp) p := by
  obtain ⟨h1, k⟩ := c
  obtain ⟨e1, e2, e3⟩ := k pins σ H s I
  exact ⟨h1, fun pins' σ' H' s' I' => ⟨I'.base.keep p.1 p.2 e1 e2 e3 nf, I'.base.free p.1 p.2 e1 e2 nf, e3⟩⟩
end Y
end
section
set_option Elab.async false
set_option linter.all false
set_option maxRecDepth 100000
set_option maxHeartbeats 4000000
namespace Y
open PySem PySem.Spec PyProof.Rows L2 HotX
theorem turn_zipN {P : Program} {w : World} {K : PySem.W.Frag} {elts : List Expr} {kk : Nat} {tpos : Pos} {a b z TI TO i1 i2 : Addr} (D : ZipApart z TI TO i1 i2 a b) :
    TurnN P w K (.Tuple elts kk tpos) (Itz K a b) [z, TI, TO, i1, i2] z (fun i h => IsZip h z TI TO .none ∧ IsPair h TI (.ref i1) (.ref i2) ∧ (∃ x y, IsPair h TO x y) ∧ h.IsListIter i1 a i ∧ h.IsListIter i2 b i) where
  mem := by simp
  obj := fun i h st c hc => by
    obtain ⟨hz, hTI, ⟨x, y, hTO⟩, ⟨o1, e1, _, d1⟩, ⟨o2, e2, _, d2⟩⟩ := st
    have e' : c = z ∨ c = TI ∨ c = TO ∨ c = i1 ∨ c = i2 := by simpa using hc
    rcases e' with q | q | q | q | q
    · rw [q]; exact ⟨_, hz, fun v q => nomatch q⟩
    · rw [q]; exact ⟨_, hTI, fun v q => nomatch q⟩
    · rw [q]; exact ⟨_, hTO, fun v q => nomatch q⟩
    · rw [q]; exact ⟨o1, e1, fun v q => by rw [d1] at q; cases q⟩
    · rw [q]; exact ⟨o2, e2, fun v q => by rw [d2] at q; cases q⟩
  keep := fun i h h' st k => by
    obtain ⟨hz, hTI, ⟨x, y, hTO⟩, h1, h2⟩ := st
    exact ⟨k z (by simp) _ hz, k TI (by simp) _ hTI, ⟨x, y, k TO (by simp) _ hTO⟩, h1.at fun o q => k i1 (by simp) o q, h2.at fun o q => k i2 (by simp) o q⟩
  item := by
    intro X hP hw hK hc i pins s σ H E I hf st hg
    subst hP hw hK
    obtain ⟨hz, hTI, ⟨x0, y0, hTO⟩, h1, h2⟩ := st
    obtain ⟨xs, ys, x, y, hqx, hqy, hx, hy⟩ := hg
    obtain ⟨its, rv, p, _⟩ := I.list hqx
    obtain ⟨its2, rv2, p2, _⟩ := I.list hqy
    obtain ⟨u, hu, ru⟩ := rv.get hx
    obtain ⟨u2, hu2, ru2⟩ := rv2.get hy
    have hzl : z < s.heap.objs.size := Heap.lt_size hz
    refine wpAny_pyNext_zip_item D hz hTI hTO h1 h2 p.isList p2.isList (x := u) (y := u2) (by simpa using hu) (by simpa using hu2) fun h' z' TO' h1' h2' hT hsz hk => ?_
    refine ⟨_, rfl, wpAny_letOwnedTupleGo_zip (s := { s with heap := h' }) z' fun h'' z'' sb => ?_⟩
    have hT2 : h''.get? s.heap.objs.size = some { cls := .type "tuple", data := .seq #[u, u2] } := (sb.2 _ (Nat.ne_of_gt hzl)).trans hT
    have new : ObjOk X.prog X.w (upd H s.heap.objs.size (.tup [x, y])) h'' s.heap.objs.size (.tup [x, y]) :=
      ⟨by show 2 ≤ sizeLine; decide, [u, u2], .cons ru (.cons ru2 .nil), ⟨_, hT2, rfl, _, rfl⟩⟩
    have I1 : L2.Inv X pins σ (upd H s.heap.objs.size (.tup [x, y])) { s with heap := h'' } :=
      I.turnedNew (t' := s.toks) (ch := [z, TI, TO, i1, i2]) (fun c o hb q => (sb.2 c (fun q' => hb (by simp [q']))).trans (hk c o (fun q' => hb (by simp [q'])) (fun q' => hb (by simp [q'])) (fun q' => hb (by simp [q'])) (fun q' => hb (by simp [q'])) q)) hf (Nat.le_refl _) new
    refine ⟨.ref s.heap.objs.size, _, I1, rfl, ⟨_, x, y, rfl, I.hok.fresh (Nat.le_refl _), rfl, fun l hl => by rw [I.list_inj hl hqx]; exact hx, fun l hl => by rw [I.list_inj hl hqy]; exact hy⟩, ⟨z'', ?_, ⟨u, u2, ?_⟩, ?_, ?_⟩, fun c hcm => ?_⟩
    · exact (sb.2 _ D.TIz).trans (hk _ _ D.TIz D.TITO D.TIi1 D.TIi2 hTI)
    · exact (sb.2 _ D.TOz).trans TO'
    · exact h1'.at fun o q => (sb.2 _ D.i1z).trans q
    · exact h2'.at fun o q => (sb.2 _ D.i2z).trans q
    · have hlt : c < s.heap.objs.size := by
        have e' : c = z ∨ c = TI ∨ c = TO ∨ c = i1 ∨ c = i2 := by simpa using hcm
        rcases e' with q | q | q | q | q
        · rw [q]; exact hzl
        · rw [q]; exact Heap.lt_size hTI
        · rw [q]; exact Heap.lt_size hTO
        · rw [q]; obtain ⟨_, e1, _⟩ := h1; exact Heap.lt_size e1
        · rw [q]; obtain ⟨_, e2, _⟩ := h2; exact Heap.lt_size e2
      rw [upd_ne (Nat.ne_of_lt hlt)]
      exact (hf c hcm).1
  done := by
    intro X hP hw hK hc i pins s σ H E I hf st hg
    subst hP hw hK
    obtain ⟨hz, hTI, ⟨x0, y0, hTO⟩, h1, h2⟩ := st
    obtain ⟨xs, ys, hqx, hqy, hend⟩ := hg
    obtain ⟨its, rv, p, _⟩ := I.list hqx
    obtain ⟨its2, rv2, p2, _⟩ := I.list hqy
    have l1 := rv.length
    have l2 := rv2.length
    have he : its.toArray[i]? = none ∨ its2.toArray[i]? = none := by
      rcases hend with q | q
      · exact .inl (by simp; omega)
      · exact .inr (by simp; omega)
    obtain ⟨x1, hot⟩ := hc pins σ H s I
    exact pyNext_zip_end_hot hot D hz hTI hTO h1 h2 p.isList p2.isList he fun h' hk => ⟨rfl, I.turnedL (t' := s.toks) (ch := [z, TI, TO, i1, i2]) (fun c o hb q =>
      hk c o (fun q' => hb (by simp [q'])) (fun q' => hb (by simp [q'])) (fun q' => hb (by simp [q'])) (fun q' => hb (by simp [q'])) q) hf⟩
  self := fun A i s Q E st h => wpAny_pyIter_zip st.1 h
  ne := fun A i h x1 st hot => by
    obtain ⟨hz, hTI, ⟨x, y, hTO⟩, h1, h2⟩ := st
    intro hc
    have e' : x1 = z ∨ x1 = TI ∨ x1 = TO ∨ x1 = i1 ∨ x1 = i2 := by simpa using hc
    rcases e' with q | q | q | q | q
    · exact hot_ne_zip hot hz q
    · exact hot_ne_pair hot hTI q
    · exact hot_ne_pair hot hTO q
    · exact hot_ne_list hot h1 q
    · exact hot_ne_list hot h2 q
def PIEN (X : Cx) (pins : List (Addr × Obj)) (σ : L2.St) (tg : Expr) (R : It → Hp → Prop) (itv : Value) (s2 : Shared) : Prop :=
  ∃ (it : Addr) (fp : List Addr) (tn : Nat → Heap → Prop) (J : It) (H' : Hp), itv = .ref it ∧ L2.Inv X pins σ H' s2 ∧ TurnN X.prog X.w X.K tg J fp it tn ∧ tn 0 s2.heap ∧ (∀ b ∈ fp, FpOk X pins H' b) ∧ R J H'
structure PIN (X : Cx) (tg iter : Expr) (wi : TI) : Prop where
  run : ∀ (pins : List (Addr × Obj)) (s : Shared) (σ : L2.St) (H : Hp) (R : It → Hp → Prop), L2.Inv X pins σ H s → wi σ H R →
    wpAny (model X.prog X.w) X.A (eval iter X.env) (fun v s1 => wpAny (model X.prog X.w) X.A (pyIter v) (PIEN X pins σ tg R) X.xe s1) X.xe s
theorem pi_zipN {X : Cx} {e e2 : Expr} {ta : TA} {p pos tpos : Pos} {elts : List Expr} {kk : Nat} (hg : Gl X "zip") (hm : X.mg "zip" = none) (ha : PA X [e, e2] ta)
    (hs : starEach [e, e2] X.env = (false, eval e X.env) :: starEach [e2] X.env := by rfl) (hpl : (backTo pos (starEach [e2] X.env)).any (·.1) = false := by rfl) :
    PIN X (.Tuple elts kk tpos) (.Call (.Name "zip" p) [e, e2] [] pos) (iZip X.K ta) := by
  refine ⟨fun pins s σ H R I h => ?_⟩
  refine Call_ (ld_blt I hg hm PyProof.Rows.boot_zip (PyProof.Rows.callWith_type1 (thn (ha.run pos pins s σ H _ I h) fun us s1 ⟨vs, H1, I1, r1, q1⟩ => ?_) hs hpl))
  obtain ⟨a, b, xs, ys, ex, hqx, hqy, q⟩ := q1
  subst ex
  cases r1 with
  | cons r rr =>
    cases rr with
    | cons r' rr =>
      cases rr
      cases r
      cases r'
      obtain ⟨its, rv, p1, _⟩ := I1.list hqx
      obtain ⟨its2, rv2, p2, _⟩ := I1.list hqy
      have la : a < s1.heap.objs.size := p1.lt
      have lb : b < s1.heap.objs.size := p2.lt
      refine call_zip_2 p1.isList p2.isList fun h' hz hTI hTO h1 h2 hsz hk => wpAny_pyIter_zip hz ?_
      have I2 : L2.Inv X pins σ H1 { s1 with heap := h' } := I1.kept (t' := s1.toks) hk
      refine ⟨s1.heap.objs.size + 4, [s1.heap.objs.size + 4, s1.heap.objs.size + 2, s1.heap.objs.size + 3, s1.heap.objs.size, s1.heap.objs.size + 1], _, _, H1, rfl, I2, turn_zipN (PySem.W.ktu_apart s1.heap.objs.size a b la lb), ⟨hz, hTI, ⟨_, _, hTO⟩, h1, h2⟩, fun c hcm => ?_, q⟩
      have e' : c = s1.heap.objs.size + 4 ∨ c = s1.heap.objs.size + 2 ∨ c = s1.heap.objs.size + 3 ∨ c = s1.heap.objs.size ∨ c = s1.heap.objs.size + 1 := by simpa using hcm
      have hle : s1.heap.objs.size ≤ c := by
        rcases e' with z | z | z | z | z
        · rw [z]; exact Nat.le_add_right _ _
        · rw [z]; exact Nat.le_add_right _ _
        · rw [z]; exact Nat.le_add_right _ _
        · rw [z]; exact Nat.le_refl _
        · rw [z]; exact Nat.le_add_right _ _
      exact I1.fpOk hle (I1.hok.fresh hle)
section
variable {X : Cx}
theorem lc_coreN {pins : List (Addr × Obj)} {s : Shared} {σ : L2.St} {H : Hp} {Q : VK} {p0 : Addr × Obj} {elt tg iter : Expr} {ifs : List Expr} {scope : Scope} {own : List (Str × Nat)} {pos pos' : Pos} {wi : TI} {g : TG} {tt : TT} {te : TE} {use : Option (Value → Sem Unit)} {Qf : Value → Shared → Prop}
    (hc : HotP X p0) (hN : X.N.Nodup) (I : L2.Inv X pins σ H s) (hi : PIN X tg iter wi) (ok : BlkOk X.N X.env.scope scope own)
    (hg : ∀ (s : Shared) (H : Hp) (C : Addr) (cl : List (Str × Addr)) (fp : List Addr), HotP (X.blk s H scope (compEnvC scope cl C X.env) fp) p0 → PG (X.blk s H scope (compEnvC scope cl C X.env) fp) tg g) (ht : ∀ (s : Shared) (H : Hp) (C : Addr) (cl : List (Str × Addr)) (fp : List Addr), HotP (X.blk s H scope (compEnvC scope cl C X.env) fp) p0 → PTs (X.blk s H scope (compEnvC scope cl C X.env) fp) ifs tt)
    (he : ∀ (s : Shared) (H : Hp) (C : Addr) (cl : List (Str × Addr)) (fp : List Addr), HotP (X.blk s H scope (compEnvC scope cl C X.env) fp) p0 → PE (X.blk s H scope (compEnvC scope cl C X.env) fp) elt te) (hs : ∀ x, foldedSetIterable iter X.env x = pure x)
    (h : tLc wi g tt te (own.map (·.2)) σ H Q)
    (hRR : ∀ D C s' m H', L2.Inv X pins σ H' s' → Q (.ref D) H' → s'.heap.Ns C m → FpOk X pins H' C → compPost (model X.prog X.w) X.A X.xe use Qf (.ref D) C (.ok .next) s') :
    wpAny (model X.prog X.w) X.A (comprehension (.ListComp elt [⟨tg, iter, ifs, 0⟩] scope pos) scope X.env pos' (newList []) false (eval iter X.env) use) Qf X.xe s := by
  have hfree : ∀ y ∈ scope.names, y.2 = .free → ∃ c, X.env.cells.lookup y.1 = some c := fun y hy e => by
    rcases ok.free y hy e with k | k
    · exact I.ok.has _ (.inl k)
    · exact I.ok.has _ (.inr k)
  refine wpAny_comprehension_free (use := use) rfl hs (closure_ok hfree) ok.kind (fun y hy e => by rw [ok.uniq y hy, e])
    (thn (hi.run pins s σ H _ I h) fun xv s1 hx => thn hx fun itv s2 h2 => ?_)
  obtain ⟨it, fp, tn, J, H2, e, I2, T, st2, f2, q⟩ := h2
  subst e
  refine wpAny_newObj_type (newEnv_comp ?_) (by show 0 ≤ sizeLine; decide)
  generalize hD : s2.heap.objs.size = D
  have hDn : H2 D = none := I2.hok.fresh (Nat.le_of_eq hD)
  obtain ⟨W, ⟨m0, w0⟩, turn⟩ := q D hDn
  -- the new list
  generalize hs3 : ({ s2 with heap := s2.heap.push { cls := .type "list", data := .seq ([] : List Value).toArray } } : Shared) = s3
  have I3 : L2.Inv X pins σ (upd H2 D (.lst [])) s3 := by
    rw [← hs3]
    refine I2.laid (t' := s2.toks) (fun b o e => Heap.get?_push_of_some _ e) (Nat.le_of_eq hD) ⟨Nat.zero_le _, [], 0, .nil, ?_⟩
    rw [← hD]
    exact Heap.get?_push_size _ rfl
  have h3 : s3.heap = s2.heap.push { cls := .type "list", data := .seq ([] : List Value).toArray } := by rw [← hs3]
  have sz : ∀ b ∈ fp, b < s2.heap.objs.size := fun b hb => by
    obtain ⟨o, e, _⟩ := T.obj _ _ st2 b hb
    exact Heap.lt_size e
  have f3 : ∀ b ∈ fp, FpOk X pins (upd H2 D (.lst [])) b ∧ b < s3.heap.objs.size := fun b hb => by
    have hlt := sz b hb
    refine ⟨⟨?_, (f2 b hb).2⟩, by rw [h3, Heap.size_push]; exact Nat.lt_succ_of_lt hlt⟩
    rw [upd_ne (by rw [← hD]; exact Nat.ne_of_lt hlt)]
    exact (f2 b hb).1
  have st3 : tn 0 s3.heap := T.keep _ _ _ st2 fun b _ o e => by rw [h3]; exact Heap.get?_push_of_some _ e
  have I4 := block_start I3 ok hN f3
  have nfx : p0.1 ∉ fp := by
    obtain ⟨⟨hh, vs, d, e⟩, k⟩ := id hc
    exact T.ne X.A 0 s3.heap p0.1 st3 ⟨hh, p0.2, vs, (k pins σ _ s3 I3).1, d, e⟩
  have hB := fun ce => hc.blk I3 (scope := scope) (ce := ce) nfx
  have pg := hg s3 (upd H2 D (.lst [])) s3.heap.objs.size (cellsFrom (s3.heap.objs.size + 1) scope.names (cloFrom X.env.cells scope.names [])) fp (hB _)
  have pt := ht s3 (upd H2 D (.lst [])) s3.heap.objs.size (cellsFrom (s3.heap.objs.size + 1) scope.names (cloFrom X.env.cells scope.names [])) fp (hB _)
  have pe := he s3 (upd H2 D (.lst [])) s3.heap.objs.size (cellsFrom (s3.heap.objs.size + 1) scope.names (cloFrom X.env.cells scope.names [])) fp (hB _)
  show codeAny _ _ (.compStart (.ListComp elt [⟨tg, iter, ifs, 0⟩] scope pos) 0 (.ref it) (.ref D) (compEnvC scope (cellsFrom (s3.heap.objs.size + 1) scope.names (cloFrom X.env.cells scope.names [])) s3.heap.objs.size X.env)) (compPost (model X.prog X.w) X.A X.xe use Qf (.ref D) s3.heap.objs.size) { s3 with heap := pushCells (s3.heap.push { cls := .type "dict", data := .dict #[] }) scope.names }
  have nfp : ∀ b ∈ fp, (upd H2 D (.lst [])) b = none := fun b hb => (f3 b hb).1.1
  generalize hce : compEnvC scope (cellsFrom (s3.heap.objs.size + 1) scope.names (cloFrom X.env.cells scope.names [])) s3.heap.objs.size X.env = ce at I4 pg pt pe ⊢
  have cL : ce.locals = s3.heap.objs.size := by subst hce; rfl
  generalize hH3 : upd H2 D (.lst []) = H3 at I3 I4 pg pt pe w0 nfp f3 hB
  generalize hs4 : ({ s3 with heap := pushCells (s3.heap.push { cls := .type "dict", data := .dict #[] }) scope.names } : Shared) = s4 at I4 ⊢
  have st4 : tn 0 s4.heap := T.keep _ _ _ st3 fun b _ o e => by rw [← hs4]; exact pushCells_keeps _ _ _ _ (Heap.get?_push_of_some _ e)
  have stat : ∀ {σ' : L2.St} {H' : Hp} {s' : Shared}, L2.Inv (X.blk s3 H3 scope ce fp) [] σ' H' s' → (∀ b ∈ fp, H' b = none) → ∀ b ∈ fp, FpOk (X.blk s3 H3 scope ce fp) [] H' b := fun {σ' H' s'} I' hn b hb =>
    ⟨hn b hb, (I'.ok.exf b hb).1, I'.ok.exfs b hb, .inl hb, fun x c e => (I'.ok.exf b hb).2 x c e, fun p hp => absurd (show p ∈ ([] : List (Addr × Obj)) ++ [] from hp) (by simp)⟩
  have loop : codeAny (model X.prog X.w) X.A (.compLoop (.ListComp elt [⟨tg, iter, ifs, 0⟩] scope pos) 0 (.ref it) (.ref D) ce) (compPost (model X.prog X.w) X.A X.xe use Qf (.ref D) s3.heap.objs.size) s4 := by
    refine compLoop_any (fun n s' => ∃ i H', L2.Inv (X.blk s3 H3 scope ce fp) [] (wipe σ (own.map (·.2))) H' s' ∧ tn i s'.heap ∧ (∀ b ∈ fp, H' b = none) ∧ W i n H') ?_ m0 ⟨0, H3, I4, st4, nfp, w0⟩
    rintro n s5 ⟨i, H5, I5, st5, n5, w5⟩
    rcases turn i n H5 w5 with ⟨stop, qq⟩ | ⟨go, Nx, hNx, step⟩
    · have td := T.done (X.blk s3 H3 scope ce fp) rfl rfl rfl (hB ce).hot i [] s5 _ H5 (fun _ _ => False) I5 (stat I5 n5) st5 stop
      refine thnF td fun r s6 ⟨hr, I6⟩ => ?_
      subst hr
      -- back in the def's context
      have I7 : L2.Inv X pins σ H5 s6 := I3.call' (ch := fp) I6.os I6.base I6.hok I6.bare fun b hb => ⟨(f3 b hb).1.2.2.2.1, (f3 b hb).1.2.1, (f3 b hb).1.2.2.2.2.1, (f3 b hb).1.2.2.2.2.2⟩
      have nC : H5 s3.heap.objs.size = none := by
        have z : H5 ce.locals = none := I6.free
        rw [cL] at z
        exact z
      obtain ⟨m, hn, _⟩ := I6.loc
      have hn : s6.heap.Ns ce.locals m := hn
      rw [cL] at hn
      exact hRR D s3.heap.objs.size s6 m H5 I7 qq hn (I3.fpOk (Nat.le_refl _) nC)
    · have ti := T.item (X.blk s3 H3 scope ce fp) rfl rfl rfl (hB ce).hot i [] s5 _ H5 (fun _ _ => False) I5 (stat I5 n5) st5 go
      refine thnF ti fun r s6 ⟨u, hr, h6⟩ => ?_
      subst hr
      refine thnF h6 fun _ s7 ⟨x, H7, I7, r7, y7, st7, n7⟩ => ?_
      have I7' := I7.pinned (stat I7 n7) (T.obj _ _ st7)
      refine thnF (pg.run _ s7 _ H7 x u _ I7' r7 (step x H7 y7)) fun _ s8 ⟨σ8, H8, I8, hw8, q8⟩ => ?_
      refine thnF (pt.run _ s8 σ8 H8 _ I8 q8) fun b s9 ⟨H9, I9, q9⟩ => ?_
      -- the turn's end
      have fin : ∀ {s' : Shared} {H' : Hp}, L2.Inv (X.blk s3 H3 scope ce fp) ([] ++ pinsAt fp s7.heap) σ8 H' s' → Nx H' → ∃ m, m < n ∧ ∃ i H', L2.Inv (X.blk s3 H3 scope ce fp) [] (wipe σ (own.map (·.2))) H' s' ∧ tn i s'.heap ∧ (∀ b ∈ fp, H' b = none) ∧ W i m H' := fun {s' H'} I' nx => by
        obtain ⟨m', hm, w'⟩ := hNx H' nx
        have pin' : ∀ b ∈ fp, ∀ o, s7.heap.get? b = some o → s'.heap.get? b = some o ∧ H' b = none := fun b hb o e =>
          let z := I'.pin (b, o) (List.mem_append_right _ (List.mem_append_right _ (mem_pinsAt hb e)))
          ⟨z.1, z.2.1⟩
        have hl : (wipe σ (own.map (·.2))).length = σ8.length := by rw [← hw8, wipe_length]
        refine ⟨m', hm, i + 1, H', (I'.unpinned (pins := [])).weak hl (fun j v e => ?_), T.keep _ _ _ st7 fun b hb o e => (pin' b hb o e).1, fun b hb => ?_, w'⟩
        · rw [← hw8] at e
          exact (wipe_some e).1
        · obtain ⟨o, e, _⟩ := T.obj _ _ st7 b hb
          exact (pin' b hb o e).2
      cases b with
      | false =>
        simp only [Bool.false_eq_true, if_false] at q9 ⊢
        exact fin I9 q9
      | true =>
        simp only [if_true] at q9 ⊢
        refine thnF (pe.run _ s9 σ8 H9 _ I9 q9) fun z s10 ⟨yv, H10, I10, r10, acc, hD10, hz10, nx⟩ => ?_
        exact app_ok (X := X.blk s3 H3 scope ce fp) I10 hD10 hz10 r10 fun s11 I11 => fin I11 nx
  exact codeAny_compStart_list loop (T.self X.A 0 _ _ _ st4 loop)
/-- as a value -/
theorem pe_lcN {p0 : Addr × Obj} {elt tg iter : Expr} {ifs : List Expr} {scope : Scope} {own : List (Str × Nat)} {pos : Pos} {wi : TI} {g : TG} {tt : TT} {te : TE} (hc : HotP X p0) (hN : X.N.Nodup) (hi : PIN X tg iter wi) (ok : BlkOk X.N X.env.scope scope own)
    (hg : ∀ (s : Shared) (H : Hp) (C : Addr) (cl : List (Str × Addr)) (fp : List Addr), HotP (X.blk s H scope (compEnvC scope cl C X.env) fp) p0 → PG (X.blk s H scope (compEnvC scope cl C X.env) fp) tg g) (ht : ∀ (s : Shared) (H : Hp) (C : Addr) (cl : List (Str × Addr)) (fp : List Addr), HotP (X.blk s H scope (compEnvC scope cl C X.env) fp) p0 → PTs (X.blk s H scope (compEnvC scope cl C X.env) fp) ifs tt)
    (he : ∀ (s : Shared) (H : Hp) (C : Addr) (cl : List (Str × Addr)) (fp : List Addr), HotP (X.blk s H scope (compEnvC scope cl C X.env) fp) p0 → PE (X.blk s H scope (compEnvC scope cl C X.env) fp) elt te) (hs : ∀ x, foldedSetIterable iter X.env x = pure x := by intro _; rfl) :
    PE X (.ListComp elt [⟨tg, iter, ifs, 0⟩] scope pos) (tLc wi g tt te (own.map (·.2))) := by
  refine ⟨fun pins s σ H Q I h => ?_⟩
  rw [eval_ListComp]
  refine lc_coreN hc hN I hi ok hg ht he hs h fun D C s' m H' I' q hn f => ⟨m, hn, fun h'' sb => ?_⟩
  obtain ⟨f0, f1, f2, f3, f4, f5⟩ := f
  exact ⟨.ref D, H', I'.turned (t' := s'.toks) (fun b o hb e => (sb.2 b hb).trans e) f0 f1 f3 f4 f5, rfl, q⟩
end
end Y
end
section
set_option Elab.async false
set_option linter.all false
set_option maxRecDepth 100000
set_option maxHeartbeats 4000000
noncomputable section
namespace Y
open PySem PySem.Spec PyProof.Rows L2 HotX
open Classical
/-! ### zip, comprehension where an exception is handled -/
abbrev IDN (X : Cx) (W : WX) (tg e : Expr) (d : DI) : Prop := PIN X tg e (rdI X.K W d)
section
variable {X : Cx} {W : WX}
theorem id_zipN {a b : Expr} {da db : DE} {p pos tpos : Pos} {elts : List Expr} {kk : Nat} (hg : Gl X "zip") (hm : X.mg "zip" = none) (ha : ED X W a da) (hb : ED X W b db)
    (hs : starEach [a, b] X.env = (false, eval a X.env) :: starEach [b] X.env := by rfl) (hs2 : starEach [b] X.env = (false, eval b X.env) :: starEach [] X.env := by rfl) (hpl : (backTo pos (starEach [b] X.env)).any (·.1) = false := by rfl) :
    IDN X W (.Tuple elts kk tpos) (.Call (.Name "zip" p) [a, b] [] pos) (dZip da db) := by
  refine ⟨fun pins s σ H P I h => (pi_zipN hg hm (pa_cons ha (pa_cons hb pa_nil hs2) hs) hs hpl).run pins s σ H P I ?_⟩
  obtain ⟨w, ρ, R, A, p⟩ := h
  refine ⟨w, ρ, R, A, (Post.bind p).imp fun x R1 p1 v w1 H1 l1 W1 r1 => ?_⟩
  refine ⟨w1, ρ, R1, A.step l1 W1, (Post.bind p1).mono l1 fun y R2 p2 u w2 H2 l2 W2 r2 => ?_⟩
  cases e1 : lstR R2 x with
  | none => rw [e1] at p2; exact p2.elim
  | some xs =>
    cases e2 : lstR R2 y with
    | none => rw [e1, e2] at p2; exact p2.elim
    | some ys =>
      rw [e1, e2] at p2
      have p2 : Post X.K W w H σ (if xs.length ≤ sizeLine then .ok ((xs.zip ys).map (fun p => D.tup [p.1, p.2]), fun R' => okAt R2 x R' ∧ okAt R2 y R') R2 else .stuck) (IPost X.K w H P) := p2
      by_cases c : xs.length ≤ sizeLine
      · rw [if_pos c] at p2
        have p2 : IPost X.K w H P ((xs.zip ys).map (fun p => D.tup [p.1, p.2]), fun R' => okAt R2 x R' ∧ okAt R2 y R') R2 := p2
        have r1' := r1.mono l2.le
        obtain ⟨a1, vs, rfl, h1, _⟩ := lstR_rel W2 r1' e1
        obtain ⟨b1, us, rfl, h2, _⟩ := lstR_rel W2 r2 e2
        exact ⟨a1, b1, vs, us, rfl, h1, h2, p2 _ w2 H2 (l1.trans l2) W2 (its_zip W2 r1' e1 r2 e2) (by rw [List.length_map, List.length_zip]; omega)⟩
      · rw [if_neg c] at p2; exact p2.elim
theorem fl_lcN {p0 : Addr × Obj} {tg iter elt : Expr} {ifs : List Expr} {scope : Scope} {own : List (Str × Nat)} {t : Tg} {di : DI} {tt : DT} {de : DE} {pos : Pos} (hc : HotP X p0) (hN : X.N.Nodup) (hi : IDN X W tg iter di) (ok : BlkOk X.N X.env.scope scope own) (ho : own.map (·.2) = t.vs)
    (hg : ∀ (s : Shared) (H : Hp) (C : Addr) (cl : List (Str × Addr)) (fp : List Addr), HotP (X.blk s H scope (compEnvC scope cl C X.env) fp) p0 → PG (X.blk s H scope (compEnvC scope cl C X.env) fp) tg (t.g X.K))
    (ht : ∀ (s : Shared) (H : Hp) (C : Addr) (cl : List (Str × Addr)) (fp : List Addr), HotP (X.blk s H scope (compEnvC scope cl C X.env) fp) p0 → PTsD (X.blk s H scope (compEnvC scope cl C X.env) fp) W0 ifs tt)
    (he : ∀ (s : Shared) (H : Hp) (C : Addr) (cl : List (Str × Addr)) (fp : List Addr), HotP (X.blk s H scope (compEnvC scope cl C X.env) fp) p0 → ED (X.blk s H scope (compEnvC scope cl C X.env) fp) W0 elt de) (hs : ∀ x, foldedSetIterable iter X.env x = pure x := by intro _; rfl) :
    FL X W (.ListComp elt [⟨tg, iter, ifs, 0⟩] scope pos) (dLc t di tt de) :=
  PEimp (pe_lcN hc hN hi ok hg ht he hs) fun σ H Q h => by rw [ho]; exact rd_lc h
end

/-! ### isinstance(e, C), e the handled exception -/
def dIsE (K : PySem.W.Frag) (Dc a : Addr) (cv : Value) (e : DE) : DE := fun ρ R => (e ρ R).bind fun x R1 => match x with
  | .obj b => if b = a then match PySem.W.kitOne K (.ref Dc) cv with
    | some t => .ok (.bl t) R1
    | none => .stuck
    else .stuck
  | _ => .stuck
section
variable {X : Cx} {W : WX} {e e2 : Expr} {d : DE}
theorem ed_isE {p0 : Addr × Obj} {Dc : Addr} {c : V} {cv : Value} {p pos : Pos} (hc : HotP X p0) (C : ExcC X.K Dc) (hz : Zc (.ref Dc) none p0.2) (hg : Gl X "isinstance") (hm : X.mg "isinstance" = none) (ha : ED X W e d) (h2 : PE X e2 (tC c)) (hcv : ∀ u, RelV c u → u = cv)
    (hs : starEach [e, e2] X.env = (false, eval e X.env) :: starEach [e2] X.env := by rfl) (hs2 : starEach [e2] X.env = (false, eval e2 X.env) :: starEach [] X.env := by rfl) (hp : ((backTo pos (starEach [e2] X.env)).any fun x => x.1) = false := by rfl) :
    ED X W (.Call (.Name "isinstance" p) [e, e2] [] pos) (dIsE X.K Dc p0.1 cv d) := by
  have pa := pa_cons (X := X) ha (pa_cons h2 pa_nil hs2) hs
  have ci : CallR X (.builtin "isinstance") fun xs H Q => ∃ b, xs = [.ref p0.1, c] ∧ PySem.W.kitOne X.K (.ref Dc) cv = some b ∧ Q (.bl b) H := by
    intro pins s σ H xs us Q I r h
    obtain ⟨b, rfl, e, q⟩ := h
    obtain ⟨u1, u2, rfl, q1, q2⟩ := vals2 r
    cases q1
    have ec := hcv _ q2
    subst ec
    obtain ⟨⟨hh, vs, hv, _⟩, k⟩ := hc
    obtain ⟨hget, _⟩ := k pins σ H s I
    have J : PySem.W.InstAt s.heap p0.1 p0.2 Dc none := by
      obtain ⟨a, oc, od, oda, osl⟩ := p0
      obtain ⟨h1, h2⟩ := hz
      dsimp only at h1 h2 hv
      subst h1 h2 hv
      exact ⟨hget, rfl, rfl, trivial⟩
    exact PySem.W.kia_one (PySem.W.handS_kitx_exc C.hg C.hk C.hs C.hd C.ha C.hn C.ht C.hm) I.kIn J e (fun z => nomatch z) fun tk => ⟨.bl b, H, I.kept (t' := tk) fun _ _ z => z, rfl, q⟩
  refine PEimp (pe_callB ci hg hm (by decide +kernel) pa (by decide) (by decide) hs hp) fun σ H Q h => ?_
  obtain ⟨w, ρ, R, A, p⟩ := h
  refine ⟨w, ρ, R, A, p.bind.imp fun x R1 p1 v w1 H1 l1 W1 r1 => ?_⟩
  cases x with
  | obj b =>
    by_cases c : b = p0.1
    · simp only [if_pos c] at p1
      cases e3 : PySem.W.kitOne X.K (.ref Dc) cv with
      | none => rw [e3] at p1; exact p1.elim
      | some t => rw [e3] at p1; exact (by
          subst c
          cases r1
          exact ⟨t, rfl, rfl, p1 (.bl t) w1 H1 l1 W1 (.bl t)⟩)
    · simp only [if_neg c] at p1; exact p1.elim
  | _ => exact p1.elim
end
end Y
end
end
section
set_option Elab.async false
set_option linter.all false
set_option maxRecDepth 100000
set_option maxHeartbeats 4000000
noncomputable section
namespace Y
open PySem PySem.Spec PyProof.Rows L2 HotX L2H
open Classical
/-! ### defs called while an exception is handled; they are told its class and address -/
structure FnE (P : Program) (w : World) (K : PySem.W.Frag) (mg : Str → Option Value) (base : Heap) (k : Nat) (f : Addr) (fd : FuncData) (ps : List Str) (g : Addr → Addr → List D → Wd → Rs D) : Prop where
  go : ∀ (A : Around) (out : List Env) (s : Shared) (H : Hp) (args : Args) (us : List Value) (vs : List V) (Q : VK) (E : XK) (p : Addr × Obj) (Dc : Addr), A.guards = some [] → RoomH k A → Hot1 A p → Zc (.ref Dc) none p.2 → ExcC K Dc → PinOk out H s p →
    Env0 P w K mg base A out s H → BindsTo s fd args (ps.zip us) → Vals vs us → spD K ps.length (g Dc p.1) vs H Q E → codeAny (model P w) A (.call (.ref f) args) (CR (L2N.CX P w) out P w H s Q E) s
/-- what every such context gives -/
structure OkH (X : Cx) (W : WX) (k : Nat) (p : Addr × Obj) (Dc : Addr) : Prop where
  room : RoomH k X.A
  grd : X.A.guards = some []
  tk : L2N.Takes X W
  sm : SM X.base
  hot : HotP X p
  zc : Zc (.ref Dc) none p.2
  xc : ExcC X.K Dc
theorem OkH.un {X : Cx} {W : WX} {k : Nat} {p : Addr × Obj} {Dc : Addr} (O : OkH X W k p Dc) : X.A.units + 65 < cLine := by have := O.room.un; omega
theorem OkH.blk {X : Cx} {W : WX} {k : Nat} {p : Addr × Obj} {Dc : Addr} (O : OkH X W k p Dc) (s : Shared) (H : Hp) (scope : Scope) (cenv : Env) (fp : List Addr) (h : HotP (X.blk s H scope cenv fp) p) : OkH (X.blk s H scope cenv fp) W0 k p Dc :=
  ⟨O.room, O.grd, fun u s' x => by obtain ⟨_, _, _, _, _, _, _, _, _, _, _, _, _, _, _, _, z⟩ := x; exact z, O.sm, h, O.zc, O.xc⟩
abbrev CxE (P : Program) (w : World) (K : PySem.W.Frag) (mg : Str → Option Value) (base : Heap) (N : List Str) (qual : Str) (scope : Scope) (f : Addr) (cdv : Value) (A : Around) (outer : List Env) (s : Shared) (H : Hp) (E : XK) (p : Addr × Obj) : Cx := cxH (L2N.CX P w) P w K mg base N qual scope f cdv A outer s H E p
section
variable {P : Program} {w : World} {K : PySem.W.Frag} {mg : Str → Option Value} {base : Heap} {x qual : Str} {params : Arguments} {body : List Stmt} {scope : Scope} {dvs : List V} {kws : List (Str × V)} {f : Addr} {fd : FuncData}
/-- a body's denotation meets a def's promise -/
theorem spD_rd {N : List Str} {n : Nat} {m : Mode} {db : DS} {vs : List V} {H : Hp} {Q : VK} {E : XK} (hsp : spD K n (fnD N.length m db) vs H Q E) : rdS K (WD E) db { nx := fun _ H' => Q .non H', rt := Q } (L2.start N vs) H := by
  obtain ⟨_, w, R, ds, W, r, q⟩ := hsp
  have SS : RelS K w (L2.start N vs) (startR N.length ds) := relS_start r N
  refine ⟨w, _, R, ⟨W, SS⟩, ?_⟩
  have q : match (match db (startR N.length ds) R with
      | .rt d R' => fin R R' d m
      | .nx _ R' => fin R R' .non m
      | .exc c _ R' => finX R R' c
      | _ => .stuck) with
    | .ok x R' => Ret K w H R' x Q
    | .exc c R' => ∀ o w' H', Stp w H w' H' → WR K w' H' R' → ExR K w' H' c o → E (.ref c.cls) o H'
    | .stuck => False := q
  have fine : ∀ (R' : Wd) (d : D), (match fin R R' d m with
    | .ok x R' => Ret K w H R' x Q
    | .exc c R' => ∀ o w' H', Stp w H w' H' → WR K w' H' R' → ExR K w' H' c o → E (.ref c.cls) o H'
    | .stuck => False) → Ret K w H R' d Q := fun R' d q => fin_ret W (by
      cases e : fin R R' d m with
      | ok x R2 => rw [e] at q; exact q
      | stuck => rw [e] at q; exact q
      | exc c R2 =>
        exact (fin_noexc e).elim)
  cases e : db (startR N.length ds) R with
  | rt d R' => rw [e] at q; exact fine R' d q
  | nx ρ' R' => rw [e] at q; exact fun σ w' H' l A' => fine R' .non q .non w' H' l A'.W .non
  | bk ρ' R' => rw [e] at q; exact q.elim
  | ct ρ' R' => rw [e] at q; exact q.elim
  | stuck => rw [e] at q; exact q.elim
  | exc c ρ' R' =>
    rw [e] at q
    have q : match finX R R' c with
      | .ok x R' => Ret K w H R' x Q
      | .exc c R' => ∀ o w' H', Stp w H w' H' → WR K w' H' R' → ExR K w' H' c o → E (.ref c.cls) o H'
      | .stuck => False := q
    unfold finX at q
    by_cases cc : Clean R R' ∧ (∀ fs, c.pay = some fs → ∀ p ∈ fs, Bl R.length p.2)
    · rw [if_pos cc] at q
      intro σ' w1 H1 l1 s1 o w2 H2 l2 W2 ex
      refine q o (w2.cut R.length) H2 ((l1.trans l2).cut W (Nat.le_refl _)) (W2.cut cc.1.1 (cc.1.bl W)) ?_
      cases o with
      | none => exact ex
      | some d =>
        obtain ⟨fs, fv, e1, e2, e3⟩ := ex
        exact ⟨fs, fv, e1, e2, e3.1, e3.2.cut (bls_iff.mpr fun x hx => by obtain ⟨p, hp, rfl⟩ := List.mem_map.mp hx; exact cc.2 fs e1 p hp)⟩
    · rw [if_neg cc] at q; exact q.elim
theorem ok_defE {N ps : List Str} {k : Nat} {m : Mode} {db : Addr → Addr → DS} (F : FunD K x qual params body scope dvs kws f fd) (S : FnScope N ps scope)
    (h : ∀ (cdv : Value) (A : Around) (outer : List Env) (s : Shared) (H : Hp) (E : XK) (p : Addr × Obj) (Dc : Addr), OkH (CxE P w K mg base N qual scope f cdv A outer s H E p) (WD E) k p Dc → SsD (CxE P w K mg base N qual scope f cdv A outer s H E p) (WD E) body (db Dc p.1)) (sm : SM base) :
    FnE P w K mg base (k + 1) f fd ps (fun Dc a => fnD N.length m (db Dc a)) := by
  obtain ⟨oc, od, dV, kV, doc, pm, an, cdv, ct, osl, rfl, lk, code, _, _⟩ := F.ex
  refine ⟨fun A out s H args us vs Q E p Dc hG hr hot zc xc hpin e0 bd rv sv => ?_⟩
  have inK : K.In s.heap := e0.mod.kin.keeps fun b o e => (e0.bs b o e).1
  refine codeAny_call_function hr.depth (inK _ _ lk) rfl S.co S.gen rfl (PySem.W.codeRec_of inK code) (bd _ _ _ _ ?_)
  refine wpAny_newFunctionEnv_cells S.kind (fun y hy => ?_) fun env he s1 ic => ?_
  · rcases S.par y.1 (List.of_mem_zip hy).1 with q | q
    · exact .inl q
    · exact .inr ⟨q, PySem.W.cellsFrom_some _ _ _ (.inl q)⟩
  · subst he
    have lim : s.heap.NoLimit := e0.mod.nolimit.keeps fun b o e => (e0.bs b o e).1
    refine ⟨lim.keeps ic.toInCall.keep, codeAny_func ?_⟩
    have O : OkH (CxE P w K mg base N qual scope f cdv A out s H E p) (WD E) k p Dc := ⟨hr.deeper _, hG, L2N.takes_of rfl rfl rfl rfl, sm, hotP_pin ⟨hot.1, hot.2⟩ List.mem_cons_self, zc, xc⟩
    have pt := h cdv A out s H E p Dc O
    have I0 := inv_startH (CX := L2N.CX P w) (E := E) S hpin e0 sv.1 rv ic
    have back : ∀ {σ2 : L2.St} {H2 : Hp} {v : V} {u : Value} {s2 : Shared}, L2.Inv (CxE P w K mg base N qual scope f cdv A out s H E p) [] σ2 H2 s2 → RelV v u → Q v H2 → CE out P w H s Q u s2 :=
      fun {σ2 H2 v u s2} J rr q => ⟨v, H2, J.os, J.bare, J.base, J.hok, rr, q⟩
    refine wpAny_mono (pt.run [] s1 _ H _ I0 (spD_rd sv)) (fun fl s2 h2 => ?_) fun _ _ h2 => h2
    match fl, h2 with
    | .ret u, ⟨v, σ2, H2, J, rr, q⟩ => exact back J rr q
    | .next, ⟨σ2, H2, J, q⟩ => exact back (v := V.non) (u := Value.none) J rfl q
    | .brk, ⟨_, _, _, q⟩ => exact (show False from q).elim
    | .cont, ⟨_, _, _, q⟩ => exact (show False from q).elim
end
/-- such a def called by its name -/
structure GfE (P : Program) (w : World) (K : PySem.W.Frag) (mg : Str → Option Value) (base : Heap) (x : Str) (k n : Nat) (g : Addr → Addr → List D → Wd → Rs D) : Prop where
  ex : ∃ (f : Addr) (fd : FuncData) (ps : List Str), ps.length = n ∧ FnE P w K mg base k f fd ps g ∧ mg x = some (.ref f) ∧ PySem.W.keepIn K (.ref f) = true ∧ Binds K fd ps []
theorem gfE_of {P : Program} {w : World} {K : PySem.W.Frag} {mg : Str → Option Value} {base : Heap} {x qual : Str} {params : Arguments} {body : List Stmt} {scope : Scope} {f : Addr} {fd : FuncData} {ps : List Str} {k n : Nat} {g : Addr → Addr → List D → Wd → Rs D} (F : FunD K x qual params body scope [] [] f fd) (h : FnE P w K mg base k f fd ps g) (gm : mg x = some (.ref f)) (hn : ps.length = n) (b : Binds K fd ps []) :
    GfE P w K mg base x k n g := ⟨f, fd, ps, hn, h, gm, F.kp, b⟩
section
variable {X : Cx} {W : WX} {e : Expr} {es : List Expr} {d : DA} {x : Str} {k j n : Nat} {p pos : Pos} {p0 : Addr × Obj} {Dc : Addr}
theorem ed_fnE {g : Addr → Addr → List D → Wd → Rs D} (F : GfE X.prog X.w X.K X.mg X.base x k n g) (O : OkH X W j p0 Dc) (hk : k ≤ j) (hg : Gl X x) (ha : AD X W (e :: es) d) (hdb : (x == ("__debug__" : Str)) = false := by decide)
    (he : starEach (e :: es) X.env = (false, eval e X.env) :: starEach es X.env := by rfl) (hpl : (backTo pos (starEach es X.env)).any (·.1) = false := by rfl) : ED X W (.Call (.Name x p) (e :: es) [] pos) (dCallF n (g Dc p0.1) d) := by
  obtain ⟨f, fd, ps, hn, F, gm, kp, b⟩ := F.ex
  refine ⟨fun pins s σ H Q I h => ?_⟩
  obtain ⟨w, ρ, R, A, q⟩ := h
  have h' : rdA X.K W d σ H fun vs H1 => spD X.K ps.length (g Dc p0.1) vs H1 Q fun c o H => W c o σ H := by
    refine ⟨w, ρ, R, A, q.bind.imp fun xs R1 p1 vs w1 H1 l1 W1 r1 => ?_⟩
    by_cases c : xs.length = n
    · rw [if_pos c] at p1
      refine ⟨by rw [r1.length, c, hn], w1, R1, xs, W1, r1, ?_⟩
      cases eg : g Dc p0.1 xs R1 with
      | ok y R2 => rw [eg] at p1; exact Ret.mono l1 p1
      | exc c R2 => rw [eg] at p1; exact fun o w' H' l W' ex => p1 o w' H' (l1.trans l) W' ex
      | stuck => rw [eg] at p1; exact p1.elim
    · rw [if_neg c] at p1; exact p1.elim
  refine wpAny_Call_Name_kw (ld_glob I hg gm ?_ hdb)
  refine PySem.W.callWith_K (h₀ := X.base) I.ok.mod.kin kp (thn (ha.run pos pins s σ H _ I h') fun us s1 ⟨vs, H1, I1, rv, q1⟩ => ⟨I1.kIn, ?_⟩) he hpl
  have l : us.length = ps.length := rv.length.symm.trans q1.1
  have b2 := b s1 us I1.kIn (by simpa using l)
  rw [List.append_nil] at b2
  obtain ⟨h1, hk2⟩ := O.hot
  obtain ⟨e1, e2, e3⟩ := hk2 pins σ H1 s1 I1
  have hpin : PinOk X.stack H1 s1 p0 := ⟨e1, e2, e3, fun v z => by obtain ⟨_, vs, dd, _⟩ := h1; rw [dd] at z; cases z⟩
  refine wpAny_call (codeAny_mono (F.go X.A X.stack s1 H1 ⟨us, []⟩ us vs Q _ p0 Dc O.grd (O.room.mono hk) h1 O.zc O.xc hpin I1.env0 b2 rv q1) fun r s2 q => ?_)
  match r, q with
  | .ok (.ret u), q => exact I1.after q
  | .ok .next, q => exact (show False from q).elim
  | .ok .brk, q => exact (show False from q).elim
  | .ok .cont, q => exact (show False from q).elim
  | .error x, q => exact L2N.passAt O.tk σ pins H1 s1 x s2 I1 q
end
end Y
end
end
section
set_option Elab.async false
set_option linter.all false
set_option maxRecDepth 100000
set_option maxHeartbeats 4000000
noncomputable section
namespace Y
open PySem PySem.Spec PyProof.Rows L2 HotX L2H
open Classical
/-! ### try: body, except x as n: suite -/
/-- the name of the clause goes; nothing is raised there -/
def clr (i : Nat) : SRs → SRs
  | .nx ρ R => .nx (ρ.set i none) R
  | .bk ρ R => .bk (ρ.set i none) R
  | .ct ρ R => .ct (ρ.set i none) R
  | .rt d R => .rt d R
  | _ => .stuck
def dTry (K : PySem.W.Frag) (C : Addr) (i : Nat) (db : DS) (dh : Addr → Addr → DS) : DS := fun ρ R => match db ρ R with
  | .exc c ρ1 R1 => match PySem.W.exmOne K (.ref c.cls) (.ref C) with
    | some false => .exc c ρ1 R1
    | some true => if c.pay = none ∧ ExcC K c.cls ∧ ∀ a, clr i (dh c.cls a (ρ1.set i (some (.obj a))) R1) = clr i (dh c.cls 0 (ρ1.set i (some (.obj 0))) R1) then clr i (dh c.cls 0 (ρ1.set i (some (.obj 0))) R1) else .stuck
    | none => .stuck
  | r => r
theorem RelS.unset {K : PySem.W.Frag} {w : Wt} {σ : L2.St} {ρ : Rho} (h : RelS K w σ ρ) (i : Nat) : RelS K w (σ.set i none) (ρ.set i none) := by
  refine ⟨by simp [h.len], fun j e z => ?_⟩
  by_cases c : i = j
  · subst c
    by_cases hl : i < ρ.length
    · rw [List.getElem?_set_self hl] at z; cases z
    · rw [List.getElem?_eq_none (by simpa using hl)] at z; cases z
  · rw [List.getElem?_set_ne c] at z
    obtain ⟨v, e1, r⟩ := h.at_ j e z
    exact ⟨v, by rw [List.getElem?_set_ne c]; exact e1, r⟩
theorem clr_post {K : PySem.W.Frag} {W : WX} {w : Wt} {H : Hp} {i : Nat} {r : SRs} {D : Ends} (h : SPost K W w H (clr i r) D) :
    SPost K W0 w H r { nx := fun σ' H' => D.nx (σ'.set i none) H', rt := D.rt, bk := fun σ' H' => D.bk (σ'.set i none) H', ct := fun σ' H' => D.ct (σ'.set i none) H' } := by
  cases r with
  | nx ρ R => exact fun σ w' H' l A => h _ w' H' l ⟨A.W, A.S.unset i⟩
  | bk ρ R => exact fun σ w' H' l A => h _ w' H' l ⟨A.W, A.S.unset i⟩
  | ct ρ R => exact fun σ w' H' l A => h _ w' H' l ⟨A.W, A.S.unset i⟩
  | rt d R => exact h
  | exc c ρ R => exact h.elim
  | stuck => exact h.elim
theorem Ok.tr {X : Cx} {W W' : WX} {k : Nat} (O : Ok X W k) {pn : List (Addr × Obj)} {xe : Value → Shared → Prop} (t : L2N.Takes (X.tr pn xe) W') : Ok (X.tr pn xe) W' k := ⟨O.room, O.grd, t, O.sm, O.calm⟩
section
variable {X : Cx} {W : WX} {x n : Str} {C : Addr} {i k : Nat} {body suite : List Stmt} {b₀ : Stmt} {np pos pos' : Pos} {db : DS} {dh : Addr → Addr → DS}
theorem sd_try (O : Ok X W k) (hs : X.stack = X.env :: X.outer) (hf : X.env.frame = some X.env.locals) (hN : X.N.Nodup) (hi : X.N[i]? = some n) (hln : X.env.kindOf n = some .local) (hg : Gl X x) (hm : X.mg x = some (.ref C))
    (hb : ∀ (W' : WX) (pn : List (Addr × Obj)) (xe : Value → Shared → Prop), Ok (X.tr pn xe) W' k → PassesOwn (model X.prog X.w) X.A X.env xe → SsD (X.tr pn xe) W' body db)
    (hsu : ∀ (a : Addr) (oe : Obj) (Dc : Addr) (pn : List (Addr × Obj)), OkH (X.suite a ((a, oe) :: pn)) W0 k (a, oe) Dc → SsD (X.suite a ((a, oe) :: pn)) W0 (b₀ :: suite) (dh Dc a)) (hdb : (x == ("__debug__" : Str)) = false := by decide) :
    SD X W (.Try body [.ExceptHandler (some (.Name x np)) (some n) (b₀ :: suite) pos'] [] [] pos) (dTry X.K C i db dh) := by
  have P := L2N.ps_try_as (b₀ := b₀) (suite := suite) (np := np) (pos := pos) (pos' := pos') (c := .ref C) (Wout := W) (tb := fun W' => rdS X.K W' db)
    (ts := fun a cls d => fun D σ H => ∃ Dc, cls = .ref Dc ∧ d = none ∧ ExcC X.K Dc ∧ rdS X.K W0 (dh Dc a) D σ H) hs hf hN hi hln ⟨hg, hdb, .inl hm⟩ O.tk (fun W' pn xe t po => hb W' pn xe (O.tr t) po)
    (fun a oe cls d pn hz hd => by
      refine ⟨fun pins s σ H D I h => ?_⟩
      obtain ⟨Dc, rfl, rfl, xc, q⟩ := h
      obtain ⟨vs, hd⟩ := hd
      have Oh : OkH (X.suite a ((a, oe) :: pn)) W0 k (a, oe) Dc := ⟨⟨O.room.dp, O.room.un⟩, O.grd, fun u s' x => by obtain ⟨_, _, _, _, _, _, _, _, _, _, _, _, _, _, _, _, z⟩ := x; exact z, O.sm, hotP_pin ⟨rfl, vs, hd, hz.2.2 vs hd⟩ List.mem_cons_self, hz.zc, xc⟩
      exact (hsu a oe Dc pn Oh).run pins s σ H D I q)
  refine PSimp P fun E σ H h => ?_
  obtain ⟨w, ρ, R, A, p⟩ := h
  refine ⟨w, ρ, R, A, ?_⟩
  unfold dTry at p
  cases e : db ρ R with
  | nx ρ1 R1 => rw [e] at p; exact p
  | rt d R1 => rw [e] at p; exact p
  | bk ρ1 R1 => rw [e] at p; exact p
  | ct ρ1 R1 => rw [e] at p; exact p
  | stuck => rw [e] at p; exact p
  | exc c ρ1 R1 =>
    rw [e] at p
    intro σ2 w2 H2 l2 S2 o w3 H3 l3 W3 ex
    cases em : PySem.W.exmOne X.K (.ref c.cls) (.ref C) with
    | none => simp only [em] at p; exact p.elim
    | some b =>
      cases b with
      | false =>
        simp only [em] at p
        exact ⟨false, em, fun z => absurd z Bool.false_ne_true, fun _ => p σ2 w2 H2 l2 S2 o w3 H3 l3 W3 ex⟩
      | true =>
        simp only [em] at p
        by_cases cc : c.pay = none ∧ ExcC X.K c.cls ∧ ∀ a, clr i (dh c.cls a (ρ1.set i (some (.obj a))) R1) = clr i (dh c.cls 0 (ρ1.set i (some (.obj 0))) R1)
        · rw [if_pos cc] at p
          refine ⟨true, em, fun _ a ha => ?_, fun z => absurd z.symm Bool.false_ne_true⟩
          obtain ⟨c1, c2, c3⟩ := cc
          have eo : o = none := by
            cases o with
            | none => rfl
            | some d =>
              obtain ⟨fs, _, e1, _⟩ := ex
              rw [c1] at e1; cases e1
          rw [← c3 a] at p
          refine ⟨c.cls, rfl, eo, c2, w3, ρ1.set i (some (.obj a)), R1, ⟨W3, ?_⟩, clr_post (p.mono (l2.trans l3))⟩
          exact RelS.set (S2.mono l3.le) i (.obj a)
        · rw [if_neg cc] at p; exact p.elim
end

/-! ### the row's facts about own exceptions -/
def excCB (K : PySem.W.Frag) (D : Addr) : Bool := decide (PySem.W.findIn K (.ref D) "__getattribute__" = some (some (.builtin "BaseException.__getattribute__"))) && (decide (PySem.W.findIn K (.ref D) "__getattr__" = some none) && (decide (PySem.W.subIn K (.ref D) (.type "BaseException") = some true) && (PySem.W.hasDictIn K D &&
  (decide (PySem.W.findIn K (.ref D) "__class__" = some (some (.builtin "object.__class__"))) && (decide (PySem.W.specialIn K (.builtin "object.__class__") "__get__" = some (some (.builtin "getset_descriptor.__get__"))) && (decide (PySem.W.takesIn K (.builtin "object.__class__") = some true) && decide (PySem.W.mroIn K D (.type "object") = some true)))))))
theorem excCB_ok {K : PySem.W.Frag} {D : Addr} (h : excCB K D = true) : ExcC K D := by
  unfold excCB at h
  simp only [Bool.and_eq_true, decide_eq_true_eq] at h
  obtain ⟨h1, h2, h3, h4, h5, h6, h7, h8⟩ := h
  exact ⟨h1, h2, h3, h4, h5, h6, h7, h8⟩
inductive Fe where
  | exc (x : Str)
  | kit (x y : Str) (b : Bool)
  | kitT (x : Str) (T : String) (b : Bool)
def Fe.ok (K : PySem.W.Frag) : Fe → Bool
  | .exc x => excCB K (He.ga K x)
  | .kit x y b => decide (PySem.W.kitOne K (.ref (He.ga K x)) (.ref (He.ga K y)) = some b)
  | .kitT x T b => decide (PySem.W.kitOne K (.ref (He.ga K x)) (.type T) = some b)
def feB (fe : List Fe) (K : PySem.W.Frag) : Bool := fe.all fun f => f.ok K
def hkX (n : Nat) (fa : List He.Fa) (fn : List He.DefD) (fe : List Fe) : PySem.W.Hook where
  α := Bool × Bool × He.AlD
  obs := fun s => (smB s.heap.get?, feB fe (He.frG s.heap.get? (He.asD s.heap.get? n)), He.obsDG n fa fn s.heap.get?)
  val := fun _ => (true, true, He.valD fn)
  says := fun _ h => (∃ K : PySem.W.Frag, K.In h ∧ He.SaysD fa fn K ∧ feB fe K = true) ∧ SM h
  of := fun w s e => by
    have e1 : smB s.heap.get? = true := congrArg Prod.fst e
    have e2 : feB fe (He.frG s.heap.get? (He.asD s.heap.get? n)) = true := congrArg (fun z => z.2.1) e
    have e3 : He.obsDG n fa fn s.heap.get? = He.valD fn := congrArg (fun z => z.2.2) e
    refine ⟨⟨_, He.frG_in, e3, e2⟩, ?_⟩
    unfold smB at e1
    cases h1 : s.heap.get? sysModules with
    | none => rw [h1] at e1; cases e1
    | some o =>
      rw [h1] at e1
      cases h2 : o.data with
      | dict es ep => exact ⟨o, es, ep, h1, h2⟩
      | _ => simp [h2] at e1
  keeps := fun w h h' q k => ⟨by
    obtain ⟨K, hK, c⟩ := q.1
    exact ⟨K, PySem.W.Frag.In.keeps hK k, c⟩, by
    obtain ⟨o, es, ep, e, d⟩ := q.2
    exact ⟨o, es, ep, k _ _ e, d⟩⟩
theorem fe_get {fe : List Fe} {K : PySem.W.Frag} (c : feB fe K = true) (i : Nat) {f : Fe} (h : fe[i]? = some f := by rfl) : f.ok K = true := List.all_eq_true.mp c f (List.mem_of_getElem? h)
theorem fe_exc {fe : List Fe} {K : PySem.W.Frag} (c : feB fe K = true) (i : Nat) {x : Str} (h : fe[i]? = some (.exc x) := by rfl) : ExcC K (He.ga K x) := excCB_ok (fe_get c i h)
theorem fe_kit {fe : List Fe} {K : PySem.W.Frag} (c : feB fe K = true) (i : Nat) {x y : Str} {b : Bool} (h : fe[i]? = some (.kit x y b) := by rfl) : PySem.W.kitOne K (.ref (He.ga K x)) (.ref (He.ga K y)) = some b := of_decide_eq_true (fe_get c i h)
theorem fe_kitT {fe : List Fe} {K : PySem.W.Frag} (c : feB fe K = true) (i : Nat) {x : Str} {T : String} {b : Bool} (h : fe[i]? = some (.kitT x T b) := by rfl) : PySem.W.kitOne K (.ref (He.ga K x)) (.type T) = some b := of_decide_eq_true (fe_get c i h)
end Y
end
end
section
set_option Elab.async false
set_option linter.all false
set_option maxRecDepth 100000
set_option maxHeartbeats 4000000
namespace Y
open PySem PySem.Spec PyProof.Rows L2
/-! ### what a set of texts is -/
def keyT (e : Int × Value) : Str := match e.2 with | .str k _ => k | _ => Str.empty
def GoodT (w : World) (e : Int × Value) : Prop := ∃ k tk, e.2 = Value.str k tk ∧ e.1 = hashStr w k

/-- the set of texts at a: S its members, n their number; its table rises and can be walked -/
def TxR (w : World) (h : Heap) (a : Addr) (S : Str → Bool) (n : Nat) : Prop :=
  ∃ o es ep t, h.get? a = some o ∧ o.ExactSet ∧ o.data = .set es ep t ∧ (∀ e ∈ es.toList, GoodT w e) ∧ (es.toList.map keyT).Nodup ∧ (∀ k, S k = true ↔ k ∈ es.toList.map keyT) ∧
    es.size < scanBound ∧ t.fits es.size = true ∧ es.size = n ∧ Ris t.place.toList ∧ (w.params.followText "set-order" = true ∨ t.led = true)

section
variable {P : Program} {w : World} {h h' : Heap} {a : Addr} {S : Str → Bool} {n : Nat}

theorem TxR.at (R : TxR w h a S n) (k : ∀ o, h.get? a = some o → h'.get? a = some o) : TxR w h' a S n := by
  obtain ⟨o, es, ep, t, ho, r⟩ := R
  exact ⟨o, es, ep, t, k o ho, r⟩
theorem TxR.lt (R : TxR w h a S n) : a < h.objs.size := by
  obtain ⟨o, es, ep, t, ho, r⟩ := R
  exact Heap.lt_size ho
theorem TxR.congr {S' : Str → Bool} (R : TxR w h a S n) (e : ∀ k, S' k = S k) : TxR w h a S' n := by
  have q : S' = S := funext e
  rw [q]; exact R
theorem goodT_elems {l : List (Int × Value)} (g : ∀ e ∈ l, GoodT w e) : ElemsOf (strKind P w) l := fun e he => by
  obtain ⟨k, tk, h1, h2⟩ := g e he
  exact ⟨⟨k, by rw [h1]; exact Froz.is_str k tk, h2⟩, by rw [h1] <;> rfl⟩
theorem goodT_is {e : Int × Value} (g : GoodT w e) (k : Str) : (strKind P w).is k e.2 = true ↔ keyT e = k := by
  obtain ⟨k0, tk, h1, _⟩ := g
  unfold keyT
  rw [h1]
  show (Value.isStrOf k (.str k0 tk) = true) ↔ k0 = k
  simp [Value.isStrOf]
theorem goodT_mem {l : List (Int × Value)} (g : ∀ e ∈ l, GoodT w e) (k : Str) : k ∈ l.map keyT ↔ ∃ e ∈ l, (strKind P w).is k e.2 = true := by
  rw [List.mem_map]
  constructor
  · rintro ⟨e, he, q⟩
    exact ⟨e, he, (goodT_is (g e he) k).2 q⟩
  · rintro ⟨e, he, q⟩
    exact ⟨e, he, (goodT_is (g e he) k).1 q⟩
theorem TxR.setOf (R : TxR w h a S n) : h.SetOf (strKind P w) a S n := by
  obtain ⟨o, es, ep, t, ho, hx, hd, g, nd, hm, hb, hf, hn, _⟩ := R
  exact ⟨o, es, ep, t, ho, hx, hd, goodT_elems g, fun k => (hm k).trans (goodT_mem g k), hb, hf, hn⟩
end

section
variable {P : Program} {w : World} {A : Around} {E : Value → Shared → Prop} {s : Shared} {a : Addr} {S : Str → Bool} {n : Nat}

/-! ### add -/
theorem storeT_at {h : Heap} {a : Addr} {o : Obj} {es es' : Array (Int × Value)} {ep : Nat} {t t' : SetTable} (ho : h.get? a = some o) (hd : o.data = .set es ep t) :
    (h.update a (Obj.putSet es' t')).get? a = some { o with data := .set es' (ep + 1) t' } := by
  have q := Heap.get?_update_self (Obj.putSet es' t') ho (by rw [putSet_of es' t' hd]; rfl)
  rw [putSet_of es' t' hd] at q
  exact q

theorem txR_add_tail {g : Bool → Sem Unit} (hg : ∀ (b : Bool) (s₁ : Shared) (Q' : Unit → Shared → Prop), Q' () s₁ → wpAny (model P w) A (g b) Q' E s₁)
    {o : Obj} {es : Array (Int × Value)} {ep : Nat} {t : SetTable} (ho : s.heap.get? a = some o) (hex : o.ExactSet) (hd : o.data = .set es ep t)
    {es1 : Array (Int × Value)} {t2 : SetTable} {S' : Str → Bool} (g1 : ∀ e ∈ es1.toList, GoodT w e) (nd1 : (es1.toList.map keyT).Nodup) (m1 : ∀ k, S' k = true ↔ k ∈ es1.toList.map keyT)
    (hb1 : es1.size < scanBound) (hf2 : t2.fits es1.size = true) (hr : Ris t2.place.toList) (hl : w.params.followText "set-order" = true ∨ t2.led = true) {wasDummy : Bool} {R : Option Bool → Shared → Prop}
    (hR : ∀ h', Heap.SameBut a s.heap h' → TxR w h' a S' es1.size → R (some true) { s with heap := h' }) :
    wpAny (model P w) A (do
        storeSet a es1 t2
        if (!wasDummy && t2.tooFull) = true then do
            g (relayAll t2 es1 (SetTable.grown es1.size)).2.2
            storeSet a (relayAll t2 es1 (SetTable.grown es1.size)).1 (relayAll t2 es1 (SetTable.grown es1.size)).2.1
            pure (some true)
          else pure (some true)) R E s := by
  refine wpAny_bind (wpAny_storeSet_of ho hd ?_ (fits_of_scanBound hb1))
  have ho1 := storeT_at (es' := es1) (t' := t2) ho hd
  have sb1 := Heap.SameBut.update s.heap a (Obj.putSet es1 t2)
  split
  · have pm := relayAll_perm t2 es1 (SetTable.grown es1.size)
    have hf3 := relayAll_fits t2 es1 (SetTable.grown es1.size)
    have hr3 := relayAll_ris t2 es1 (SetTable.grown es1.size)
    have hl3 := relayAll_led t2 es1 (SetTable.grown es1.size)
    generalize relayAll t2 es1 (SetTable.grown es1.size) = Z at pm hf3 hr3 hl3 ⊢
    obtain ⟨es2, t3, gave⟩ := Z
    dsimp only at pm hf3 hr3 hl3 ⊢
    have hsz : es2.size = es1.size := by rw [← Array.length_toList, pm.length_eq, Array.length_toList]
    have hb2 : es2.size < scanBound := by rw [hsz]; exact hb1
    refine wpAny_bind (hg _ _ _ ?_)
    refine wpAny_bind (wpAny_storeSet_of ho1 rfl ?_ (fits_of_scanBound hb2))
    have ho2 := storeT_at (es' := es2) (t' := t3) ho1 rfl
    refine wpAny_pure (hR _ (sb1.trans (Heap.SameBut.update _ a _)) ?_)
    exact ⟨_, es2, _, t3, ho2, hex, rfl, fun e he => g1 e (pm.mem_iff.mp he), (pm.map keyT).nodup_iff.mpr nd1, fun k => (m1 k).trans (pm.map keyT).mem_iff.symm, hb2, hf3, hsz, hr3,
      hl.imp id fun z => by rw [hl3]; exact z⟩
  · exact wpAny_pure (hR _ sb1 ⟨_, es1, _, t2, ho1, hex, rfl, g1, nd1, m1, hb1, hf2, rfl, hr, hl⟩)

theorem txR_add_hashed {k : Str} {tk : Tok} {Q : Bool → Shared → Prop} (R : TxR w s.heap a S n) (room : n + 1 < scanBound)
    (hQ : ∀ h', Heap.SameBut a s.heap h' → TxR w h' a (fun j => S j || decide (j = k)) (if S k = true then n else n + 1) → Q (!S k) { s with heap := h' }) :
    wpAny (model P w) A (setAddHashed a (.str k tk) ((strKind P w).hash k)) Q E s := by
  obtain ⟨o, es, ep, t, ho, hex, hd, g, nd, hm, hb, hf, hn, hr, hl⟩ := R
  have hkey : (strKind P w).is k (.str k tk) = true := Froz.is_str k tk
  have hsc : (Value.str k tk).scannable = true := rfl
  have hel : ElemsOf (strKind P w) es.toList := goodT_elems g
  unfold setAddHashed setAddHashedIn
  refine wpAny_holding (wpAny_bind (wpAny_setState_of ho hd hf ?_))
  dsimp only
  rw [byScan_of hsc hb hel]
  simp only [↓reduceIte]
  unfold setAddByScan
  refine wpAny_bind ?_
  refine wpAny_bind (wpAny_rule ?_)
  refine wpAny_bind (wpAny_setScan_of hkey ho hd hf hel ?_)
  cases hfi : List.findIdx? (fun e => (strKind P w).is k e.2) es.toList with
  | some j =>
    dsimp only
    obtain ⟨hj, pj, _⟩ := List.findIdx?_eq_some_iff_getElem.mp hfi
    have hSk : S k = true := (hm k).2 ((goodT_mem (P := P) (w := w) g k).2 ⟨es.toList[j], List.getElem_mem hj, pj⟩)
    refine wpAny_pure (wpAny_pure ?_)
    have q := hQ s.heap (Heap.SameBut.refl a s.heap) ⟨o, es, ep, t, ho, hex, hd, g, nd, fun i => by
      rw [Bool.or_eq_true, decide_eq_true_eq, ← hm i]
      exact ⟨fun z => z.elim id (fun e => e ▸ hSk), .inl⟩, hb, hf, by rw [if_pos hSk]; exact hn, hr, hl⟩
    rw [hSk] at q
    exact q
  | none =>
    dsimp only
    have hnk : k ∉ es.toList.map keyT := fun z => by
      obtain ⟨e, he, q⟩ := (goodT_mem (P := P) (w := w) g k).1 z
      have c := List.findIdx?_eq_none_iff.mp hfi e he
      rw [q] at c
      cases c
    have hSk : S k = false := by
      cases q : S k with
      | false => rfl
      | true => exact absurd ((hm k).1 q) hnk
    have hgw : ∀ (b : Bool) {s₁ : Shared} {Q' : Unit → Shared → Prop}, Q' () s₁ → wpAny (model P w) A (match b with | true => rule "set.scan.the-table-gave-way" | false => pure ()) Q' E s₁ :=
      fun b s₁ Q' q => by cases b <;> first | exact wpAny_pure q | exact wpAny_rule q
    have pm := layNew_perm t es ((strKind P w).hash k) (.str k tk)
    have hf1 := layNew_fits t es ((strKind P w).hash k) (.str k tk)
    have hr1 := layNew_ris t es ((strKind P w).hash k) (.str k tk) hr
    have hl1 := layNew_led t es ((strKind P w).hash k) (.str k tk)
    generalize layNew t es ((strKind P w).hash k) (.str k tk) = Z at pm hf1 hr1 hl1 ⊢
    obtain ⟨es1, t1, wasDummy, gave⟩ := Z
    dsimp only at pm hf1 hr1 hl1 ⊢
    rw [Array.toList_push] at pm
    have pc : es1.toList.Perm (((strKind P w).hash k, Value.str k tk) :: es.toList) := pm.trans (List.perm_append_singleton _ _)
    have pk : (es1.toList.map keyT).Perm (k :: es.toList.map keyT) := pc.map keyT
    have g1 : ∀ e ∈ es1.toList, GoodT w e := fun e he => by
      rcases List.mem_cons.mp (pc.mem_iff.mp he) with z | z
      · rw [z]; exact ⟨k, tk, rfl, rfl⟩
      · exact g e z
    have nd1 : (es1.toList.map keyT).Nodup := pk.nodup_iff.mpr (List.nodup_cons.mpr ⟨hnk, nd⟩)
    have m1 : ∀ i, (S i || decide (i = k)) = true ↔ i ∈ es1.toList.map keyT := fun i => by
      rw [Bool.or_eq_true, decide_eq_true_eq, hm i, pk.mem_iff, List.mem_cons]
      exact Or.comm
    have hsz : es1.size = n + 1 := by rw [← Array.length_toList, pc.length_eq, List.length_cons, Array.length_toList, hn]
    have hb1 : es1.size < scanBound := by rw [hsz]; exact room
    have hled : w.params.followText "set-order" = true ∨ t1.led = true := hl.imp id fun z => by rw [hl1]; exact z
    have fin : ∀ h', Heap.SameBut a s.heap h' → TxR w h' a (fun j => S j || decide (j = k)) es1.size → Q true { s with heap := h' } := fun h' sb r => by
      have q := hQ h' sb
      rw [hSk] at q
      rw [hsz] at r
      exact q r
    refine wpAny_bind (hgw _ ?_)
    split
    · refine wpAny_bind ?_
      rw [hashByValue_scannable 8 hsc]
      refine wpAny_pure ?_
      refine txR_add_tail ?_ ho hex hd g1 nd1 m1 hb1 ?_ ?_ ?_ ?_
      · intro b s₁ Q' q; cases b <;> first | exact wpAny_pure q | exact wpAny_rule q
      · first | (split <;> first | exact hf1 | exact SetTable.fits_plain_off hf1) | exact hf1
      · first | (split <;> exact hr1) | exact hr1
      · first | (split <;> exact hled) | exact hled
      · intro h' sb r; dsimp only; exact wpAny_pure (fin h' sb r)
    · refine wpAny_bind (wpAny_pure ?_)
      simp only [↓reduceIte]
      refine txR_add_tail ?_ ho hex hd g1 nd1 m1 hb1 hf1 hr1 hled ?_
      · intro b s₁ Q' q; cases b <;> first | exact wpAny_pure q | exact wpAny_rule q
      · intro h' sb r; dsimp only; exact wpAny_pure (fin h' sb r)


end
end Y
end
section
set_option Elab.async false
set_option linter.all false
set_option maxRecDepth 100000
set_option maxHeartbeats 4000000
namespace Y
open PySem PySem.Spec PyProof.Rows L2
/-! ### set(t) of a list of texts -/
theorem txR_new_at {w : World} {h : Heap} {a : Addr} {ns : List Str} (ho : h.get? a = some { cls := .type "set", dict := none, data := .set #[] 0 (.fresh 0 0 (!w.params.followText "set-order")) }) : TxR w h a (fun j => decide (j ∈ ns.take 0)) 0 :=
  ⟨_, #[], 0, _, ho, ⟨rfl, rfl, rfl⟩, rfl, (fun e he => by simp at he), (by simp), (fun k => by simp), (by decide), (by rfl), rfl, List.Pairwise.nil, by
    show _ ∨ (!w.params.followText "set-order") = true
    cases w.params.followText "set-order"
    · exact .inr rfl
    · exact .inl rfl⟩
section
variable {P : Program} {w : World} {A : Around} {E : Value → Shared → Prop} {s : Shared}
theorem set_update_texts {I : Addr} {fp wr : List Addr} {G : Array GenState → Array GenState → Prop} {n : Nat} {Pv : Nat → Value → Prop} {St : Nat → Shared → Prop} {R : Result → Shared → Prop}
    (W : WalksS P w A.in1 I fp wr G n Pv St) (S : Addr) (hSf : S ∉ fp) (ns : List Str) (hn : n = ns.length) (hb : ns.length + 1 < scanBound) (hval : ∀ i v, Pv i v → ∃ k t, ns[i]? = some k ∧ v = .str k t) :
    ∀ (k i : Nat) (s : Shared), n - i = k → i ≤ n → St i s → (∃ c, c ≤ i ∧ TxR w s.heap S (fun j => decide (j ∈ ns.take i)) c) →
      (∀ s' c, Moved (S :: wr) G s s' → c ≤ n → TxR w s'.heap S (fun j => decide (j ∈ ns)) c → R (.ok (.ret .none)) s') →
      codeAny (model P w) A (.builtin "set.update.loop" ⟨[.ref S, .ref I], []⟩) R s := by
  have hSw : S ∉ wr := fun h => hSf (W.sub _ h)
  have hsub : ∀ b ∈ wr, b ∈ S :: wr := fun b hb => List.mem_cons_of_mem _ hb
  intro k
  induction k with
  | zero =>
    intro i s hk' hi hst ⟨c, hc, hS⟩ hR
    have hin : i = n := by omega
    subst hin
    refine codeAny_builtin F.entry_set_update_loop ?_
    rw [Around.under_plainId F.plain_set_update_loop _]
    show wpAny _ A.in1 (pyNext (.ref I) >>= _) _ _ s
    refine wpAny_bind (W.done s _ _ hst fun s' hm => ?_)
    show wpAny _ A.in1 (ret Value.none) _ _ s'
    have e : ns.take i = ns := List.take_of_length_le (by omega)
    rw [e] at hS
    exact wpAny_pure (hR s' c (hm.mono hsub) hc (hS.at fun o e => hm.heap S o hSw e))
  | succ k ih =>
    intro i s hk' hi hst ⟨c, hc, hS⟩ hR
    have hlt : i < n := by omega
    refine codeAny_builtin F.entry_set_update_loop ?_
    rw [Around.under_plainId F.plain_set_update_loop _]
    show wpAny _ A.in1 (pyNext (.ref I) >>= _) _ _ s
    refine wpAny_bind (W.item i s _ _ hlt hst fun v s' hP hst' hm => ?_)
    obtain ⟨z, t, hz, rfl⟩ := hval i v hP
    have hS' : TxR w s'.heap S (fun j => decide (j ∈ ns.take i)) c := hS.at fun o e => hm.heap S o hSw e
    show wpAny _ A.in1 (holding [Value.str z t] (setAdd S (.str z t)) >>= _) _ _ s'
    refine wpAny_bind (wpAny_holding ?_)
    unfold setAdd
    refine wpAny_holding ?_
    refine wpAny_bind ((strKind P w).pyHash (k := z) (Froz.is_str _ _) ?_)
    refine txR_add_hashed (s := { s' with toks := s'.toks + 1 }) hS' (by omega) fun h' hsb hS2 => ?_
    have hS3 : TxR w h' S (fun j => decide (j ∈ ns.take (i + 1))) (if decide (z ∈ ns.take i) = true then c else c + 1) := hS2.congr fun j => by
      rw [List.take_add_one, hz]
      simp [List.mem_append]
    have hc3 : (if decide (z ∈ ns.take i) = true then c else c + 1) ≤ i + 1 := by
      split <;> omega
    refine wpAny_pure ⟨plainId_quiet F.plain_set_update_loop _, ih (i + 1) _ (by omega) hlt (W.frame _ s' _ _ hst' (Nat.le_succ _) fun b hb o e => ?_) ⟨_, hc3, hS3⟩ fun s'' c2 hm'' hc'' hS'' => ?_⟩
    · rw [hsb.2 b (fun h : b = S => hSf (by rw [← h]; exact hb))]; exact e
    · refine hR s'' c2 (Moved.trans W.gtrans ((hm.mono hsub).then_heap (Nat.le_succ _) fun b o hb e => ?_) hm'') hc'' hS''
      rw [hsb.2 b (fun h : b = S => hb (by rw [h]; exact List.mem_cons_self))]; exact e

set_option maxRecDepth 100000 in
set_option maxHeartbeats 3200000 in
theorem call_set_listT {l : Addr} {items : Array Value} (ns : List Str) {Q : Value → Shared → Prop} (hh : A.handled = none) (hl : s.heap.IsList l items) (hit : StrsAre items.toList ns) (hb : ns.length + 1 < scanBound)
    (h : ∀ (h' : Heap) (tk c : Nat), TxR w h' s.heap.objs.size (fun j => decide (j ∈ ns)) c → c ≤ ns.length → (∀ b o, s.heap.get? b = some o → h'.get? b = some o) → Q (.ref s.heap.objs.size) { s with heap := h', toks := tk }) :
    wpAny (model P w) A (call (.type "set") [.ref l]) Q E s := by
  have hisz : items.size = ns.length := by
    have q := StrsAre.len_eq hit
    rw [Array.length_toList] at q
    exact q
  obtain ⟨c, tl, hmro⟩ := F.called_set.mro
  have hmade := F.called_set.made
  have hsub := F.called_set.sub
  refine wpAny_call (codeAny_of_tree ?_)
  show wpAny _ _ (callAny (.type "set") _) _ _ _
  refine wpAny_pure ⟨Code.quiet_builtin _ (by decide +kernel), codeAny_builtin F.entry_type_call ?_⟩
  rw [Around.under_plain (weight_type_call_type "set" [.ref l] []) rfl]
  have h1 := F.called_set.notType
  have h2 := F.called_set.canCreate
  have hct := F.typeCall_set_1 (.ref l)
  repeat (any_goals (first | assumption | wp_step))

  refine codeAny_mono (code_set_led1 (.ref l) (E := E) (Q₁ := fun obj s₁ => obj = .ref s.heap.objs.size ∧ s₁ = { s with heap := s.heap.push { cls := .type "set", dict := none, data := .set #[] 0 (.fresh 0 0 (!w.params.followText "set-order")) } }) ⟨rfl, rfl⟩) fun r s₁ hr => ?_
  cases r with
  | error e => exact hr
  | ok fl =>
    cases fl with
    | ret obj =>
      obtain ⟨rfl, rfl⟩ := hr
      have hS : (s.heap.push { cls := .type "set", dict := none, data := .set #[] 0 (.fresh 0 0 (!w.params.followText "set-order")) }).get? s.heap.objs.size = some { cls := .type "set", dict := none, data := .set #[] 0 (.fresh 0 0 (!w.params.followText "set-order")) } := Heap.get?_push_size _ rfl
      have hT : Shared.TypeIs { s with heap := s.heap.push { cls := .type "set", dict := none, data := .set #[] 0 (.fresh 0 0 (!w.params.followText "set-order")) } } (.ref s.heap.objs.size) "set" := ⟨_, hS, rfl⟩
      have hli := F.called_set.init.lookup
      have hbi := F.called_set.init.bind (.ref s.heap.objs.size)
      repeat (any_goals (first | assumption | wp_step))

      refine codeAny_mono (codeAny_call_builtin (R := wants (fun r s₂ => r = .none ∧ ∃ h' tk c, s₂ = { s with heap := h', toks := tk } ∧ TxR w h' s.heap.objs.size (fun j => decide (j ∈ ns)) c ∧ c ≤ ns.length ∧
          (∀ b o, s.heap.get? b = some o → h'.get? b = some o)) E) F.called_set.init.plain F.entry_set_init (check_set_init_1 hT ?_)) fun r₂ s₂ hr₂ => ?_
      · obtain ⟨ol, hol, hcl, nl, hdl⟩ := hl
        obtain ⟨ocls, odict, odata, oslots⟩ := ol
        simp only at hcl hdl
        subst hcl; subst hdl
        have hol' : (s.heap.push { cls := .type "set", dict := none, data := .set #[] 0 (.fresh 0 0 (!w.params.followText "set-order")) }).get? l = some { cls := .type "list", dict := odict, data := .seq items nl, slots := oslots } := Heap.get?_push_of_some _ hol
        have hsls := F.sub_list_set
        have hslf := F.sub_list_frozenset
        have hne : (Value.type "list" == Value.type "dict") = false := by decide
        have hl1 : (s.heap.push { cls := .type "set", dict := none, data := .set #[] 0 (.fresh 0 0 (!w.params.followText "set-order")) }).IsList l items := ⟨_, hol', rfl, nl, rfl⟩
        unfold Builtin.«set.__init__» noKeywords Builtin.Frozenset.updateFrom
        generalize hPI : pyIter = PI
        wp_walk
        subst hPI

        refine wpAny_pyIter_list hl1 ?_
        refine wpAny_bind (wpAny_runValue ?_)
        have hlS : l < s.heap.objs.size := Heap.lt_size hol
        have hh3 : A.in1.in1.in1.handled = none := by simp [hh]
        have hz1 : (s.heap.push { cls := .type "set", dict := none, data := .set #[] 0 (.fresh 0 0 (!w.params.followText "set-order")) }).objs.size = s.heap.objs.size + 1 := Heap.size_push ..
        have hneI : l ≠ (s.heap.push { cls := .type "set", dict := none, data := .set #[] 0 (.fresh 0 0 (!w.params.followText "set-order")) }).objs.size := by
          rw [Heap.size_push]; exact Nat.ne_of_lt (Nat.lt_succ_of_lt hlS)
        have hSf : s.heap.objs.size ∉ [(s.heap.push { cls := .type "set", dict := none, data := .set #[] 0 (.fresh 0 0 (!w.params.followText "set-order")) }).objs.size, l] := by
          rw [Heap.size_push]; simp only [List.mem_cons, List.mem_singleton, List.not_mem_nil, or_false, not_or]
          exact ⟨Nat.ne_of_lt (Nat.lt_succ_self _), Nat.ne_of_gt hlS⟩
        have hval : ∀ (i : Nat) (v : Value), items[i]? = some v → ∃ k t, ns[i]? = some k ∧ v = .str k t := fun i v hv => by
          have hi : i < ns.length := by rw [← hisz]; exact (Array.getElem?_eq_some_iff.mp hv).1
          obtain ⟨t, e⟩ := SS.strs_at hit i v (by rw [Array.getElem?_toList]; exact hv)
          refine ⟨ns[i], t, List.getElem?_eq_getElem hi, ?_⟩
          rw [e, List.getD_eq_getElem?_getD, List.getElem?_eq_getElem hi] <;> rfl
        refine set_update_texts ((Walks.list hh3 _ l hneI items).toS) s.heap.objs.size
          hSf ns hisz hb hval (items.size - 0) 0 _ (by omega) (Nat.zero_le _)
          ⟨⟨_, Heap.get?_push_size _ rfl, rfl, rfl⟩, (hl1.push _)⟩ ?hS0 ?hR
        case hS0 =>
          have hget : ((s.heap.push { cls := .type "set", dict := none, data := .set #[] 0 (.fresh 0 0 (!w.params.followText "set-order")) }).push { cls := .type "list_iterator", data := .fields #[.ref l, .int 0 0] }).get? s.heap.objs.size
              = some { cls := .type "set", dict := none, data := .set #[] 0 (.fresh 0 0 (!w.params.followText "set-order")) } := Heap.get?_push_of_some _ hS
          exact ⟨0, Nat.le_refl 0, txR_new_at hget⟩
        case hR =>
          intro s' c' hm hc' hS'
          obtain ⟨h', g2, d', tk', os'⟩ := s'
          have eg : g2 = s.gens := hm.gens
          have ed : d' = s.drawn := hm.drawn
          have eo : os' = s.os := hm.os
          subst eg; subst ed; subst eo
          show wpAny _ _ _ _ _ _
          refine wpAny_pure ?_
          show wpAny _ _ (ret Value.none) _ _ _
          rw [hisz] at hc'
          refine wpAny_pure ⟨rfl, h', tk', c', rfl, hS', hc', fun b o e => ?_⟩
          have hb0 : b < s.heap.objs.size := Heap.lt_size e
          have hb1 : b ≠ s.heap.objs.size := Nat.ne_of_lt hb0
          have hb2 : b ≠ (s.heap.push { cls := .type "set", dict := none, data := .set #[] 0 (.fresh 0 0 (!w.params.followText "set-order")) }).objs.size := by
            rw [Heap.size_push]; exact Nat.ne_of_lt (Nat.lt_succ_of_lt hb0)
          exact hm.heap b o (by simp only [List.mem_cons, List.mem_singleton, List.not_mem_nil, or_false, not_or]; exact ⟨hb1, hb2⟩) (Heap.get?_push_of_some _ (Heap.get?_push_of_some _ e))

      · cases r₂ with
        | error e => exact hr₂
        | ok fl₂ =>
          cases fl₂ with
          | ret r =>
            obtain ⟨rfl, h', tk, c', rfl, hS', hc', hk'⟩ := hr₂
            repeat (any_goals (first | assumption | wp_step))
            exact h _ _ _ hS' hc' hk'
          | _ => exact hr₂.elim
    | _ => exact hr.elim


end
end Y
end
section
set_option Elab.async false
set_option linter.all false
set_option maxRecDepth 100000
set_option maxHeartbeats 4000000
namespace Y
open PySem PySem.Spec PyProof.Rows L2
/-! ### sorted(set(xs)), len(set(xs)) of texts -/
def ddp : List Str → List Str
  | [] => []
  | x :: r => if x ∈ ddp r then ddp r else x :: ddp r
theorem ddp_mem {x : Str} : ∀ {l : List Str}, x ∈ ddp l ↔ x ∈ l
  | [] => Iff.rfl
  | y :: r => by
    unfold ddp
    have ih := ddp_mem (x := x) (l := r)
    split
    · rename_i c
      rw [ih, List.mem_cons]
      constructor
      · exact .inr
      · rintro (rfl | h)
        · exact ddp_mem.mp c
        · exact h
    · rw [List.mem_cons, List.mem_cons, ih]
theorem ddp_nodup : ∀ l : List Str, (ddp l).Nodup
  | [] => .nil
  | y :: r => by
    unfold ddp
    split
    · exact ddp_nodup r
    · rename_i c
      exact List.nodup_cons.mpr ⟨c, ddp_nodup r⟩
theorem ddp_le : ∀ l : List Str, (ddp l).length ≤ l.length
  | [] => Nat.le_refl _
  | y :: r => by
    unfold ddp
    have := ddp_le r
    split <;> simp <;> omega
theorem perm_of_mem {xs ys : List Str} (h1 : xs.Nodup) (h2 : ys.Nodup) (h : ∀ k, k ∈ xs ↔ k ∈ ys) : xs.Perm ys := (List.perm_ext_iff_of_nodup h1 h2).mpr h
theorem strs_of : ∀ (l : List Value), (∀ v ∈ l, ∃ k tk, v = Value.str k tk) → ∃ ks, StrsAre l ks ∧ ks = l.map fun v => keyT (0, v)
  | [], _ => ⟨[], .nil, rfl⟩
  | v :: l, h => by
    obtain ⟨k, tk, rfl⟩ := h v List.mem_cons_self
    obtain ⟨ks, h1, h2⟩ := strs_of l fun u hu => h u (List.mem_cons_of_mem _ hu)
    exact ⟨k :: ks, .cons k tk h1, by rw [h2]; rfl⟩
section
variable {X : Cx} {W : WX} {a : Expr} {da : DE} {p p2 q pos : Pos}
def gSortSet (R : Wd) (x : D) : Option (List D) := ((lstR R x).bind strsOf).bind fun ss => if ss.length < 64 then some ((sortStr (ddp ss)).map .str) else none
def gLenSet (R : Wd) (x : D) : Option D := ((lstR R x).bind strsOf).bind fun ss => if ss.length < 4000 then some (.int (ddp ss).length) else none
def dSortSet (da : DE) : DA := fun ρ R => (da ρ R).bind fun x R1 => match gSortSet R1 x with
  | some zs => .ok zs R1
  | none => .stuck
def dLenSet (da : DE) : DE := fun ρ R => (da ρ R).bind fun x R1 => match gLenSet R1 x with
  | some z => .ok z R1
  | none => .stuck
/-- the set made, its texts known -/
theorem set_made {pins : List (Addr × Obj)} {σ : L2.St} {H : Hp} {s : Shared} {Qv : Value → Shared → Prop} {l : Addr} {ss : List Str} (hc : X.calm = true) (I : L2.Inv X pins σ H s) (hq : SqL X.K H l (ss.map V.str)) (hl : ss.length < 4000)
    (h : ∀ (h' : Heap) (tk c : Nat), TxR X.w h' s.heap.objs.size (fun j => decide (j ∈ ss)) c → c ≤ ss.length → L2.Inv X pins σ H { s with heap := h', toks := tk } → Qv (.ref s.heap.objs.size) { s with heap := h', toks := tk }) :
    wpAny (model X.prog X.w) X.A (call (.type "set") [.ref l]) Qv X.xe s := by
  obtain ⟨its, r, pl, hz⟩ := I.list hq
  exact call_set_listT ss (I.ok.hd hc) pl.isList (by simpa using strsAre_of r) (by unfold scanBound; omega) fun h' tk c R cl k => h h' tk c R cl (I.kept fun b o e => k b o e)
theorem fl_sortSet (hu : X.A.units + 65 < cLine) (hg : Gl X "sorted") (hm : X.mg "sorted" = none) (hg2 : Gl X "set") (hm2 : X.mg "set" = none) (ha : ED X W a da) (hc : X.calm = true)
    (na : starEach [a] X.env = (false, eval a X.env) :: starEach [] X.env := by rfl) : FL X W (.Call (.Name "sorted" p) [.Call (.Name "set" p2) [a] [] q] [] pos) (dSortSet da) := by
  refine ⟨fun pins s σ H Q I h => ?_⟩
  obtain ⟨w, ρ, R, A, pp⟩ := h
  refine Call_ (ld_blt I hg hm boot_sorted ?_)
  refine PyProof.Rows.callWith_builtin1 (PyProof.Rows.args_cons ?_ rfl) rfl rfl
  refine Call_ (ld_blt I hg2 hm2 boot_set ?_)
  have h' : rdE X.K W da σ H fun x H1 => ∃ (l : Addr) (ss : List Str), x = .ref l ∧ SqL X.K H1 l (ss.map V.str) ∧ ss.length < 64 ∧ ∀ p, H1 p = none → Q (.ref p) (upd H1 p (.lst ((sortStr (ddp ss)).map V.str))) := by
    refine ⟨w, ρ, R, A, pp.bind.imp fun x R1 p1 v w1 H1 l1 W1 r1 => ?_⟩
    cases eg : gSortSet R1 x with
    | none => rw [eg] at p1; exact p1.elim
    | some zs =>
      rw [eg] at p1
      unfold gSortSet at eg
      obtain ⟨ss, e1, e2⟩ := Option.bind_eq_some_iff.mp eg
      obtain ⟨xs, e3, e4⟩ := Option.bind_eq_some_iff.mp e1
      by_cases c : ss.length < 64
      · rw [if_pos c] at e2
        cases e2
        obtain ⟨l, vs, rfl, h1, k1⟩ := lstR_rel W1 r1 e3
        have ev := strs_rel k1 e4
        subst ev
        refine ⟨l, ss, rfl, h1, c, fun p hp => ?_⟩
        exact p1 p _ w1 _ (l1.trans (.new hp)) (W1.grow (upd_grow hp)) (l1.back W1 hp) (out_new W1 hp) upd_same (strs_rels _)
      · rw [if_neg c] at e2; cases e2
  refine PyProof.Rows.callWith_type1 (PyProof.Rows.args_cons (thn (ha.run pins s σ H _ I h') fun v s1 ⟨x, H1, I1, r1, q1⟩ => PyProof.Rows.args_nil ?_) na) na rfl
  obtain ⟨l, ss, rfl, hq, h64, q1⟩ := q1
  cases r1
  refine set_made hc I1 hq (by omega) fun h1 tk c TR cl I2 => ?_
  refine PyProof.Rows.args_nil ?_
  obtain ⟨o, es, ep, t, ho, hex, hd, g, nd, hmm, hb, hf, hn, hr, hl⟩ := TR
  refine Calls.call_function_entry kind_sorted plain_sorted entry_sorted (args_sorted1 _) ?_
  unfold Builtin.«sorted»
  refine wpAny_bind (m := checkCount "sorted" 1 1 _) (wpAny_pure ?_)
  refine wpAny_bind (collect_set (A := X.A.in1) (I2.ok.hd hc) ⟨o, ho, hex.1, hd⟩ hf hb hr hl fun s3 vs k1 hz g1 o1 pm => ?_)
  have hvl : vs.length = c := by rw [pm.length_eq, List.length_map, Array.length_toList]; exact hn
  obtain ⟨ks, hS, ek⟩ := strs_of vs fun v hv => by
    obtain ⟨e, he, q⟩ := List.mem_map.mp (pm.mem_iff.mp hv)
    obtain ⟨k, tk, h1, _⟩ := g e he
    exact ⟨k, tk, by rw [← q]; exact h1⟩
  have pk : ks.Perm (es.toList.map keyT) := by
    have q := pm.map fun v => keyT (0, v)
    rw [List.map_map] at q
    rw [ek]
    exact q
  have I3 : L2.Inv X pins σ H1 s3 := by
    have J := I2.kept (h' := s3.heap) (t' := s3.toks) k1
    exact ⟨J.ok, o1.trans J.os, by rw [g1]; exact J.bare, J.base, J.loc, J.cell, J.free, J.freeC, J.pin, J.hok, J.len⟩
  have hcl : c ≤ ss.length := cl
  have hal : vs.length < 64 := by omega
  refine wpAny_bind (wpAny_newList ?_ (by rw [sizeLine_eq]; omega))
  have hoL : (s3.heap.push (seqObj "list" vs.toArray 0)).get? s3.heap.objs.size = some (seqObj "list" vs.toArray 0) := Heap.get?_push_size _ rfl
  refine wpAny_bind (wpAny_holding (wpAny_call_entry PyProof.Rows.slot_list_sort ⟨_, hoL, rfl⟩ PyProof.Rows.entry_list_sort
    (list_sort_treeK strKind_oneLt hoL hS.keysOf (fun v₁ v₂ rest e => keyKind_strs (by rw [← e]; exact hS)) hal fun st' hp hs => ⟨_, rfl, ?_⟩)
    (PyProof.Rows.args_list_sort _)))
  obtain ⟨ys, g1', g2, g3⟩ := sorted_out_str hS hp hs
  obtain ⟨e', he'⟩ := PyProof.Rows.sortedHeap_at (vs := vs) (out := (arrOf st').map (·.2)) hoL
  have ey : ys = sortStr (ddp ss) := by
    refine sort_uniq (g2.trans (pk.trans (perm_of_mem nd (ddp_nodup ss) fun k => ?_))) (sortedS_pw g3)
    rw [← hmm k, ddp_mem, decide_eq_true_eq]
  have hlen : (ys.map V.str).length ≤ sizeLine := by
    rw [List.length_map, g2.length_eq, pk.length_eq, List.length_map, Array.length_toList, hn, sizeLine_eq]
    omega
  subst ey
  refine wpAny_pure ⟨_, rfl, .ref s3.heap.objs.size, upd H1 s3.heap.objs.size (.lst ((sortStr (ddp ss)).map V.str)), I3.laid (t' := s3.toks) (fun b u e => ?_) (Nat.le_refl _)
    (show ObjOk X.prog X.w _ _ _ (.lst _) from ⟨hlen, ((arrOf st').map (·.2)).toList, e', vals_of_strs g1', by rw [Array.toArray_toList]; exact he'⟩), rfl, q1 _ (I3.hok.fresh (Nat.le_refl _))⟩
  have hb : b < s3.heap.objs.size := Heap.lt_size e
  rw [PyProof.Rows.sortedHeap_old (Nat.ne_of_lt hb) (by rw [size_push']; exact Nat.lt_succ_of_lt hb)]
  exact Heap.get?_push_of_some _ e
theorem ed_lenSet (hg : Gl X "len") (hm : X.mg "len" = none) (hg2 : Gl X "set") (hm2 : X.mg "set" = none) (ha : ED X W a da) (hc : X.calm = true)
    (na : starEach [a] X.env = (false, eval a X.env) :: starEach [] X.env := by rfl) : ED X W (.Call (.Name "len" p) [.Call (.Name "set" p2) [a] [] q] [] pos) (dLenSet da) := by
  refine ⟨fun pins s σ H Q I h => ?_⟩
  obtain ⟨w, ρ, R, A, pp⟩ := h
  refine Call_ (ld_blt I hg hm boot_len ?_)
  refine PyProof.Rows.callWith_builtin1 (PyProof.Rows.args_cons ?_ rfl) rfl rfl
  refine Call_ (ld_blt I hg2 hm2 boot_set ?_)
  have h' : rdE X.K W da σ H fun x H1 => ∃ (l : Addr) (ss : List Str), x = .ref l ∧ SqL X.K H1 l (ss.map V.str) ∧ ss.length < 4000 ∧ Q (.int (ddp ss).length) H1 := by
    refine ⟨w, ρ, R, A, pp.bind.imp fun x R1 p1 v w1 H1 l1 W1 r1 => ?_⟩
    cases eg : gLenSet R1 x with
    | none => rw [eg] at p1; exact p1.elim
    | some z =>
      rw [eg] at p1
      unfold gLenSet at eg
      obtain ⟨ss, e1, e2⟩ := Option.bind_eq_some_iff.mp eg
      obtain ⟨xs, e3, e4⟩ := Option.bind_eq_some_iff.mp e1
      by_cases c : ss.length < 4000
      · rw [if_pos c] at e2
        cases e2
        obtain ⟨l, vs, rfl, h1, k1⟩ := lstR_rel W1 r1 e3
        have ev := strs_rel k1 e4
        subst ev
        exact ⟨l, ss, rfl, h1, c, p1 _ w1 H1 l1 W1 (.int _)⟩
      · rw [if_neg c] at e2; cases e2
  refine PyProof.Rows.callWith_type1 (PyProof.Rows.args_cons (thn (ha.run pins s σ H _ I h') fun v s1 ⟨x, H1, I1, r1, q1⟩ => PyProof.Rows.args_nil ?_) na) na rfl
  obtain ⟨l, ss, rfl, hq, hl, q1⟩ := q1
  cases r1
  refine set_made hc I1 hq hl fun h1 tk c TR cl I2 => ?_
  refine PyProof.Rows.args_nil ?_
  obtain ⟨o, es, ep, t, ho, hex, hd, g, nd, hmm, hb, hf, hn, hr, hl2⟩ := TR
  have ec : (ddp ss).length = es.size := by
    have pp := perm_of_mem (ddp_nodup ss) nd fun k => by rw [← hmm k, ddp_mem, decide_eq_true_eq]
    rw [pp.length_eq, List.length_map, Array.length_toList]
  exact call_len_set ho hex hd hf (by rw [hn]; omega) ⟨.int (ddp ss).length, H1, I2.tok _, ⟨_, by rw [ec]⟩, q1⟩
end
end Y
end
section
set_option Elab.async false
set_option linter.all false
set_option maxRecDepth 100000
set_option maxHeartbeats 4000000
namespace Y
open PySem PySem.Spec PyProof.Rows L2
/-! ### {k: v, k': v'}, the keys different -/
def dDisp2 (k v k' v' : DE) : Rho → Wd → Rs (List (Key × D)) := fun ρ R => (k ρ R).bind fun x R1 => (v ρ R1).bind fun y R2 => (k' ρ R2).bind fun x' R3 => (v' ρ R3).bind fun y' R4 => match Y.keyOf x, Y.keyOf x' with
  | some q, some q' => if q = q' then .stuck else .ok [(q, y), (q', y')] R4
  | _, _ => .stuck
/-! ### xs[::-1] -/
def dRev (e : DE) : DA := fun ρ R => (e ρ R).bind fun x R1 => match lstR R1 x with
  | some xs => .ok xs.reverse R1
  | none => .stuck
section
variable {X : Cx} {W : WX} {pos : Pos} {k v k' v' : Expr} {dk dv dk' dv' : DE}
theorem fk_disp2 (hk : ED X W k dk) (hv : ED X W v dv) (hk' : ED X W k' dk') (hv' : ED X W v' dv') : FK X W (.Dict [some k, some k'] [v, v'] pos) (dDisp2 dk dv dk' dv') := by
  refine PEimp (pe_disp (pps_cons hk hv (pps_cons hk' hv' pps_nil)) rfl rfl (fun z => by cases z) (show 2 ≤ 15 by omega)) fun σ H Q h => ?_
  obtain ⟨w, ρ, R, A, p⟩ := h
  intro D hD
  have s0 : Stp w H w (upd H D (.dK [])) := Stp.refl.poke hD
  have W0 : WR X.K w (upd H D (.dK [])) R := A.W.poke (out_new A.W hD)
  refine ⟨w, ρ, R, ⟨W0, A.S⟩, p.bind.mono s0 fun x R1 p1 => ?_⟩
  intro v1 w1 H1 l1 W1 r1
  refine ⟨w1, ρ, R1, ⟨W1, A.S.mono l1.le⟩, (Post.bind p1).mono (s0.trans l1) fun y R2 p2 => ?_⟩
  intro u w2 H2 l2 W2 r2
  refine ⟨w2, ρ, R2, ⟨W2, (A.S.mono l1.le).mono l2.le⟩, (Post.bind p2).mono ((s0.trans l1).trans l2) fun x' R3 p3 => ?_⟩
  intro v3 w3 H3 l3 W3 r3
  refine ⟨w3, ρ, R3, ⟨W3, ((A.S.mono l1.le).mono l2.le).mono l3.le⟩, (Post.bind p3).mono (((s0.trans l1).trans l2).trans l3) fun y' R4 p4 => ?_⟩
  intro u4 w4 H4 l4 W4 r4
  obtain ⟨d1, o1⟩ := l1.fr D _ upd_same (out_new A.W hD)
  obtain ⟨d2, o2⟩ := l2.fr D _ d1 o1
  obtain ⟨d3, o3⟩ := l3.fr D _ d2 o2
  obtain ⟨d4, o4⟩ := l4.fr D _ d3 o3
  cases e : Y.keyOf x with
  | none => rw [e] at p4; exact p4.elim
  | some q =>
    cases e' : Y.keyOf x' with
    | none => rw [e, e'] at p4; exact p4.elim
    | some q' =>
      rw [e, e'] at p4
      have p4 : Post X.K W w H σ (if q = q' then .stuck else .ok [(q, y), (q', y')] R4) (fun xs R' => ∀ a kv w' H', Stp w H w' H' → WR X.K w' H' R' → H a = none → w'.out a → H' a = some (.dK kv) → RelK X.K w' kv xs → Q (.ref a) H') := p4
      by_cases c : q = q'
      · rw [if_pos c] at p4; exact p4.elim
      · rw [if_neg c] at p4
        refine ⟨d4, [(q, u), (q', u4)], ?_, (show 2 ≤ 15 by omega), ?_⟩
        · rw [keyOf_rel r1 e, keyOf_rel r3 e']; rfl
        · have em : mergeK [] [(q, u), (q', u4)] = [(q, u), (q', u4)] := by
            have c' : ¬ q' = q := fun z => c z.symm
            simp [mergeK, putK, c, c']
          rw [em]
          exact p4 D _ w4 (upd H4 D (.dK [(q, u), (q', u4)])) (((((s0.trans l1).trans l2).trans l3).trans l4).poke hD) (W4.poke o4) hD o4 upd_same (.cons rfl ((r2.mono l3.le).mono l4.le) (.cons rfl r4 .nil))
theorem fl_rev {e : Expr} {de : DE} {k : Nat} {p1 p2 p3 pos : Pos} (he : ED X W e de) : FL X W (.Subscript e (.Slice none none (some (.UnaryOp .USub (.Constant (.int 1) k p1) p2)) p3) pos) (dRev de) := by
  refine PEimp (pe_revL he) fun σ H Q h => ?_
  obtain ⟨w, ρ, R, A, p⟩ := h
  refine ⟨w, ρ, R, A, p.bind.imp fun x R1 p1 v1 w1 H1 l1 W1 r1 => ?_⟩
  cases e : lstR R1 x with
  | none => rw [e] at p1; exact p1.elim
  | some xs =>
    rw [e] at p1
    obtain ⟨l, vs, rfl, h1, k1⟩ := lstR_rel W1 r1 e
    exact ⟨l, vs, rfl, h1, fun p hp => p1 p _ w1 _ (l1.trans (.new hp)) (W1.grow (upd_grow hp)) (l1.back W1 hp) (out_new W1 hp) upd_same k1.reverse⟩
end
end Y
end
section
set_option Elab.async false
set_option linter.all false
set_option maxRecDepth 100000
set_option maxHeartbeats 4000000
noncomputable section
namespace Y
open PySem PySem.Spec PyProof.Rows L2 HotX
open Classical
section
variable {X : Cx} {W : WX}
/-- name = [..] on one line, the name a local -/
theorem ps_setLcN {p0 : Addr × Obj} {i : Nat} {y : Str} {py : Pos} {elt tg iter : Expr} {ifs : List Expr} {scope : Scope} {own : List (Str × Nat)} {pos spos : Pos} {wi : TI} {g : TG} {tt : TT} {te : TE} (hc : HotP X p0) (hN : X.N.Nodup) (hy : X.N[i]? = some y) (hyl : X.env.scope.names.lookup y = some .local)
    (hsw : swapsWith (.ListComp elt [⟨tg, iter, ifs, 0⟩] scope pos) (some (.Name y py)) spos.line X.env = pure true) (hi : PIN X tg iter wi) (ok : BlkOk X.N X.env.scope scope own)
    (hg : ∀ (s : Shared) (H : Hp) (C : Addr) (cl : List (Str × Addr)) (fp : List Addr), HotP (X.blk s H scope (compEnvC scope cl C X.env) fp) p0 → PG (X.blk s H scope (compEnvC scope cl C X.env) fp) tg g) (ht : ∀ (s : Shared) (H : Hp) (C : Addr) (cl : List (Str × Addr)) (fp : List Addr), HotP (X.blk s H scope (compEnvC scope cl C X.env) fp) p0 → PTs (X.blk s H scope (compEnvC scope cl C X.env) fp) ifs tt)
    (he : ∀ (s : Shared) (H : Hp) (C : Addr) (cl : List (Str × Addr)) (fp : List Addr), HotP (X.blk s H scope (compEnvC scope cl C X.env) fp) p0 → PE (X.blk s H scope (compEnvC scope cl C X.env) fp) elt te) (hs : ∀ x, foldedSetIterable iter X.env x = pure x := by intro _; rfl) :
    PS X (.Assign [.Name y py] (.ListComp elt [⟨tg, iter, ifs, 0⟩] scope pos) spos) (tAsg (tLc wi g tt te (own.map (·.2))) (gName i)) := by
  refine ⟨fun pins s σ H D I h => ?_⟩
  rw [exec_Assign_Name_used _ _ _ _ hsw]
  refine wpAny_bind (wpAny_standAt (wpAny_bind ?_))
  show wpAny _ X.A (do let _ ← comprehension (.ListComp elt [⟨tg, iter, ifs, 0⟩] scope pos) scope X.env (firstIterPos [⟨tg, iter, ifs, 0⟩] pos) (newList []) false (eval iter X.env) (some (assign (.Name y py) X.env))) _ _ s
  have h : tLc wi g tt te (own.map (·.2)) σ H (fun x H1 => gName i x σ H1 D.nx) := h
  refine wpAny_bind (thn (lc_coreN (Qf := fun _ s' => L2.SP X pins D .next s') hc hN I hi ok hg ht he hs h fun L C s' m H' I' q hn f => ?_) fun _ s' hq => wpAny_pure (wpAny_pure hq))
  show wpAny _ _ (assign (.Name y py) X.env (.ref L)) _ _ _
  refine wpAny_assign_Name (store_ok2 (v := V.ref L) I' hN hy (.inl hyl) rfl (fun s2 I2 ⟨a, sb, ha⟩ => ?_) (.inr hyl))
  obtain ⟨f0, f1, f2, f3, f4, f5⟩ := f
  have haC : C ≠ a := by
    rcases ha with z | z
    · rw [z]; exact f1
    · exact fun e => f4 y a z e.symm
  refine ⟨m, hn.sameBut sb haC, fun h3 sb3 => ?_⟩
  exact ⟨_, H', I2.turned (t' := s2.toks) (fun b o hb e => (sb3.2 b hb).trans e) f0 f1 f3 f4 f5, q⟩
theorem sd_setLcCN {p0 : Addr × Obj} {tg iter elt : Expr} {ifs : List Expr} {scope : Scope} {own : List (Str × Nat)} {t : Tg} {di : DI} {tt : DT} {de : DE} {pos : Pos} {i : Nat} {y : Str} {py spos : Pos} (hc : HotP X p0) (hN : X.N.Nodup) (hy : X.N[i]? = some y) (hyl : X.env.scope.names.lookup y = some .local)
    (hsw : swapsWith (.ListComp elt [⟨tg, iter, ifs, 0⟩] scope pos) (some (.Name y py)) spos.line X.env = pure true) (hi : IDN X W tg iter di) (ok : BlkOk X.N X.env.scope scope own) (ho : own.map (·.2) = t.vs)
    (hg : ∀ (s : Shared) (H : Hp) (C : Addr) (cl : List (Str × Addr)) (fp : List Addr), HotP (X.blk s H scope (compEnvC scope cl C X.env) fp) p0 → PG (X.blk s H scope (compEnvC scope cl C X.env) fp) tg (t.g X.K))
    (ht : ∀ (s : Shared) (H : Hp) (C : Addr) (cl : List (Str × Addr)) (fp : List Addr), HotP (X.blk s H scope (compEnvC scope cl C X.env) fp) p0 → PTsD (X.blk s H scope (compEnvC scope cl C X.env) fp) W0 ifs tt)
    (he : ∀ (s : Shared) (H : Hp) (C : Addr) (cl : List (Str × Addr)) (fp : List Addr), HotP (X.blk s H scope (compEnvC scope cl C X.env) fp) p0 → ED (X.blk s H scope (compEnvC scope cl C X.env) fp) W0 elt de) (hs : ∀ x, foldedSetIterable iter X.env x = pure x := by intro _; rfl) :
    SD X W (.Assign [.Name y py] (.ListComp elt [⟨tg, iter, ifs, 0⟩] scope pos) spos) (dSet i (dNewL (dLc t di tt de))) := PSimp (ps_setLcN hc hN hy hyl hsw hi ok hg ht he hs) fun E σ H h => by
  obtain ⟨w, ρ, R, A, p⟩ := h
  rw [ho]
  refine rd_lc (W := W) (tt := tt) (de := de) ⟨w, ρ, R, A, ?_⟩
  have p' := (Rs.post A p).bind
  refine p'.imp fun xs R1 p1 a vs w1 H1 l1 W1 ha o e r => ?_
  obtain ⟨n1, n2, n3⟩ := new_lst W1 o e r
  exact p1 _ _ _ (l1.cell ha n2) ⟨n1, ((A.S.mono l1.le).mono n2).set i n3⟩


end
end Y
end
end
section
set_option linter.all false
set_option maxRecDepth 100000
set_option maxHeartbeats 1000000
noncomputable section
namespace Y
open PySem PySem.Spec PyProof.Rows L2
open TL (tl joinL len_tl join_eq tl_join)
/-! ### texts: their signs, parts, rows -/
def OkT (s : Str) : Prop := ∀ c ∈ tl s, c < 1114112
theorem OkT.ok {s : Str} (h : OkT s) : PyData.strOk s = true := by
  unfold PyData.strOk
  rw [Array.all_eq_true']
  intro c hc
  have := h c (Array.mem_toList_iff.mpr hc)
  simpa using this
theorem name_okT {s : Str} (h : IsName s) : OkT s := fun c hc => by have := (name_chars h c hc).2; omega
theorem mem_joinJ {S p : List Nat} {c : Nat} : ∀ {ps : List (List Nat)}, p ∈ ps → c ∈ p → c ∈ joinL S ps
  | [q], hp, hc => by
    have : p = q := by simpa using hp
    subst this
    exact hc
  | q :: r :: l, hp, hc => by
    show c ∈ q ++ (S ++ joinL S (r :: l))
    rcases List.mem_cons.mp hp with rfl | hp
    · exact List.mem_append_left _ hc
    · exact List.mem_append_right _ (List.mem_append_right _ (mem_joinJ hp hc))
theorem split_join' (x y : Str) : Txt.join y (Txt.split x y) = x := by rw [join_eq]; exact StrLaws.join_split x y
theorem split_mem {x y p : Str} {c : Nat} (hp : p ∈ Txt.split x y) (hc : c ∈ tl p) : c ∈ tl x := by
  have e := StrLaws.join_split x y
  have e2 : tl (Str.join y (Txt.split x y)) = tl x := by rw [e]
  rw [← e2, tl_join]
  exact mem_joinJ (List.mem_map.mpr ⟨p, hp, rfl⟩) hc
theorem split_okT {x y p : Str} (h : OkT x) (hp : p ∈ Txt.split x y) : OkT p := fun c hc => h c (split_mem hp hc)
theorem le_sum {α : Type} {f : α → Nat} : ∀ {l : List α} {x : α}, x ∈ l → f x ≤ (l.map f).sum
  | y :: l, x, h => by
    rw [List.map_cons, List.sum_cons]
    rcases List.mem_cons.mp h with rfl | h
    · omega
    · have := le_sum (f := f) h; omega
theorem split_ne (x y : Str) : Txt.split x y ≠ [] := fun e => by have := split_pos x y; rw [e] at this; simp at this
theorem split_wt (x y : Str) (hy : 1 ≤ y.length) : ((Txt.split x y).map (·.length)).sum + (Txt.split x y).length ≤ x.length + 1 := split_weight x y hy
theorem split_plen {x y p : Str} (hy : 1 ≤ y.length) (hp : p ∈ Txt.split x y) : p.length ≤ x.length := by
  have h1 := split_wt x y hy
  have h2 := le_sum (f := fun s : Str => s.length) hp
  have h3 : 1 ≤ (Txt.split x y).length := split_pos x y
  omega
theorem split_num {x y : Str} (hy : 1 ≤ y.length) : (Txt.split x y).length ≤ x.length + 1 := by have := split_wt x y hy; omega
theorem join_okT {a : Str} {ss : List Str} (ha : OkT a) (h : ∀ s ∈ ss, OkT s) : OkT (Txt.join a ss) := fun c hc => by
  rcases mem_join hc with h1 | ⟨s, hs, h1⟩
  · exact ha c h1
  · exact h s hs c h1
theorem app_okT {a b : Str} (ha : OkT a) (hb : OkT b) : OkT (a ++ b) := fun c hc => by
  rw [TL.tl_append, List.mem_append] at hc
  rcases hc with h | h
  · exact ha c h
  · exact hb c h
theorem cutS_mem {s : Str} {lo hi : Option Int} {c : Nat} (h : c ∈ tl (cutS s lo hi)) : c ∈ tl s := by
  unfold cutS at h
  exact List.mem_of_mem_drop (List.mem_of_mem_take h)
theorem cutS_okT {s : Str} {lo hi : Option Int} (h : OkT s) : OkT (cutS s lo hi) := fun c hc => h c (cutS_mem hc)
theorem cutS_sub (s : Str) (lo hi : Option Int) : (tl (cutS s lo hi)).Sublist (tl s) := by
  unfold cutS
  exact (List.take_sublist _ _).trans (List.drop_sublist _ _)
theorem cutS_len (s : Str) (lo hi : Option Int) : (cutS s lo hi).length ≤ s.length := by
  rw [len_tl, len_tl]
  exact (cutS_sub s lo hi).length_le
/-! the number of line ends -/
def nls (s : Str) : Nat := (tl s).count 10
theorem cnt_count (c : Nat) : ∀ l : List Nat, cnt c l = (l.count c : Nat)
  | [] => rfl
  | n :: r => by
    rw [cnt_cons, cnt_count c r, List.count_cons]
    by_cases h : n = c
    · subst h; simp; omega
    · simp [h]
theorem rows_num (x : Str) : (Txt.split x "\n").length = 1 + nls x := by
  have h := PyProof.Rows.split_len x 10
  rw [cnt_count] at h
  have h2 : ((Txt.split x "\n").length : Int) = 1 + ((nls x : Nat) : Int) := h
  omega
theorem rows_free {x p : Str} (hp : p ∈ Txt.split x "\n") : nls p = 0 := List.count_eq_zero.mpr (StrLaws.split_free x 10 p hp)
theorem nls_app (a b : Str) : nls (a ++ b) = nls a + nls b := by unfold nls; rw [TL.tl_append, List.count_append]
theorem nls_cut (s : Str) (lo hi : Option Int) : nls (cutS s lo hi) ≤ nls s := (cutS_sub s lo hi).count_le 10
theorem count_joinL (S : List Nat) : ∀ ps : List (List Nat), (joinL S ps).count 10 ≤ (ps.map (List.count 10)).sum + (ps.length - 1) * S.count 10
  | [] => by simp [joinL]
  | [p] => by simp [joinL]
  | p :: q :: r => by
    have ih := count_joinL S (q :: r)
    show (p ++ (S ++ joinL S (q :: r))).count 10 ≤ _
    rw [List.count_append, List.count_append]
    simp only [List.map_cons, List.sum_cons, List.length_cons, Nat.add_sub_cancel] at ih ⊢
    rw [Nat.add_mul]
    omega
theorem nls_join (a : Str) (ss : List Str) : nls (Txt.join a ss) ≤ (ss.map nls).sum + (ss.length - 1) * nls a := by
  unfold nls
  rw [join_eq, tl_join]
  have := count_joinL (tl a) (ss.map tl)
  rw [List.map_map, List.length_map] at this
  exact this
theorem sum_zero {α : Type} {f : α → Nat} : ∀ {l : List α}, (∀ x ∈ l, f x = 0) → (l.map f).sum = 0
  | [], _ => rfl
  | x :: l, h => by rw [List.map_cons, List.sum_cons, h x List.mem_cons_self, sum_zero fun y hy => h y (List.mem_cons_of_mem _ hy)]
/-- rows joined again -/
theorem nls_rows {ss : List Str} (h : ∀ s ∈ ss, nls s = 0) : nls (Txt.join "\n" ss) ≤ ss.length - 1 := by
  have := nls_join "\n" ss
  rw [sum_zero h, show nls "\n" = 1 from rfl] at this
  omega
/-! the last sign -/
def lastS (w : Str) : Str := cutS w (some (-1)) none
def initS (w : Str) : Str := cutS w none (some (-1))
theorem len_init (w : Str) : tl (initS w) = (tl w).take ((tl w).length - 1) := by
  unfold initS cutS
  show (w.cps.toList.drop (HT.sIx w.length 0 none)).take (HT.sIx w.length w.length (some (-1)) - HT.sIx w.length 0 none) = _
  have e2 : HT.sIx w.length w.length (some (-1)) = w.length - 1 := by
    show (if (-1 : Int) < 0 then ((-1 : Int) + ((w.length : Nat) : Int)).toNat else min ((-1 : Int).toNat) w.length) = _
    rw [if_pos (by decide)]; omega
  rw [e2, HT.sIx_none, List.drop_zero, Nat.sub_zero, len_tl]
theorem len_last (w : Str) : tl (lastS w) = (tl w).drop ((tl w).length - 1) := by
  unfold lastS cutS
  show (w.cps.toList.drop (HT.sIx w.length 0 (some (-1)))).take (HT.sIx w.length w.length none - HT.sIx w.length 0 (some (-1))) = _
  have e2 : HT.sIx w.length 0 (some (-1)) = w.length - 1 := by
    show (if (-1 : Int) < 0 then ((-1 : Int) + ((w.length : Nat) : Int)).toNat else min ((-1 : Int).toNat) w.length) = _
    rw [if_pos (by decide)]; omega
  rw [e2, HT.sIx_none, len_tl]
  show List.take _ ((tl w).drop _) = _
  rw [List.take_of_length_le]
  rw [List.length_drop]
  exact Nat.le_refl _
theorem init_last (w : Str) : initS w ++ lastS w = w := by
  apply TL.ext_tl
  rw [TL.tl_append, len_init, len_last, List.take_append_drop]
theorem last_colon {w : Str} (h : lastS w = ":") : initS w ++ ":" = w := by
  have := init_last w
  rw [h] at this
  exact this
theorem ends_colon (w : Str) : Txt.endswith w ":" = decide (lastS w = ":") := by
  by_cases h : lastS w = ":"
  · rw [decide_eq_true h]
    have := ends_app (initS w) ":"
    rw [last_colon h] at this
    exact this
  · rw [decide_eq_false h, Bool.eq_false_iff]
    intro e
    apply h
    unfold Txt.endswith at e
    rw [Bool.and_eq_true, decide_eq_true_eq] at e
    obtain ⟨e1, e2⟩ := e
    have e1 : 1 ≤ w.length := by have : (":" : Str).length = 1 := rfl; omega
    rw [PySem.StrLaws.subAt_eq] at e2
    have e2 := eq_of_beq e2
    apply TL.ext_tl
    rw [len_last]
    have e3 : (tl w).length - 1 = w.length - (":" : Str).length := by rw [← len_tl]; rfl
    rw [e3]
    have e4 : ((tl w).drop (w.length - (":" : Str).length)).take (":" : Str).length = tl (":" : Str) := e2
    rw [← e4, List.take_of_length_le]
    rw [List.length_drop, ← len_tl, show (":" : Str).length = 1 from rfl]
    omega
end Y
end
end
section
set_option Elab.async false
set_option linter.all false
set_option maxRecDepth 100000
set_option maxHeartbeats 4000000
noncomputable section
namespace Y
open PySem PySem.Spec PyProof.Rows L2
open Classical
/-! ### a text times an int -/
def gMulS (_ : Wd) : D → D → Option D
  | .str a, .int k => if MulOk a k then some (.str (Txt.mul a k)) else none
  | _, _ => none
theorem od_mulS {X : Cx} : OpD X (binaryOp .Mult) gMulS := by
  intro pins s σ H x y v u Q I rx ry h
  obtain ⟨w, R, x', y', z, W, r1, r2, e, q⟩ := h
  unfold gMulS at e
  split at e
  · split at e
    · rename_i c
      cases e; cases r1; cases r2
      obtain ⟨t, rfl⟩ := rx
      obtain ⟨t', rfl⟩ := ry
      exact SB.mul c fun t2 k => ⟨.str _, H, I.tok _, ⟨_, rfl⟩, q.now W (.str _)⟩
    · cases e
  · cases e
end Y
end
end
section
set_option Elab.async false
set_option linter.all false
set_option maxRecDepth 100000
set_option maxHeartbeats 0
noncomputable section
namespace K50
open PySem PySem.Spec PyProof.Rows L2 Y
def top (i : Nat) : Stmt := PySem.Challenge.pw_asklines_k50_texts_of_no_line_and_no_log.main.body.getD i (.Pass ⟨0, 0, 0, 0⟩)
def d__law_source (K : PySem.W.Frag) : DS := dSeq (dSet 2 (dK (.int 0))) (dSeq (dIfS (dTst (dBin gLtX (dVar 1) (dCall gLen (dCons (dVar 0) (dNil))))) (dSet 2 (dBin gIx (dVar 0) (dVar 1))) (dNext)) (dRet (dNewL (dSz (dCons (dCall gMax (dCons (dK (.int 0)) (dCons (dBin gSub (dVar 2) (dBin gPow (dK (.int 10)) (dK (.int 18)))) (dNil)))) (dCons (dBin gAddX (dBin gAddX (dBin gMulX (dBin gMod (dVar 2) (dBin gAddX (dBin gPow (dK (.int 10)) (dK (.int 44))) (dK (.int 9)))) (dK (.int 256))) (dBin gMulX (dK (.int 3)) (dVar 1))) (dK (.int 2))) (dCons (dK (.int 0)) (dNil))))))))
def g__law_source (K : PySem.W.Frag) : List D → Wd → Rs D := fnD 3 .all (d__law_source K)
def d__law_pick (K : PySem.W.Frag) : DS := dSeq (dIfS (dTst (dBin gGt (dBin gIx (dVar 0) (dK (.int 0))) (dK (.int 0)))) (dSeq (dSet 3 (dBin gMod (dBin gIx (dVar 0) (dK (.int 0))) (dVar 1))) (dSeq (dPut (dBin gDiv (dBin gIx (dVar 0) (dK (.int 0))) (dVar 1)) (dVar 0) (dK (.int 0))) (dRet (dVar 3)))) (dNext)) (dSeq (dPut (dBin gAddX (dBin gIx (dVar 0) (dK (.int 2))) (dK (.int 1))) (dVar 0) (dK (.int 2))) (dSeq (dSet 2 (dBin gMod (dBin gPow (dBin gAddX (dBin gIx (dVar 0) (dK (.int 1))) (dBin gMulX (dK (.int 433494437)) (dBin gIx (dVar 0) (dK (.int 2))))) (dK (.int 3))) (dBin gAddX (dBin gPow (dK (.int 10)) (dK (.int 40))) (dK (.int 121))))) (dSeq (dSet 2 (dBin gMod (dBin gPow (dBin gAddX (dVar 2) (dBin gMulX (dK (.int 2971215073)) (dBin gIx (dVar 0) (dK (.int 2))))) (dK (.int 5))) (dBin gAddX (dBin gPow (dK (.int 10)) (dK (.int 41))) (dK (.int 37))))) (dRet (dBin gMod (dBin gDiv (dVar 2) (dK (.int 262139))) (dVar 1))))))
def g__law_pick (K : PySem.W.Frag) : List D → Wd → Rs D := fnD 4 .all (d__law_pick K)
def d__law_names (K : PySem.W.Frag) : DS := dSeq (dSet 2 (dNewL (dSz (dCons (dK (.str "a")) (dCons (dK (.str "b")) (dCons (dK (.str "p")) (dCons (dK (.str "g")) (dCons (dK (.str "z")) (dCons (dK (.str "ask")) (dCons (dK (.str "net")) (dCons (dK (.str "line")) (dCons (dK (.str "none")) (dCons (dK (.str "empty")) (dCons (dK (.str "abcdefgh")) (dCons (dK (.str "abcdefgi")) (dCons (dK (.str "zzzzzzzz")) (dNil))))))))))))))))) (dSeq (dSet 3 (dK (.str "abcdefghijklmnopqrstuvwxyz"))) (dSeq (dSet 2 (dNewL (dBinL gAddL (dBin gAddX (dVar 2) (dFz (dLock (dVar 3) (dLc (.nm 5) (dIts (dVar 3)) (dYes) (dBin gAddX (dK (.str "n")) (dVar 5)))))) (dFz (dLock (dVar 3) (dLc (.nm 5) (dIts (dVar 3)) (dYes) (dBin gAddX (dK (.str "k")) (dVar 5)))))))) (dRet (dFz (dLc (.nm 4) (dRng1 (dVar 1)) (dYes) (dMeth "list" gPop (dVar 2) (dCons (dCallF 2 (g__law_pick K) (dCons (dVar 0) (dCons (dCall gLen (dCons (dVar 2) (dNil))) (dNil)))) (dNil))))))))
def g__law_names (K : PySem.W.Frag) : List D → Wd → Rs D := fnD 6 .all (d__law_names K)
def d__law_logs (K : PySem.W.Frag) : DS := dSeq (dSet 3 (dCallF 2 (g__law_names K) (dCons (dVar 0) (dCons (dBin gAddX (dK (.int 1)) (dCallF 2 (g__law_pick K) (dCons (dVar 0) (dCons (dVar 1) (dNil))))) (dNil))))) (dSeq (dSet 4 (dNewK (dNilK))) (dSeq (dLockS (dVar 3) (dFor (.nm 5) (dIts (dVar 3)) (dSeq (dSet 6 (dCallF 2 (g__law_pick K) (dCons (dVar 0) (dCons (dBin gAddX (dVar 2) (dK (.int 1))) (dNil))))) (dSeq (dPut (dFz (dLc (.nm 7) (dRng1 (dVar 6)) (dYes) (dBin gIx (dVar 3) (dCallF 2 (g__law_pick K) (dCons (dVar 0) (dCons (dCall gLen (dCons (dVar 3) (dNil))) (dNil))))))) (dVar 4) (dVar 5)) (dIfS (dTst (dBin gGt (dVar 6) (dK (.int 9)))) (dPut (dFz (dLc (.nm 8) (dIts (dBin gIx (dVar 4) (dVar 5))) (dYes) (dIfE (dTst (dBin gEq (dVar 8) (dVar 5))) (dK (.str "mm")) (dVar 8)))) (dVar 4) (dVar 5)) (dNext)))))) (dRet (dVar 4))))
def g__law_logs (K : PySem.W.Frag) : List D → Wd → Rs D := fnD 9 .all (d__law_logs K)
def d_is_name (K : PySem.W.Frag) : DS := dSeq (dIfS (dOr (dNot (dTst (dIsi "str" (dVar 0)))) (dNot (dTst (dChain gLe gLe (dK (.int 1)) (dCall gLen (dCons (dVar 0) (dNil))) (dK (.int 8)))))) (dRet (dK (.bl false))) (dNext)) (dRet (dCall gAll (dCons (dFz (dLock (dVar 0) (dLc (.nm 1) (dIts (dVar 0)) (dYes) (dBin gIn (dVar 1) (dK (.str "abcdefghijklmnopqrstuvwxyz")))))) (dNil))))
def g_is_name (K : PySem.W.Frag) : List D → Wd → Rs D := fnD 2 .all (d_is_name K)
def d_are_names (K : PySem.W.Frag) : DS := dRet (dAndV (dIsi "list" (dVar 0)) (dAndV (dChain gLe gLe (dVar 1) (dCall gLen (dCons (dVar 0) (dNil))) (dK (.int 400))) (dCall gAll (dCons (dFz (dLock (dVar 0) (dLc (.nm 2) (dIts (dVar 0)) (dYes) (dCallF 1 (g_is_name K) (dCons (dVar 2) (dNil)))))) (dNil)))))
def g_are_names (K : PySem.W.Frag) : List D → Wd → Rs D := fnD 3 .all (d_are_names K)
def d_read_line (K : PySem.W.Frag) : DS := dSeq (dSet 1 (dIfE (dTst (dIsi "str" (dVar 0))) (dFz (dMethG "str" gSplit (dVar 0) (dCons (dK (.str " ")) (dNil)))) (dFz (dNil)))) (dSeq (dIfS (dNot (dTst (dCallF 2 (g_are_names K) (dCons (dVar 1) (dCons (dK (.int 1)) (dNil)))))) (dRaise (He.ga K "NoText") (dCons (dK (.str "not the text of a line")) (dNil))) (dNext)) (dRet (dVar 1)))
def g_read_line (K : PySem.W.Frag) : List D → Wd → Rs D := fnD 2 .all (d_read_line K)
def d_are_lists_of_names (K : PySem.W.Frag) : DS := dSeq (dIfS (dOr (dNot (dTst (dIsi "dict" (dVar 0)))) (dOr (dNot (dTst (dChain gLe gLe (dK (.int 1)) (dCall gLen (dCons (dVar 0) (dNil))) (dK (.int 40))))) (dNot (dTst (dCall gAll (dCons (dFz (dLock (dVar 0) (dLc (.nm 2) (dIts (dVar 0)) (dYes) (dCallF 1 (g_is_name K) (dCons (dVar 2) (dNil)))))) (dNil))))))) (dRet (dK (.bl false))) (dNext)) (dRet (dCall gAll (dCons (dFz (dLock (dVar 0) (dLc (.nm 1) (dVals (dVar 0)) (dYes) (dCallF 2 (g_are_names K) (dCons (dVar 1) (dCons (dK (.int 0)) (dNil))))))) (dNil))))
def g_are_lists_of_names (K : PySem.W.Frag) : List D → Wd → Rs D := fnD 3 .all (d_are_lists_of_names K)
def d_are_ascending (K : PySem.W.Frag) : DS := dRet (dCall gAll (dCons (dFz (dLc (.tp2 (.nm 1) (.nm 2)) (dZip (dVar 0) (dSlice gSl (dVar 0) (some (dK (.int 1))) none)) (dYes) (dBin gLtX (dVar 1) (dVar 2)))) (dNil)))
def g_are_ascending (K : PySem.W.Frag) : List D → Wd → Rs D := fnD 3 .all (d_are_ascending K)
def d_read_logs (K : PySem.W.Frag) : DS := dSeq (dIfS (dNot (dTst (dIsi "str" (dVar 0)))) (dRaise (He.ga K "NoText") (dCons (dK (.str "not a text")) (dNil))) (dNext)) (dSeq (dSet 1 (dFz (dLc (.nm 4) (dIts (dFz (dMethG "str" gSplit (dVar 0) (dCons (dK (.str "\n")) (dNil))))) (dYes) (dFz (dMethG "str" gSplit (dVar 4) (dCons (dK (.str " ")) (dNil))))))) (dSeq (dLockS (dVar 1) (dSet 2 (dFz (dLc (.nm 5) (dIts (dVar 1)) (dTst (dMeth "str" gEnds (dBin gIx (dVar 5) (dK (.int 0))) (dCons (dK (.str ":")) (dNil)))) (dSlice gSl (dBin gIx (dVar 5) (dK (.int 0))) none (some (dUn gNeg (dK (.int 1))))))))) (dSeq (dIfS (dOr (dTst (dBin gNe (dCall gLen (dCons (dVar 2) (dNil))) (dCall gLen (dCons (dVar 1) (dNil))))) (dNot (dTst (dCallF 1 (g_are_ascending K) (dCons (dVar 2) (dNil)))))) (dRaise (He.ga K "NoText") (dCons (dK (.str "not the text of logs")) (dNil))) (dNext)) (dSeq (dSet 3 (dFzK (dDc (.tp2 (.nm 6) (.nm 5)) (dZip (dVar 2) (dVar 1)) (dYes) (dVar 6) (dSlice gSl (dVar 5) (some (dK (.int 1))) none)))) (dSeq (dIfS (dNot (dTst (dCallF 1 (g_are_lists_of_names K) (dCons (dVar 3) (dNil))))) (dRaise (He.ga K "NoText") (dCons (dK (.str "not the text of logs")) (dNil))) (dNext)) (dRet (dVar 3)))))))
def g_read_logs (K : PySem.W.Frag) : List D → Wd → Rs D := fnD 7 .all (d_read_logs K)
def d__law_kinds (K : PySem.W.Frag) (Dc a : Addr) : DS := dSeq (dSet 1 (dFz (dSz (dCons (dIsE K Dc a (.ref (He.ga K "Blocked")) (dVar 0)) (dCons (dIsE K Dc a (.ref (He.ga K "Clash")) (dVar 0)) (dCons (dIsE K Dc a (.ref (He.ga K "NoAskers")) (dVar 0)) (dNil))))))) (dSeq (dSet 1 (dBin gAddX (dVar 1) (dFz (dSz (dCons (dIsE K Dc a (.ref (He.ga K "NoCommand")) (dVar 0)) (dCons (dIsE K Dc a (.ref (He.ga K "NoLine")) (dVar 0)) (dCons (dIsE K Dc a (.ref (He.ga K "NoLogs")) (dVar 0)) (dNil)))))))) (dSeq (dSet 1 (dBin gAddX (dVar 1) (dFz (dSz (dCons (dIsE K Dc a (.ref (He.ga K "NoMessage")) (dVar 0)) (dCons (dIsE K Dc a (.ref (He.ga K "NoName")) (dVar 0)) (dCons (dIsE K Dc a (.ref (He.ga K "NoNet")) (dVar 0)) (dNil)))))))) (dSeq (dSet 1 (dBin gAddX (dVar 1) (dFz (dSz (dCons (dIsE K Dc a (.ref (He.ga K "NoNode")) (dVar 0)) (dCons (dIsE K Dc a (.ref (He.ga K "NoNumber")) (dVar 0)) (dCons (dIsE K Dc a (.ref (He.ga K "NoOrder")) (dVar 0)) (dNil)))))))) (dSeq (dSet 1 (dBin gAddX (dVar 1) (dFz (dSz (dCons (dIsE K Dc a (.ref (He.ga K "NoRequest")) (dVar 0)) (dCons (dIsE K Dc a (.ref (He.ga K "NoText")) (dVar 0)) (dCons (dIsE K Dc a (.ref (He.ga K "NoTree")) (dVar 0)) (dNil)))))))) (dSeq (dSet 1 (dBin gAddX (dVar 1) (dFz (dSz (dCons (dIsE K Dc a (.ref (He.ga K "Taken")) (dVar 0)) (dCons (dIsE K Dc a (.ref (He.ga K "TooMany")) (dVar 0)) (dCons (dIsE K Dc a (.ref (He.ga K "Unsettled")) (dVar 0)) (dNil)))))))) (dSeq (dSet 2 (dNewL (dSz (dCons (dK (.str "Blocked")) (dCons (dK (.str "Clash")) (dCons (dK (.str "NoAskers")) (dCons (dK (.str "NoCommand")) (dCons (dK (.str "NoLine")) (dCons (dK (.str "NoLogs")) (dCons (dK (.str "NoMessage")) (dCons (dK (.str "NoName")) (dCons (dK (.str "NoNet")) (dNil))))))))))))) (dSeq (dSet 2 (dNewL (dBinL gAddL (dVar 2) (dFz (dSz (dCons (dK (.str "NoNode")) (dCons (dK (.str "NoNumber")) (dCons (dK (.str "NoOrder")) (dCons (dK (.str "NoRequest")) (dCons (dK (.str "NoText")) (dCons (dK (.str "NoTree")) (dCons (dK (.str "Taken")) (dCons (dK (.str "TooMany")) (dNil)))))))))))))) (dSeq (dExp (dMeth "list" gAppend (dVar 2) (dCons (dK (.str "Unsettled")) (dNil)))) (dSeq (dSet 3 (dNewL (dLc (.tp2 (.nm 4) (.nm 5)) (dZip (dVar 2) (dVar 1)) (dTst (dVar 5)) (dVar 4)))) (dSeq (dIfS (dOr (dNot (dTst (dIsE K Dc a (.ref (He.ga K "AskError")) (dVar 0)))) (dNot (dTst (dIsE K Dc a (.type "ValueError") (dVar 0))))) (dExp (dMeth "list" gAppend (dVar 3) (dCons (dK (.str "odd")) (dNil)))) (dNext)) (dRet (dVar 3))))))))))))
def g__law_kinds (K : PySem.W.Frag) (Dc a : Addr) : List D → Wd → Rs D := fnD 6 .all (d__law_kinds K Dc a)
def d__law_told (K : PySem.W.Frag) : DS := dTry K (He.ga K "AskError") 2 (dRet (dIfE (dTst (dBin gEq (dVar 0) (dK (.int 0)))) (dCallF 1 (g_read_line K) (dCons (dVar 1) (dNil))) (dCallF 1 (g_read_logs K) (dCons (dVar 1) (dNil))))) (fun Dc a => dRet (dCallF 1 (g__law_kinds K Dc a) (dCons (dVar 2) (dNil))))
def g__law_told (K : PySem.W.Frag) : List D → Wd → Rs D := fnD 3 .all (d__law_told K)
def d__law_own_name (K : PySem.W.Frag) : DS := dSeq (dIfS (dOr (dNot (dTst (dIsi "str" (dVar 0)))) (dOr (dTst (dBin gLtX (dCall gLen (dCons (dVar 0) (dNil))) (dK (.int 1)))) (dTst (dBin gGt (dCall gLen (dCons (dVar 0) (dNil))) (dK (.int 8)))))) (dRet (dK (.bl false))) (dNext)) (dRet (dBin gEq (dFz (dLock (dVar 0) (dLc (.nm 1) (dIts (dVar 0)) (dTst (dBin gNin (dVar 1) (dK (.str "abcdefghijklmnopqrstuvwxyz")))) (dVar 1)))) (dFz (dNil))))
def g__law_own_name (K : PySem.W.Frag) : List D → Wd → Rs D := fnD 2 .all (d__law_own_name K)
def d__law_line_of (K : PySem.W.Frag) : DS := dSeq (dSet 1 (dFz (dMethG "str" gSplit (dVar 0) (dCons (dK (.str " ")) (dNil))))) (dSeq (dLockS (dVar 1) (dSet 2 (dFz (dLc (.nm 3) (dIts (dVar 1)) (dNot (dTst (dCallF 1 (g__law_own_name K) (dCons (dVar 3) (dNil))))) (dVar 3))))) (dRet (dIfE (dOr (dTst (dBin gNe (dVar 2) (dFz (dNil)))) (dTst (dBin gGt (dCall gLen (dCons (dVar 1) (dNil))) (dK (.int 400))))) (dK .non) (dVar 1))))
def g__law_line_of (K : PySem.W.Frag) : List D → Wd → Rs D := fnD 4 .all (d__law_line_of K)
def d__law_logs_of (K : PySem.W.Frag) : DS := dSeq (dPar 1 2 (dCons (dNewK (dNilK)) (dCons (dNewL (dNil)) (dNil)))) (dSeq (dFor (.nm 3) (dIts (dFz (dMethG "str" gSplit (dVar 0) (dCons (dK (.str "\n")) (dNil))))) (dSeq (dSet 4 (dFz (dMethG "str" gSplit (dVar 3) (dCons (dK (.str " ")) (dNil))))) (dSeq (dPar 5 6 (dCons (dSlice gSl (dBin gIx (dVar 4) (dK (.int 0))) none (some (dUn gNeg (dK (.int 1))))) (dCons (dSlice gSl (dVar 4) (some (dK (.int 1))) none) (dNil)))) (dSeq (dIfS (dOr (dTst (dBin gNe (dSlice gSl (dBin gIx (dVar 4) (dK (.int 0))) (some (dUn gNeg (dK (.int 1)))) none) (dK (.str ":")))) (dTst (dBin gGt (dCall gLen (dCons (dVar 6) (dNil))) (dK (.int 400))))) (dRet (dK .non)) (dNext)) (dSeq (dIfS (dTst (dBin gNe (dFz (dLc (.nm 7) (dIts (dBin gAddX (dFz (dSz (dCons (dVar 5) (dNil)))) (dVar 6))) (dNot (dTst (dCallF 1 (g__law_own_name K) (dCons (dVar 7) (dNil))))) (dVar 7))) (dFz (dNil)))) (dRet (dK .non)) (dNext)) (dSeq (dExp (dMeth "list" gAppend (dVar 2) (dCons (dVar 5) (dNil)))) (dPut (dVar 6) (dVar 1) (dVar 5)))))))) (dRet (dIfE (dAnd (dTst (dBin gEq (dFz (dSortSet (dVar 2))) (dVar 2))) (dTst (dBin gLtX (dCall gLen (dCons (dVar 2) (dNil))) (dK (.int 41))))) (dVar 1) (dK .non))))
def g__law_logs_of (K : PySem.W.Frag) : List D → Wd → Rs D := fnD 8 .all (d__law_logs_of K)
def d_show_line (K : PySem.W.Frag) : DS := dSeq (dIfS (dNot (dTst (dCallF 2 (g_are_names K) (dCons (dVar 0) (dCons (dK (.int 1)) (dNil)))))) (dRaise (He.ga K "NoLine") (dCons (dK (.str "not a list of names")) (dNil))) (dNext)) (dRet (dMeth "str" gJoin (dK (.str " ")) (dCons (dVar 0) (dNil))))
def g_show_line (K : PySem.W.Frag) : List D → Wd → Rs D := fnD 1 .all (d_show_line K)
def d_show_logs (K : PySem.W.Frag) : DS := dSeq (dIfS (dNot (dTst (dCallF 1 (g_are_lists_of_names K) (dCons (dVar 0) (dNil))))) (dRaise (He.ga K "NoLogs") (dCons (dK (.str "not a dict from names to lists of names")) (dNil))) (dNext)) (dRet (dMeth "str" gJoin (dK (.str "\n")) (dCons (dFz (dLc (.nm 1) (dIts (dFz (dCallG gSorted (dCons (dVar 0) (dNil))))) (dYes) (dMeth "str" gJoin (dK (.str " ")) (dCons (dBin gAddX (dFz (dSz (dCons (dBin gAddX (dVar 1) (dK (.str ":"))) (dNil)))) (dBin gIx (dVar 0) (dVar 1))) (dNil))))) (dNil))))
def g_show_logs (K : PySem.W.Frag) : List D → Wd → Rs D := fnD 2 .all (d_show_logs K)
def d__law_right (K : PySem.W.Frag) : DS := dSeq (dPar 2 3 (dCons (dCallF 2 (g__law_told K) (dCons (dVar 0) (dCons (dVar 1) (dNil)))) (dCons (dK .non) (dNil)))) (dSeq (dIfS (dTst (dIsi "str" (dVar 1))) (dSet 3 (dIfE (dTst (dBin gEq (dVar 0) (dK (.int 0)))) (dCallF 1 (g__law_line_of K) (dCons (dVar 1) (dNil))) (dCallF 1 (g__law_logs_of K) (dCons (dVar 1) (dNil))))) (dNext)) (dSeq (dIfS (dTst (dBin gIs (dVar 3) (dK .non))) (dRet (dBin gEq (dVar 2) (dFz (dSz (dCons (dK (.str "NoText")) (dNil)))))) (dNext)) (dSeq (dIfS (dOr (dTst (dBin gNe (dIsi "dict" (dVar 2)) (dBin gEq (dVar 0) (dK (.int 1))))) (dTst (dBin gNe (dVar 2) (dVar 3)))) (dRet (dK (.bl false))) (dNext)) (dRet (dBin gEq (dIfE (dTst (dBin gEq (dVar 0) (dK (.int 0)))) (dCallF 1 (g_show_line K) (dCons (dVar 2) (dNil))) (dCallF 1 (g_show_logs K) (dCons (dVar 2) (dNil)))) (dVar 1))))))
def g__law_right (K : PySem.W.Frag) : List D → Wd → Rs D := fnD 4 .all (d__law_right K)
def d__law_logs_text (K : PySem.W.Frag) : DS := dRet (dMeth "str" gJoin (dK (.str "\n")) (dCons (dFz (dLc (.nm 1) (dIts (dFz (dCallG gSorted (dCons (dVar 0) (dNil))))) (dYes) (dMeth "str" gJoin (dK (.str " ")) (dCons (dBin gAddX (dFz (dSz (dCons (dBin gAddX (dVar 1) (dK (.str ":"))) (dNil)))) (dBin gIx (dVar 0) (dVar 1))) (dNil))))) (dNil)))
def g__law_logs_text (K : PySem.W.Frag) : List D → Wd → Rs D := fnD 2 .all (d__law_logs_text K)
def d__law_odd (K : PySem.W.Frag) : DS := dSeq (dSet 1 (dFz (dSz (dCons (dK .non) (dCons (dK (.bl true)) (dCons (dK (.int 0)) (dCons (dUn gNeg (dK (.int 1))) (dCons (dK (.str "")) (dCons (dK (.str "A")) (dCons (dK (.str "a b")) (dCons (dK (.str "`")) (dCons (dK (.str "{")) (dCons (dK (.str "ninechars")) (dCons (dK (.str "a1")) (dCons (dFz (dNil)) (dCons (dTup (dSz (dNil))) (dCons (dFzK (dNilK)) (dCons (dFz (dSz (dCons (dK (.str "a")) (dNil)))) (dCons (dTup (dSz (dCons (dK (.str "a")) (dNil)))) (dCons (dFzK (dDisp1 (dK (.str "a")) (dTup (dSz (dNil))))) (dNil))))))))))))))))))))) (dSeq (dSet 1 (dBin gAddX (dVar 1) (dFz (dSz (dCons (dFzK (dDisp1 (dK (.str "a")) (dFz (dSz (dCons (dK (.str "a")) (dNil)))))) (dCons (dFzK (dDisp1 (dK (.str "a")) (dFz (dSz (dCons (dK (.str "b")) (dNil)))))) (dCons (dFzK (dDisp1 (dK (.str "A")) (dFz (dNil)))) (dCons (dFzK (dDisp1 (dK (.int 1)) (dFz (dNil)))) (dCons (dFzK (dDisp1 (dK (.str "a")) (dK .non))) (dCons (dFzK (dDisp1 (dK (.str "a")) (dFz (dSz (dCons (dK .non) (dNil)))))) (dCons (dFzK (dDisp2 (dK (.str "a")) (dFz (dSz (dCons (dK (.str "b")) (dNil)))) (dK (.str "b")) (dFz (dNil)))) (dNil)))))))))))) (dSeq (dSet 1 (dBin gAddX (dVar 1) (dFz (dSz (dCons (dFzK (dDisp2 (dK (.str "a")) (dFz (dSz (dCons (dFz (dSz (dCons (dK (.str "b")) (dNil)))) (dNil)))) (dK (.str "b")) (dFz (dSz (dCons (dK (.str "a")) (dNil)))))) (dCons (dFz (dSz (dCons (dTup (dSz (dCons (dK (.str "a")) (dCons (dFz (dNil)) (dNil))))) (dNil)))) (dCons (dFzK (dDisp2 (dK (.str "a")) (dFz (dNil)) (dK (.str "b")) (dFz (dNil)))) (dCons (dFzK (dDisp2 (dK (.str "a")) (dFz (dSz (dCons (dK (.str "b")) (dCons (dK (.str "b")) (dNil))))) (dK (.str "b")) (dFz (dSz (dCons (dK (.str "a")) (dNil)))))) (dNil))))))))) (dRet (dBin gIx (dVar 1) (dCallF 2 (g__law_pick K) (dCons (dVar 0) (dCons (dK (.int 28)) (dNil))))))))
def g__law_odd (K : PySem.W.Frag) : List D → Wd → Rs D := fnD 2 .all (d__law_odd K)
def d__law_changed (K : PySem.W.Frag) : DS := dSeq (dSet 2 (dCallF 2 (g__law_pick K) (dCons (dVar 0) (dCons (dBin gAddX (dCall gLen (dCons (dVar 1) (dNil))) (dK (.int 1))) (dNil))))) (dSeq (dSet 3 (dBin gIx (dFz (dSz (dCons (dK (.str " ")) (dCons (dK (.str ":")) (dCons (dK (.str "a")) (dCons (dK (.str "z")) (dCons (dK (.str "A")) (dCons (dK (.str "0")) (dCons (dK (.str "`")) (dCons (dK (.str "{")) (dCons (dK (.str "\n")) (dCons (dK (.str "")) (dCons (dK (.str "-")) (dNil)))))))))))))) (dCallF 2 (g__law_pick K) (dCons (dVar 0) (dCons (dK (.int 11)) (dNil)))))) (dSeq (dSet 4 (dNewL (dMethG "str" gSplit (dVar 1) (dCons (dK (.str "\n")) (dNil))))) (dSeq (dSet 5 (dCallF 2 (g__law_pick K) (dCons (dVar 0) (dCons (dCall gLen (dCons (dVar 4) (dNil))) (dNil))))) (dSeq (dSet 6 (dNewL (dMethG "str" gSplit (dBin gIx (dVar 4) (dVar 5)) (dCons (dK (.str " ")) (dNil))))) (dSeq (dSet 7 (dCallF 2 (g__law_pick K) (dCons (dVar 0) (dCons (dCall gLen (dCons (dVar 6) (dNil))) (dNil))))) (dSeq (dSet 8 (dNewL (dSz (dCons (dBin gAddX (dBin gAddX (dSlice gSl (dVar 1) none (some (dVar 2))) (dVar 3)) (dSlice gSl (dVar 1) (some (dVar 2)) none)) (dCons (dBin gAddX (dSlice gSl (dVar 1) none (some (dVar 2))) (dSlice gSl (dVar 1) (some (dBin gAddX (dVar 2) (dK (.int 1)))) none)) (dCons (dBin gAddX (dBin gAddX (dSlice gSl (dVar 1) none (some (dVar 2))) (dVar 3)) (dSlice gSl (dVar 1) (some (dBin gAddX (dVar 2) (dK (.int 1)))) none)) (dCons (dBin gAddX (dVar 1) (dK (.str "\n"))) (dNil)))))))) (dSeq (dSet 8 (dNewL (dBinL gAddL (dVar 8) (dFz (dSz (dCons (dMeth "str" gJoin (dK (.str "\n")) (dCons (dBin gAddX (dSlice gSl (dVar 4) none (some (dVar 5))) (dSlice gSl (dVar 4) (some (dBin gAddX (dVar 5) (dK (.int 1)))) none)) (dNil))) (dCons (dMeth "str" gJoin (dK (.str "\n")) (dCons (dFz (dRev (dVar 4))) (dNil))) (dNil)))))))) (dSeq (dExp (dMeth "list" gAppend (dVar 8) (dCons (dMeth "str" gJoin (dK (.str "\n")) (dCons (dBin gAddX (dVar 4) (dSlice gSl (dVar 4) (some (dVar 5)) (some (dBin gAddX (dVar 5) (dK (.int 1)))))) (dNil))) (dNil)))) (dSeq (dExp (dMeth "list" gInsert (dVar 6) (dCons (dVar 7) (dCons (dBin gIx (dFz (dSz (dCons (dBin gIx (dVar 6) (dVar 7)) (dCons (dK (.str "ninechars")) (dCons (dBin gAddX (dBin gIx (dVar 6) (dVar 7)) (dK (.str ":"))) (dCons (dK (.str "")) (dCons (dK (.str "qq")) (dNil)))))))) (dCallF 2 (g__law_pick K) (dCons (dVar 0) (dCons (dK (.int 5)) (dNil))))) (dNil))))) (dSeq (dPut (dMeth "str" gJoin (dK (.str " ")) (dCons (dVar 6) (dNil))) (dVar 4) (dVar 5)) (dRet (dBin gIx (dBin gAddX (dVar 8) (dBin gMulX (dFz (dSz (dCons (dMeth "str" gJoin (dK (.str "\n")) (dCons (dVar 4) (dNil))) (dNil)))) (dK (.int 2)))) (dCallF 2 (g__law_pick K) (dCons (dVar 0) (dCons (dK (.int 9)) (dNil))))))))))))))))
def g__law_changed (K : PySem.W.Frag) : List D → Wd → Rs D := fnD 9 .all (d__law_changed K)
def d_law (K : PySem.W.Frag) : DS := dSeq (dSet 1 (dFz (dLc (.nm 11) (dRng1 (dK (.int 41))) (dYes) (dBin gAddX (dBin gAddX (dK (.str "n")) (dBin gIx (dK (.str "abc")) (dBin gDiv (dVar 11) (dK (.int 20))))) (dBin gIx (dK (.str "abcdefghijklmnopqrst")) (dBin gMod (dVar 11) (dK (.int 20)))))))) (dSeq (dLockS (dVar 1) (dSet 2 (dFz (dLc (.nm 12) (dIts (dVar 1)) (dYes) (dBin gAddX (dVar 12) (dK (.str ":"))))))) (dSeq (dSet 3 (dFz (dSz (dCons (dTup (dSz (dCons (dK (.int 0)) (dCons (dMeth "str" gJoin (dK (.str " ")) (dCons (dBin gMulX (dFz (dSz (dCons (dK (.str "ab")) (dNil)))) (dK (.int 401))) (dNil))) (dNil))))) (dCons (dTup (dSz (dCons (dK (.int 0)) (dCons (dMeth "str" gJoin (dK (.str " ")) (dCons (dBin gMulX (dFz (dSz (dCons (dK (.str "ab")) (dNil)))) (dK (.int 400))) (dNil))) (dNil))))) (dCons (dTup (dSz (dCons (dK (.int 1)) (dCons (dMeth "str" gJoin (dK (.str "\n")) (dCons (dVar 2) (dNil))) (dNil))))) (dNil))))))) (dSeq (dSet 3 (dBin gAddX (dVar 3) (dFz (dSz (dCons (dTup (dSz (dCons (dK (.int 1)) (dCons (dMeth "str" gJoin (dK (.str "\n")) (dCons (dSlice gSl (dVar 2) (some (dK (.int 1))) none) (dNil))) (dNil))))) (dCons (dTup (dSz (dCons (dK (.int 1)) (dCons (dBin gAddX (dK (.str "a:")) (dBin gMulS (dK (.str " b")) (dK (.int 401)))) (dNil))))) (dCons (dTup (dSz (dCons (dK (.int 1)) (dCons (dBin gAddX (dK (.str "a:")) (dBin gMulS (dK (.str " b")) (dK (.int 400)))) (dNil))))) (dCons (dTup (dSz (dCons (dK (.int 0)) (dCons (dK (.str "")) (dNil))))) (dCons (dTup (dSz (dCons (dK (.int 1)) (dCons (dK (.str "")) (dNil))))) (dNil)))))))))) (dSeq (dFor (.tp2 (.nm 4) (.nm 5)) (dIts (dBin gAddX (dVar 3) (dFz (dSz (dCons (dTup (dSz (dCons (dK (.int 1)) (dCons (dK (.str ":")) (dNil))))) (dCons (dTup (dSz (dCons (dK (.int 1)) (dCons (dK (.str "a: ")) (dNil))))) (dCons (dTup (dSz (dCons (dK (.int 0)) (dCons (dK (.str "a:")) (dNil))))) (dCons (dTup (dSz (dCons (dK (.int 1)) (dCons (dK (.str "a")) (dNil))))) (dNil))))))))) (dIfS (dNot (dTst (dCallF 2 (g__law_right K) (dCons (dVar 4) (dCons (dVar 5) (dNil)))))) (dRet (dK (.bl false))) (dNext))) (dSeq (dFor (.nm 6) (dRng1 (dCall gMax (dCons (dK (.int 1)) (dCons (dCall gMinX (dCons (dK (.int 8)) (dCons (dBin gAddX (dCall gLen (dCons (dVar 0) (dNil))) (dK (.int 1))) (dNil)))) (dNil))))) (dSeq (dSet 7 (dCallF 2 (g__law_source K) (dCons (dVar 0) (dCons (dVar 6) (dNil))))) (dSeq (dSet 8 (dCallF 3 (g__law_logs K) (dCons (dVar 7) (dCons (dK (.int 6)) (dCons (dK (.int 5)) (dNil)))))) (dSeq (dSet 9 (dFz (dLc (.nm 13) (dRng1 (dBin gAddX (dK (.int 1)) (dCallF 2 (g__law_pick K) (dCons (dVar 7) (dCons (dK (.int 12)) (dNil)))))) (dYes) (dBin gIx (dFz (dCallG gSorted (dCons (dVar 8) (dNil)))) (dCallF 2 (g__law_pick K) (dCons (dVar 7) (dCons (dCall gLen (dCons (dVar 8) (dNil))) (dNil)))))))) (dSeq (dSet 10 (dFz (dSz (dCons (dMeth "str" gJoin (dK (.str " ")) (dCons (dVar 9) (dNil))) (dCons (dCallF 1 (g__law_logs_text K) (dCons (dVar 8) (dNil))) (dNil)))))) (dFor (.nm 4) (dRng1 (dK (.int 2))) (dFor (.nm 13) (dRng1 (dK (.int 8))) (dSeq (dSet 5 (dBin gIx (dVar 10) (dBin gIx (dFz (dSz (dCons (dVar 4) (dCons (dBin gSub (dK (.int 1)) (dVar 4)) (dNil))))) (dCall gInt (dCons (dBin gEq (dVar 13) (dK (.int 7))) (dNil)))))) (dSeq (dFor (.nm 14) (dRng1 (dCall gMinX (dCons (dVar 13) (dCons (dK (.int 3)) (dNil))))) (dSet 5 (dCallF 2 (g__law_changed K) (dCons (dVar 7) (dCons (dVar 5) (dNil)))))) (dSeq (dSet 15 (dCallF 1 (g__law_odd K) (dCons (dVar 7) (dNil)))) (dIfS (dOr (dNot (dTst (dCallF 2 (g__law_right K) (dCons (dVar 4) (dCons (dVar 5) (dNil)))))) (dNot (dTst (dCallF 2 (g__law_right K) (dCons (dVar 4) (dCons (dVar 15) (dNil))))))) (dRet (dK (.bl false))) (dNext)))))))))))) (dRet (dK (.bl true))))))))
def g_law (K : PySem.W.Frag) : List D → Wd → Rs D := fnD 16 .all (d_law K)
abbrev s__law_source : Stmt := top 35
theorem sc__law_source : FnScope ["script", "k", "cell"] ["script", "k"] (defScope s__law_source) := ⟨rfl, rfl, rfl, by decide +kernel, rfl, by decide +kernel, by decide +kernel⟩
def D__law_source : He.DefD := ⟨("_law_source", none), "_law_source", "_law_source", defArgs s__law_source, defBody s__law_source, defScope s__law_source, [], []⟩
abbrev s__law_pick : Stmt := top 36
theorem sc__law_pick : FnScope ["source", "size", "mixed", "found"] ["source", "size"] (defScope s__law_pick) := ⟨rfl, rfl, rfl, by decide +kernel, rfl, by decide +kernel, by decide +kernel⟩
def D__law_pick : He.DefD := ⟨("_law_pick", none), "_law_pick", "_law_pick", defArgs s__law_pick, defBody s__law_pick, defScope s__law_pick, [], []⟩
abbrev s__law_names : Stmt := top 37
theorem sc__law_names : FnScope ["source", "size", "pool", "letters", "turn", "letter"] ["source", "size"] (defScope s__law_names) := ⟨rfl, rfl, rfl, by decide +kernel, rfl, by decide +kernel, by decide +kernel⟩
def D__law_names : He.DefD := ⟨("_law_names", none), "_law_names", "_law_names", defArgs s__law_names, defBody s__law_names, defScope s__law_names, [], []⟩
abbrev s__law_logs : Stmt := top 41
theorem sc__law_logs : FnScope ["source", "most", "long", "names", "found", "name", "many", "turn", "other"] ["source", "most", "long"] (defScope s__law_logs) := ⟨rfl, rfl, rfl, by decide +kernel, rfl, by decide +kernel, by decide +kernel⟩
def D__law_logs : He.DefD := ⟨("_law_logs", none), "_law_logs", "_law_logs", defArgs s__law_logs, defBody s__law_logs, defScope s__law_logs, [], []⟩
abbrev s_is_name : Stmt := top 24
theorem sc_is_name : FnScope ["value", "letter"] ["value"] (defScope s_is_name) := ⟨rfl, rfl, rfl, by decide +kernel, rfl, by decide +kernel, by decide +kernel⟩
def D_is_name : He.DefD := ⟨("is_name", none), "is_name", "is_name", defArgs s_is_name, defBody s_is_name, defScope s_is_name, [], []⟩
abbrev s_are_names : Stmt := top 28
theorem sc_are_names : FnScope ["value", "least", "one"] ["value", "least"] (defScope s_are_names) := ⟨rfl, rfl, rfl, by decide +kernel, rfl, by decide +kernel, by decide +kernel⟩
def D_are_names : He.DefD := ⟨("are_names", none), "are_names", "are_names", defArgs s_are_names, defBody s_are_names, defScope s_are_names, [], []⟩
abbrev s_read_line : Stmt := top 30
theorem sc_read_line : FnScope ["text", "found"] ["text"] (defScope s_read_line) := ⟨rfl, rfl, rfl, by decide +kernel, rfl, by decide +kernel, by decide +kernel⟩
def D_read_line : He.DefD := ⟨("read_line", none), "read_line", "read_line", defArgs s_read_line, defBody s_read_line, defScope s_read_line, [], []⟩
abbrev s_are_lists_of_names : Stmt := top 31
theorem sc_are_lists_of_names : FnScope ["value", "entries", "node"] ["value"] (defScope s_are_lists_of_names) := ⟨rfl, rfl, rfl, by decide +kernel, rfl, by decide +kernel, by decide +kernel⟩
def D_are_lists_of_names : He.DefD := ⟨("are_lists_of_names", none), "are_lists_of_names", "are_lists_of_names", defArgs s_are_lists_of_names, defBody s_are_lists_of_names, defScope s_are_lists_of_names, [], []⟩
abbrev s_are_ascending : Stmt := top 25
theorem sc_are_ascending : FnScope ["values", "one", "other"] ["values"] (defScope s_are_ascending) := ⟨rfl, rfl, rfl, by decide +kernel, rfl, by decide +kernel, by decide +kernel⟩
def D_are_ascending : He.DefD := ⟨("are_ascending", none), "are_ascending", "are_ascending", defArgs s_are_ascending, defBody s_are_ascending, defScope s_are_ascending, [], []⟩
abbrev s_read_logs : Stmt := top 33
theorem sc_read_logs : FnScope ["text", "rows", "nodes", "found", "row", "words", "node"] ["text"] (defScope s_read_logs) := ⟨rfl, rfl, rfl, by decide +kernel, rfl, by decide +kernel, by decide +kernel⟩
def D_read_logs : He.DefD := ⟨("read_logs", none), "read_logs", "read_logs", defArgs s_read_logs, defBody s_read_logs, defScope s_read_logs, [], []⟩
abbrev s__law_kinds : Stmt := top 39
theorem sc__law_kinds : FnScope ["caught", "kinds", "names", "found", "name", "kind"] ["caught"] (defScope s__law_kinds) := ⟨rfl, rfl, rfl, by decide +kernel, rfl, by decide +kernel, by decide +kernel⟩
def D__law_kinds : He.DefD := ⟨("_law_kinds", none), "_law_kinds", "_law_kinds", defArgs s__law_kinds, defBody s__law_kinds, defScope s__law_kinds, [], []⟩
abbrev s__law_told : Stmt := top 46
theorem sc__law_told : FnScope ["way", "value", "e"] ["way", "value"] (defScope s__law_told) := ⟨rfl, rfl, rfl, by decide +kernel, rfl, by decide +kernel, by decide +kernel⟩
def D__law_told : He.DefD := ⟨("_law_told", none), "_law_told", "_law_told", defArgs s__law_told, defBody s__law_told, defScope s__law_told, [], []⟩
abbrev s__law_own_name : Stmt := top 40
theorem sc__law_own_name : FnScope ["value", "sign"] ["value"] (defScope s__law_own_name) := ⟨rfl, rfl, rfl, by decide +kernel, rfl, by decide +kernel, by decide +kernel⟩
def D__law_own_name : He.DefD := ⟨("_law_own_name", none), "_law_own_name", "_law_own_name", defArgs s__law_own_name, defBody s__law_own_name, defScope s__law_own_name, [], []⟩
abbrev s__law_line_of : Stmt := top 43
theorem sc__law_line_of : FnScope ["text", "words", "odd", "word"] ["text"] (defScope s__law_line_of) := ⟨rfl, rfl, rfl, by decide +kernel, rfl, by decide +kernel, by decide +kernel⟩
def D__law_line_of : He.DefD := ⟨("_law_line_of", none), "_law_line_of", "_law_line_of", defArgs s__law_line_of, defBody s__law_line_of, defScope s__law_line_of, [], []⟩
abbrev s__law_logs_of : Stmt := top 44
theorem sc__law_logs_of : FnScope ["text", "found", "nodes", "row", "words", "name", "entries", "word"] ["text"] (defScope s__law_logs_of) := ⟨rfl, rfl, rfl, by decide +kernel, rfl, by decide +kernel, by decide +kernel⟩
def D__law_logs_of : He.DefD := ⟨("_law_logs_of", none), "_law_logs_of", "_law_logs_of", defArgs s__law_logs_of, defBody s__law_logs_of, defScope s__law_logs_of, [], []⟩
abbrev s_show_line : Stmt := top 29
theorem sc_show_line : FnScope ["line"] ["line"] (defScope s_show_line) := ⟨rfl, rfl, rfl, by decide +kernel, rfl, by decide +kernel, by decide +kernel⟩
def D_show_line : He.DefD := ⟨("show_line", none), "show_line", "show_line", defArgs s_show_line, defBody s_show_line, defScope s_show_line, [], []⟩
abbrev s_show_logs : Stmt := top 32
theorem sc_show_logs : FnScope ["logs", "node"] ["logs"] (defScope s_show_logs) := ⟨rfl, rfl, rfl, by decide +kernel, rfl, by decide +kernel, by decide +kernel⟩
def D_show_logs : He.DefD := ⟨("show_logs", none), "show_logs", "show_logs", defArgs s_show_logs, defBody s_show_logs, defScope s_show_logs, [], []⟩
abbrev s__law_right : Stmt := top 47
theorem sc__law_right : FnScope ["way", "value", "told", "due"] ["way", "value"] (defScope s__law_right) := ⟨rfl, rfl, rfl, by decide +kernel, rfl, by decide +kernel, by decide +kernel⟩
def D__law_right : He.DefD := ⟨("_law_right", none), "_law_right", "_law_right", defArgs s__law_right, defBody s__law_right, defScope s__law_right, [], []⟩
abbrev s__law_logs_text : Stmt := top 42
theorem sc__law_logs_text : FnScope ["logs", "node"] ["logs"] (defScope s__law_logs_text) := ⟨rfl, rfl, rfl, by decide +kernel, rfl, by decide +kernel, by decide +kernel⟩
def D__law_logs_text : He.DefD := ⟨("_law_logs_text", none), "_law_logs_text", "_law_logs_text", defArgs s__law_logs_text, defBody s__law_logs_text, defScope s__law_logs_text, [], []⟩
abbrev s__law_odd : Stmt := top 38
theorem sc__law_odd : FnScope ["source", "some"] ["source"] (defScope s__law_odd) := ⟨rfl, rfl, rfl, by decide +kernel, rfl, by decide +kernel, by decide +kernel⟩
def D__law_odd : He.DefD := ⟨("_law_odd", none), "_law_odd", "_law_odd", defArgs s__law_odd, defBody s__law_odd, defScope s__law_odd, [], []⟩
abbrev s__law_changed : Stmt := top 45
theorem sc__law_changed : FnScope ["source", "text", "at", "sign", "rows", "spot", "words", "place", "some"] ["source", "text"] (defScope s__law_changed) := ⟨rfl, rfl, rfl, by decide +kernel, rfl, by decide +kernel, by decide +kernel⟩
def D__law_changed : He.DefD := ⟨("_law_changed", none), "_law_changed", "_law_changed", defArgs s__law_changed, defBody s__law_changed, defScope s__law_changed, [], []⟩
abbrev s_law : Stmt := top 48
theorem sc_law : FnScope ["script", "names", "rows", "great", "way", "value", "k", "source", "logs", "line", "texts", "at", "name", "turn", "again", "odd"] ["script"] (defScope s_law) := ⟨rfl, rfl, rfl, by decide +kernel, rfl, by decide +kernel, by decide +kernel⟩
def D_law : He.DefD := ⟨("law", none), "law", "law", defArgs s_law, defBody s_law, defScope s_law, [], []⟩
def fa : List He.Fa := [.glo "_law_source", .glo "_law_pick", .glo "_law_names", .glo "_law_logs", .glo "is_name", .glo "are_names", .glo "read_line", .glo "are_lists_of_names", .glo "are_ascending", .glo "read_logs", .glo "_law_kinds", .glo "_law_told", .glo "_law_own_name", .glo "_law_line_of", .glo "_law_logs_of", .glo "show_line", .glo "show_logs", .glo "_law_right", .glo "_law_logs_text", .glo "_law_odd", .glo "_law_changed", .glo "law", .free "len", .free "max", .free "range", .free "isinstance", .free "str", .int "MAX_LETTERS" (8), .str "LETTERS" "abcdefghijklmnopqrstuvwxyz", .free "all", .free "list", .int "MAX_ENTRIES" (400), .exc "NoText", .glo "NoText", .free "dict", .int "MAX_NODES" (40), .free "zip", .glo "NoAskers", .glo "Clash", .glo "Blocked", .glo "NoLogs", .glo "NoLine", .glo "NoCommand", .glo "NoNet", .glo "NoName", .glo "NoMessage", .glo "NoOrder", .glo "NoNumber", .glo "NoNode", .glo "NoTree", .glo "NoRequest", .glo "Unsettled", .glo "TooMany", .glo "Taken", .glo "AskError", .free "ValueError", .free "sorted", .free "set", .exc "NoLine", .exc "NoLogs", .free "min", .free "int", .exm "NoText" "AskError" true]
def fn : List He.DefD := [D__law_source, D__law_pick, D__law_names, D__law_logs, D_is_name, D_are_names, D_read_line, D_are_lists_of_names, D_are_ascending, D_read_logs, D__law_kinds, D__law_told, D__law_own_name, D__law_line_of, D__law_logs_of, D_show_line, D_show_logs, D__law_right, D__law_logs_text, D__law_odd, D__law_changed, D_law]
def fe : List Fe := [.exc "NoText", .kit "NoText" "Blocked" false, .kit "NoText" "Clash" false, .kit "NoText" "NoAskers" false, .kit "NoText" "NoCommand" false, .kit "NoText" "NoLine" false, .kit "NoText" "NoLogs" false, .kit "NoText" "NoMessage" false, .kit "NoText" "NoName" false, .kit "NoText" "NoNet" false, .kit "NoText" "NoNode" false, .kit "NoText" "NoNumber" false, .kit "NoText" "NoOrder" false, .kit "NoText" "NoRequest" false, .kit "NoText" "NoText" true, .kit "NoText" "NoTree" false, .kit "NoText" "Taken" false, .kit "NoText" "TooMany" false, .kit "NoText" "Unsettled" false, .kit "NoText" "AskError" true, .kitT "NoText" "ValueError" true]
section
variable {P : Program} {w : World} {K : PySem.W.Frag} {mg : Str → Option Value} {base : Heap}
theorem ok__law_source {f : Addr} {fd : FuncData} (c : Fx fa fn K mg) (sm : SM base) (F : FunD K "_law_source" "_law_source" (defArgs s__law_source) (defBody s__law_source) (defScope s__law_source) [] [] f fd) : FnY P w K mg base 1 f fd ["script", "k"] (g__law_source K) := by
  show FnY P w K mg base (0 + 1) f fd ["script", "k"] (fnD (["script", "k", "cell"] : List Str).length .all (d__law_source K))
  refine ok_def (N := ["script", "k", "cell"]) (ps := ["script", "k"]) (k := 0) (m := .all) (db := d__law_source K) F sc__law_source fun cdv A outer s H E hG hr => ?_
  have O := ok_cx (P := P) (w := w) (K := K) (mg := mg) (N := ["script", "k", "cell"]) (qual := "_law_source") (scope := defScope s__law_source) (f := f) (cdv := cdv) (outer := outer) (H := H) (E := E) sm hG hr
  exact (sd_cons (sd_set (i := 2) sc__law_source.nd rfl (by first | exact Or.inl rfl | exact Or.inr rfl) ed_int) (sd_cons (sd_if (td_cmp (od_ltX O.un O.sm) (ed_var 1) (ed_bf cd_len rfl (c.free 22) (ad_cons (ed_var 0) ad_nil)) rfl) (sd_one (sd_set (i := 2) sc__law_source.nd rfl (by first | exact Or.inl rfl | exact Or.inr rfl) (ed_ix (id_ix O.un) (ed_var 0) (ed_var 1) (fun _ _ => rfl)))) sd_nil) (sd_one (sd_ret (ed_newL (fl_lst (ad_cons (ed_bf (cd_max O.calm) rfl (c.free 23) (ad_cons ed_int (ad_cons (ed_bin od_sub (ed_var 2) (ed_bin od_pow ed_int ed_int)) ad_nil))) (ad_cons (ed_bin od_addX (ed_bin od_addX (ed_bin od_mulX (ed_bin od_mod (ed_var 2) (ed_bin od_addX (ed_bin od_pow ed_int ed_int) ed_int)) ed_int) (ed_bin od_mulX ed_int (ed_var 1))) ed_int) (ad_cons ed_int ad_nil)))))))))
theorem G__law_source (c : Fx fa fn K mg) (sm : SM base) : Gf P w K mg base "_law_source" 1 2 (g__law_source K) := by
  obtain ⟨fd, F⟩ := c.def_ 0 (d := D__law_source) rfl
  exact gf_of F (ok__law_source c sm F) (c.glo 0) rfl (FunD.bindsN F fun _ _ _ _ _ _ us hl => match us, hl with | [_, _], _ => rfl)
theorem ok__law_pick {f : Addr} {fd : FuncData} (c : Fx fa fn K mg) (sm : SM base) (F : FunD K "_law_pick" "_law_pick" (defArgs s__law_pick) (defBody s__law_pick) (defScope s__law_pick) [] [] f fd) : FnY P w K mg base 1 f fd ["source", "size"] (g__law_pick K) := by
  show FnY P w K mg base (0 + 1) f fd ["source", "size"] (fnD (["source", "size", "mixed", "found"] : List Str).length .all (d__law_pick K))
  refine ok_def (N := ["source", "size", "mixed", "found"]) (ps := ["source", "size"]) (k := 0) (m := .all) (db := d__law_pick K) F sc__law_pick fun cdv A outer s H E hG hr => ?_
  have O := ok_cx (P := P) (w := w) (K := K) (mg := mg) (N := ["source", "size", "mixed", "found"]) (qual := "_law_pick") (scope := defScope s__law_pick) (f := f) (cdv := cdv) (outer := outer) (H := H) (E := E) sm hG hr
  exact (sd_cons (sd_if (td_cmp od_gt (ed_ix (id_ix O.un) (ed_var 0) ed_int (fun _ _ => rfl)) ed_int rfl) (sd_cons (sd_set (i := 3) sc__law_pick.nd rfl (by first | exact Or.inl rfl | exact Or.inr rfl) (ed_bin od_mod (ed_ix (id_ix O.un) (ed_var 0) ed_int (fun _ _ => rfl)) (ed_var 1))) (sd_cons (sd_put O.un (ed_bin od_div (ed_ix (id_ix O.un) (ed_var 0) ed_int (fun _ _ => rfl)) (ed_var 1)) (ed_var 0) ed_int) (sd_one (sd_ret (ed_var 3))))) sd_nil) (sd_cons (sd_put O.un (ed_bin od_addX (ed_ix (id_ix O.un) (ed_var 0) ed_int (fun _ _ => rfl)) ed_int) (ed_var 0) ed_int) (sd_cons (sd_set (i := 2) sc__law_pick.nd rfl (by first | exact Or.inl rfl | exact Or.inr rfl) (ed_bin od_mod (ed_bin od_pow (ed_bin od_addX (ed_ix (id_ix O.un) (ed_var 0) ed_int (fun _ _ => rfl)) (ed_bin od_mulX ed_int (ed_ix (id_ix O.un) (ed_var 0) ed_int (fun _ _ => rfl)))) ed_int) (ed_bin od_addX (ed_bin od_pow ed_int ed_int) ed_int))) (sd_cons (sd_set (i := 2) sc__law_pick.nd rfl (by first | exact Or.inl rfl | exact Or.inr rfl) (ed_bin od_mod (ed_bin od_pow (ed_bin od_addX (ed_var 2) (ed_bin od_mulX ed_int (ed_ix (id_ix O.un) (ed_var 0) ed_int (fun _ _ => rfl)))) ed_int) (ed_bin od_addX (ed_bin od_pow ed_int ed_int) ed_int))) (sd_one (sd_ret (ed_bin od_mod (ed_bin od_div (ed_var 2) ed_int) (ed_var 1))))))))
theorem G__law_pick (c : Fx fa fn K mg) (sm : SM base) : Gf P w K mg base "_law_pick" 1 2 (g__law_pick K) := by
  obtain ⟨fd, F⟩ := c.def_ 1 (d := D__law_pick) rfl
  exact gf_of F (ok__law_pick c sm F) (c.glo 1) rfl (FunD.bindsN F fun _ _ _ _ _ _ us hl => match us, hl with | [_, _], _ => rfl)
theorem ok__law_names {f : Addr} {fd : FuncData} (c : Fx fa fn K mg) (sm : SM base) (F : FunD K "_law_names" "_law_names" (defArgs s__law_names) (defBody s__law_names) (defScope s__law_names) [] [] f fd) : FnY P w K mg base 2 f fd ["source", "size"] (g__law_names K) := by
  show FnY P w K mg base (1 + 1) f fd ["source", "size"] (fnD (["source", "size", "pool", "letters", "turn", "letter"] : List Str).length .all (d__law_names K))
  refine ok_def (N := ["source", "size", "pool", "letters", "turn", "letter"]) (ps := ["source", "size"]) (k := 1) (m := .all) (db := d__law_names K) F sc__law_names fun cdv A outer s H E hG hr => ?_
  have O := ok_cx (P := P) (w := w) (K := K) (mg := mg) (N := ["source", "size", "pool", "letters", "turn", "letter"]) (qual := "_law_names") (scope := defScope s__law_names) (f := f) (cdv := cdv) (outer := outer) (H := H) (E := E) sm hG hr
  exact (sd_cons (sd_set (i := 2) sc__law_names.nd rfl (by first | exact Or.inl rfl | exact Or.inr rfl) (ed_newL (fl_lst (ad_cons ed_str (ad_cons ed_str (ad_cons ed_str (ad_cons ed_str (ad_cons ed_str (ad_cons ed_str (ad_cons ed_str (ad_cons ed_str (ad_cons ed_str (ad_cons ed_str (ad_cons ed_str (ad_cons ed_str (ad_cons ed_str ad_nil)))))))))))))))) (sd_cons (sd_set (i := 3) sc__law_names.nd rfl (by first | exact Or.inl rfl | exact Or.inr rfl) ed_str) (sd_cons (sd_set (i := 2) sc__law_names.nd rfl (by first | exact Or.inl rfl | exact Or.inr rfl) (ed_newL (fl_bin of_addL (ed_bin od_addX (ed_var 2) (ed_fz (fl_lock (src := dVar 3) (fl_lc O.calm sc__law_names.nd (id_any (ed_var 3)) (own := [("letter", 5)]) (blkOk_by (by kernel_rfl)) rfl (fun s H C cl fp => (pg_name (i := 5) sc__law_names.nd rfl (by first | exact Or.inl rfl | exact Or.inr rfl))) (fun s H C cl fp => ptd_nil) (fun s H C cl fp => (ed_bin od_addX ed_str (ed_var 5))))))) (ed_fz (fl_lock (src := dVar 3) (fl_lc O.calm sc__law_names.nd (id_any (ed_var 3)) (own := [("letter", 5)]) (blkOk_by (by kernel_rfl)) rfl (fun s H C cl fp => (pg_name (i := 5) sc__law_names.nd rfl (by first | exact Or.inl rfl | exact Or.inr rfl))) (fun s H C cl fp => ptd_nil) (fun s H C cl fp => (ed_bin od_addX ed_str (ed_var 5))))))))) (sd_one (sd_ret (ed_fz (fl_lc O.calm sc__law_names.nd (id_rng1 rfl (c.free 24) (ed_var 1)) (own := [("turn", 4)]) (blkOk_by (by kernel_rfl)) rfl (fun s H C cl fp => (pg_name (i := 4) sc__law_names.nd rfl (by first | exact Or.inl rfl | exact Or.inr rfl))) (fun s H C cl fp => ptd_nil) (fun s H C cl fp => (ed_meth PySem.F.plainAttrs_list PySem.F.slot_list_pop PySem.F.type_list_pop md_pop (ed_var 2) (ad_cons (ed_fn (G__law_pick c sm) (O.blk s H _ (compEnvC _ cl C _) fp) (by decide) rfl (ad_cons (ed_var 0) (ad_cons (ed_bf cd_len rfl (c.free 22) (ad_cons (ed_var 2) ad_nil)) ad_nil))) ad_nil))))))))))
theorem G__law_names (c : Fx fa fn K mg) (sm : SM base) : Gf P w K mg base "_law_names" 2 2 (g__law_names K) := by
  obtain ⟨fd, F⟩ := c.def_ 2 (d := D__law_names) rfl
  exact gf_of F (ok__law_names c sm F) (c.glo 2) rfl (FunD.bindsN F fun _ _ _ _ _ _ us hl => match us, hl with | [_, _], _ => rfl)
theorem ok__law_logs {f : Addr} {fd : FuncData} (c : Fx fa fn K mg) (sm : SM base) (F : FunD K "_law_logs" "_law_logs" (defArgs s__law_logs) (defBody s__law_logs) (defScope s__law_logs) [] [] f fd) : FnY P w K mg base 3 f fd ["source", "most", "long"] (g__law_logs K) := by
  show FnY P w K mg base (2 + 1) f fd ["source", "most", "long"] (fnD (["source", "most", "long", "names", "found", "name", "many", "turn", "other"] : List Str).length .all (d__law_logs K))
  refine ok_def (N := ["source", "most", "long", "names", "found", "name", "many", "turn", "other"]) (ps := ["source", "most", "long"]) (k := 2) (m := .all) (db := d__law_logs K) F sc__law_logs fun cdv A outer s H E hG hr => ?_
  have O := ok_cx (P := P) (w := w) (K := K) (mg := mg) (N := ["source", "most", "long", "names", "found", "name", "many", "turn", "other"]) (qual := "_law_logs") (scope := defScope s__law_logs) (f := f) (cdv := cdv) (outer := outer) (H := H) (E := E) sm hG hr
  exact (sd_cons (sd_set (i := 3) sc__law_logs.nd rfl (by first | exact Or.inl rfl | exact Or.inr rfl) (ed_fn (G__law_names c sm) O (by decide) rfl (ad_cons (ed_var 0) (ad_cons (ed_bin od_addX ed_int (ed_fn (G__law_pick c sm) O (by decide) rfl (ad_cons (ed_var 0) (ad_cons (ed_var 1) ad_nil)))) ad_nil)))) (sd_cons (sd_set (i := 4) sc__law_logs.nd rfl (by first | exact Or.inl rfl | exact Or.inr rfl) (ed_newK fk_nil)) (sd_cons (sd_lock (src := dVar 3) (sd_for own_cx O.calm (id_any (ed_var 3)) (pg_name (i := 5) sc__law_logs.nd rfl (by first | exact Or.inl rfl | exact Or.inr rfl)) (sd_cons (sd_set (i := 6) sc__law_logs.nd rfl (by first | exact Or.inl rfl | exact Or.inr rfl) (ed_fn (G__law_pick c sm) O (by decide) rfl (ad_cons (ed_var 0) (ad_cons (ed_bin od_addX (ed_var 2) ed_int) ad_nil)))) (sd_cons (sd_put O.un (ed_fz (fl_lc O.calm sc__law_logs.nd (id_rng1 rfl (c.free 24) (ed_var 6)) (own := [("turn", 7)]) (blkOk_by (by kernel_rfl)) rfl (fun s H C cl fp => (pg_name (i := 7) sc__law_logs.nd rfl (by first | exact Or.inl rfl | exact Or.inr rfl))) (fun s H C cl fp => ptd_nil) (fun s H C cl fp => (ed_ix (id_ix (O.blk s H _ (compEnvC _ cl C _) fp).un) (ed_var 3) (ed_fn (G__law_pick c sm) (O.blk s H _ (compEnvC _ cl C _) fp) (by decide) rfl (ad_cons (ed_var 0) (ad_cons (ed_bf cd_len rfl (c.free 22) (ad_cons (ed_var 3) ad_nil)) ad_nil))) (fun _ _ => rfl))))) (ed_var 4) (ed_var 5)) (sd_one (sd_if (td_cmp od_gt (ed_var 6) ed_int rfl) (sd_one (sd_put O.un (ed_fz (fl_lc O.calm sc__law_logs.nd (id_any (ed_ix (id_ix O.un) (ed_var 4) (ed_var 5) (fun _ _ => rfl))) (own := [("other", 8)]) (blkOk_by (by kernel_rfl)) rfl (fun s H C cl fp => (pg_name (i := 8) sc__law_logs.nd rfl (by first | exact Or.inl rfl | exact Or.inr rfl))) (fun s H C cl fp => ptd_nil) (fun s H C cl fp => (ed_if (td_cmp (od_eq (O.blk s H _ (compEnvC _ cl C _) fp).un (O.blk s H _ (compEnvC _ cl C _) fp).sm) (ed_var 8) (ed_var 5) rfl) ed_str (ed_var 8))))) (ed_var 4) (ed_var 5))) sd_nil)))))) (sd_one (sd_ret (ed_var 4))))))
theorem G__law_logs (c : Fx fa fn K mg) (sm : SM base) : Gf P w K mg base "_law_logs" 3 3 (g__law_logs K) := by
  obtain ⟨fd, F⟩ := c.def_ 3 (d := D__law_logs) rfl
  exact gf_of F (ok__law_logs c sm F) (c.glo 3) rfl (FunD.bindsN F fun _ _ _ _ _ _ us hl => match us, hl with | [_, _, _], _ => rfl)
theorem ok_is_name {f : Addr} {fd : FuncData} (c : Fx fa fn K mg) (sm : SM base) (F : FunD K "is_name" "is_name" (defArgs s_is_name) (defBody s_is_name) (defScope s_is_name) [] [] f fd) : FnY P w K mg base 1 f fd ["value"] (g_is_name K) := by
  show FnY P w K mg base (0 + 1) f fd ["value"] (fnD (["value", "letter"] : List Str).length .all (d_is_name K))
  refine ok_def (N := ["value", "letter"]) (ps := ["value"]) (k := 0) (m := .all) (db := d_is_name K) F sc_is_name fun cdv A outer s H E hG hr => ?_
  have O := ok_cx (P := P) (w := w) (K := K) (mg := mg) (N := ["value", "letter"]) (qual := "is_name") (scope := defScope s_is_name) (f := f) (cdv := cdv) (outer := outer) (H := H) (E := E) sm hG hr
  exact (sd_cons (sd_if (td_bool (tw_or (td_not (td_val (ed_isi rfl (c.free 25) rfl (c.free 26) (ed_var 0)))) (tw_or1 (td_not (td_chain od_le od_le ed_int (ed_bf cd_len rfl (c.free 22) (ad_cons (ed_var 0) ad_nil)) (ed_gint rfl (c.int 27))))))) (sd_one (sd_ret ed_bl)) sd_nil) (sd_one (sd_ret (ed_bf (cd_all O.calm) rfl (c.free 29) (ad_cons (ed_fz (fl_lock (src := dVar 0) (fl_lc O.calm sc_is_name.nd (id_any (ed_var 0)) (own := [("letter", 1)]) (blkOk_by (by kernel_rfl)) rfl (fun s H C cl fp => (pg_name (i := 1) sc_is_name.nd rfl (by first | exact Or.inl rfl | exact Or.inr rfl))) (fun s H C cl fp => ptd_nil) (fun s H C cl fp => (ed_cmp (od_in (O.blk s H _ (compEnvC _ cl C _) fp).un (O.blk s H _ (compEnvC _ cl C _) fp).sm) (ed_var 1) (ed_gstr rfl (c.str 28)) rfl))))) ad_nil)))))
theorem G_is_name (c : Fx fa fn K mg) (sm : SM base) : Gf P w K mg base "is_name" 1 1 (g_is_name K) := by
  obtain ⟨fd, F⟩ := c.def_ 4 (d := D_is_name) rfl
  exact gf_of F (ok_is_name c sm F) (c.glo 4) rfl (FunD.bindsN F fun _ _ _ _ _ _ us hl => match us, hl with | [_], _ => rfl)
theorem ok_are_names {f : Addr} {fd : FuncData} (c : Fx fa fn K mg) (sm : SM base) (F : FunD K "are_names" "are_names" (defArgs s_are_names) (defBody s_are_names) (defScope s_are_names) [] [] f fd) : FnY P w K mg base 2 f fd ["value", "least"] (g_are_names K) := by
  show FnY P w K mg base (1 + 1) f fd ["value", "least"] (fnD (["value", "least", "one"] : List Str).length .all (d_are_names K))
  refine ok_def (N := ["value", "least", "one"]) (ps := ["value", "least"]) (k := 1) (m := .all) (db := d_are_names K) F sc_are_names fun cdv A outer s H E hG hr => ?_
  have O := ok_cx (P := P) (w := w) (K := K) (mg := mg) (N := ["value", "least", "one"]) (qual := "are_names") (scope := defScope s_are_names) (f := f) (cdv := cdv) (outer := outer) (H := H) (E := E) sm hG hr
  exact (sd_one (sd_ret (ed_and (ed_isi rfl (c.free 25) rfl (c.free 30) (ed_var 0)) (ed_and (ed_chain od_le od_le (ed_var 1) (ed_bf cd_len rfl (c.free 22) (ad_cons (ed_var 0) ad_nil)) (ed_gint rfl (c.int 31))) (ed_one (ed_bf (cd_all O.calm) rfl (c.free 29) (ad_cons (ed_fz (fl_lock (src := dVar 0) (fl_lc O.calm sc_are_names.nd (id_any (ed_var 0)) (own := [("one", 2)]) (blkOk_by (by kernel_rfl)) rfl (fun s H C cl fp => (pg_name (i := 2) sc_are_names.nd rfl (by first | exact Or.inl rfl | exact Or.inr rfl))) (fun s H C cl fp => ptd_nil) (fun s H C cl fp => (ed_fn (G_is_name c sm) (O.blk s H _ (compEnvC _ cl C _) fp) (by decide) rfl (ad_cons (ed_var 2) ad_nil)))))) ad_nil)))))))
theorem G_are_names (c : Fx fa fn K mg) (sm : SM base) : Gf P w K mg base "are_names" 2 2 (g_are_names K) := by
  obtain ⟨fd, F⟩ := c.def_ 5 (d := D_are_names) rfl
  exact gf_of F (ok_are_names c sm F) (c.glo 5) rfl (FunD.bindsN F fun _ _ _ _ _ _ us hl => match us, hl with | [_, _], _ => rfl)
theorem ok_read_line {f : Addr} {fd : FuncData} (c : Fx fa fn K mg) (sm : SM base) (F : FunD K "read_line" "read_line" (defArgs s_read_line) (defBody s_read_line) (defScope s_read_line) [] [] f fd) : FnY P w K mg base 3 f fd ["text"] (g_read_line K) := by
  show FnY P w K mg base (2 + 1) f fd ["text"] (fnD (["text", "found"] : List Str).length .all (d_read_line K))
  refine ok_def (N := ["text", "found"]) (ps := ["text"]) (k := 2) (m := .all) (db := d_read_line K) F sc_read_line fun cdv A outer s H E hG hr => ?_
  have O := ok_cx (P := P) (w := w) (K := K) (mg := mg) (N := ["text", "found"]) (qual := "read_line") (scope := defScope s_read_line) (f := f) (cdv := cdv) (outer := outer) (H := H) (E := E) sm hG hr
  exact (sd_cons (sd_set (i := 1) sc_read_line.nd rfl (by first | exact Or.inl rfl | exact Or.inr rfl) (ed_if (td_val (ed_isi rfl (c.free 25) rfl (c.free 26) (ed_var 0))) (ed_fz (fl_meth PySem.F.plainAttrs_str PySem.F.slot_str_split PySem.F.type_str_split mf_split (ed_var 0) (ad_cons ed_str ad_nil))) (ed_fz fl_nil))) (sd_cons (sd_if (td_not (td_val (ed_fn (G_are_names c sm) O (by decide) rfl (ad_cons (ed_var 1) (ad_cons ed_int ad_nil))))) (sd_one (sd_raise (c.exc 32 33) O rfl (ad_cons ed_str ad_nil))) sd_nil) (sd_one (sd_ret (ed_var 1)))))
theorem G_read_line (c : Fx fa fn K mg) (sm : SM base) : Gf P w K mg base "read_line" 3 1 (g_read_line K) := by
  obtain ⟨fd, F⟩ := c.def_ 6 (d := D_read_line) rfl
  exact gf_of F (ok_read_line c sm F) (c.glo 6) rfl (FunD.bindsN F fun _ _ _ _ _ _ us hl => match us, hl with | [_], _ => rfl)
theorem ok_are_lists_of_names {f : Addr} {fd : FuncData} (c : Fx fa fn K mg) (sm : SM base) (F : FunD K "are_lists_of_names" "are_lists_of_names" (defArgs s_are_lists_of_names) (defBody s_are_lists_of_names) (defScope s_are_lists_of_names) [] [] f fd) : FnY P w K mg base 3 f fd ["value"] (g_are_lists_of_names K) := by
  show FnY P w K mg base (2 + 1) f fd ["value"] (fnD (["value", "entries", "node"] : List Str).length .all (d_are_lists_of_names K))
  refine ok_def (N := ["value", "entries", "node"]) (ps := ["value"]) (k := 2) (m := .all) (db := d_are_lists_of_names K) F sc_are_lists_of_names fun cdv A outer s H E hG hr => ?_
  have O := ok_cx (P := P) (w := w) (K := K) (mg := mg) (N := ["value", "entries", "node"]) (qual := "are_lists_of_names") (scope := defScope s_are_lists_of_names) (f := f) (cdv := cdv) (outer := outer) (H := H) (E := E) sm hG hr
  exact (sd_cons (sd_if (td_bool (tw_or (td_not (td_val (ed_isi rfl (c.free 25) rfl (c.free 34) (ed_var 0)))) (tw_or (td_not (td_chain od_le od_le ed_int (ed_bf cd_len rfl (c.free 22) (ad_cons (ed_var 0) ad_nil)) (ed_gint rfl (c.int 35)))) (tw_or1 (td_not (td_val (ed_bf (cd_all O.calm) rfl (c.free 29) (ad_cons (ed_fz (fl_lock (src := dVar 0) (fl_lc O.calm sc_are_lists_of_names.nd (id_any (ed_var 0)) (own := [("node", 2)]) (blkOk_by (by kernel_rfl)) rfl (fun s H C cl fp => (pg_name (i := 2) sc_are_lists_of_names.nd rfl (by first | exact Or.inl rfl | exact Or.inr rfl))) (fun s H C cl fp => ptd_nil) (fun s H C cl fp => (ed_fn (G_is_name c sm) (O.blk s H _ (compEnvC _ cl C _) fp) (by decide) rfl (ad_cons (ed_var 2) ad_nil)))))) ad_nil)))))))) (sd_one (sd_ret ed_bl)) sd_nil) (sd_one (sd_ret (ed_bf (cd_all O.calm) rfl (c.free 29) (ad_cons (ed_fz (fl_lock (src := dVar 0) (fl_lc O.calm sc_are_lists_of_names.nd (id_vals (ed_var 0)) (own := [("entries", 1)]) (blkOk_by (by kernel_rfl)) rfl (fun s H C cl fp => (pg_name (i := 1) sc_are_lists_of_names.nd rfl (by first | exact Or.inl rfl | exact Or.inr rfl))) (fun s H C cl fp => ptd_nil) (fun s H C cl fp => (ed_fn (G_are_names c sm) (O.blk s H _ (compEnvC _ cl C _) fp) (by decide) rfl (ad_cons (ed_var 1) (ad_cons ed_int ad_nil))))))) ad_nil)))))
theorem G_are_lists_of_names (c : Fx fa fn K mg) (sm : SM base) : Gf P w K mg base "are_lists_of_names" 3 1 (g_are_lists_of_names K) := by
  obtain ⟨fd, F⟩ := c.def_ 7 (d := D_are_lists_of_names) rfl
  exact gf_of F (ok_are_lists_of_names c sm F) (c.glo 7) rfl (FunD.bindsN F fun _ _ _ _ _ _ us hl => match us, hl with | [_], _ => rfl)
theorem ok_are_ascending {f : Addr} {fd : FuncData} (c : Fx fa fn K mg) (sm : SM base) (F : FunD K "are_ascending" "are_ascending" (defArgs s_are_ascending) (defBody s_are_ascending) (defScope s_are_ascending) [] [] f fd) : FnY P w K mg base 1 f fd ["values"] (g_are_ascending K) := by
  show FnY P w K mg base (0 + 1) f fd ["values"] (fnD (["values", "one", "other"] : List Str).length .all (d_are_ascending K))
  refine ok_def (N := ["values", "one", "other"]) (ps := ["values"]) (k := 0) (m := .all) (db := d_are_ascending K) F sc_are_ascending fun cdv A outer s H E hG hr => ?_
  have O := ok_cx (P := P) (w := w) (K := K) (mg := mg) (N := ["values", "one", "other"]) (qual := "are_ascending") (scope := defScope s_are_ascending) (f := f) (cdv := cdv) (outer := outer) (H := H) (E := E) sm hG hr
  exact (sd_one (sd_ret (ed_bf (cd_all O.calm) rfl (c.free 29) (ad_cons (ed_fz (fl_lc O.calm sc_are_ascending.nd (id_zip rfl (c.free 36) (ed_var 0) (ed_slice (ed_var 0) (pd_some ed_int) pd_none)) (own := [("one", 1), ("other", 2)]) (blkOk_by (by kernel_rfl)) rfl (fun s H C cl fp => (pg_tup (O.blk s H _ (compEnvC _ cl C _) fp).calm (pgs_cons (pg_name (i := 1) sc_are_ascending.nd rfl (by first | exact Or.inl rfl | exact Or.inr rfl)) (pgs_cons (pg_name (i := 2) sc_are_ascending.nd rfl (by first | exact Or.inl rfl | exact Or.inr rfl)) pgs_nil)))) (fun s H C cl fp => ptd_nil) (fun s H C cl fp => (ed_cmp (od_ltX (O.blk s H _ (compEnvC _ cl C _) fp).un (O.blk s H _ (compEnvC _ cl C _) fp).sm) (ed_var 1) (ed_var 2) rfl)))) ad_nil))))
theorem G_are_ascending (c : Fx fa fn K mg) (sm : SM base) : Gf P w K mg base "are_ascending" 1 1 (g_are_ascending K) := by
  obtain ⟨fd, F⟩ := c.def_ 8 (d := D_are_ascending) rfl
  exact gf_of F (ok_are_ascending c sm F) (c.glo 8) rfl (FunD.bindsN F fun _ _ _ _ _ _ us hl => match us, hl with | [_], _ => rfl)
theorem ok_read_logs {f : Addr} {fd : FuncData} (c : Fx fa fn K mg) (sm : SM base) (F : FunD K "read_logs" "read_logs" (defArgs s_read_logs) (defBody s_read_logs) (defScope s_read_logs) [] [] f fd) : FnY P w K mg base 4 f fd ["text"] (g_read_logs K) := by
  show FnY P w K mg base (3 + 1) f fd ["text"] (fnD (["text", "rows", "nodes", "found", "row", "words", "node"] : List Str).length .all (d_read_logs K))
  refine ok_def (N := ["text", "rows", "nodes", "found", "row", "words", "node"]) (ps := ["text"]) (k := 3) (m := .all) (db := d_read_logs K) F sc_read_logs fun cdv A outer s H E hG hr => ?_
  have O := ok_cx (P := P) (w := w) (K := K) (mg := mg) (N := ["text", "rows", "nodes", "found", "row", "words", "node"]) (qual := "read_logs") (scope := defScope s_read_logs) (f := f) (cdv := cdv) (outer := outer) (H := H) (E := E) sm hG hr
  exact (sd_cons (sd_if (td_not (td_val (ed_isi rfl (c.free 25) rfl (c.free 26) (ed_var 0)))) (sd_one (sd_raise (c.exc 32 33) O rfl (ad_cons ed_str ad_nil))) sd_nil) (sd_cons (sd_setLc (i := 1) O.calm sc_read_logs.nd rfl rfl rfl (id_any (ed_fz (fl_meth PySem.F.plainAttrs_str PySem.F.slot_str_split PySem.F.type_str_split mf_split (ed_var 0) (ad_cons ed_str ad_nil)))) (own := [("row", 4)]) (blkOk_by (by kernel_rfl)) rfl (fun s H C cl fp => (pg_name (i := 4) sc_read_logs.nd rfl (by first | exact Or.inl rfl | exact Or.inr rfl))) (fun s H C cl fp => ptd_nil) (fun s H C cl fp => (ed_fz (fl_meth PySem.F.plainAttrs_str PySem.F.slot_str_split PySem.F.type_str_split mf_split (ed_var 4) (ad_cons ed_str ad_nil))))) (sd_cons (sd_lock (src := dVar 1) (sd_setLc (i := 2) O.calm sc_read_logs.nd rfl rfl rfl (id_any (ed_var 1)) (own := [("words", 5)]) (blkOk_by (by kernel_rfl)) rfl (fun s H C cl fp => (pg_name (i := 5) sc_read_logs.nd rfl (by first | exact Or.inl rfl | exact Or.inr rfl))) (fun s H C cl fp => (ptd_one (td_val (ed_meth PySem.F.plainAttrs_str PySem.F.slot_str_endswith PySem.F.type_str_endswith md_ends (ed_ix (id_ix (O.blk s H _ (compEnvC _ cl C _) fp).un) (ed_var 5) ed_int (fun _ _ => rfl)) (ad_cons ed_str ad_nil))))) (fun s H C cl fp => (ed_slice (ed_ix (id_ix (O.blk s H _ (compEnvC _ cl C _) fp).un) (ed_var 5) ed_int (fun _ _ => rfl)) pd_none (pd_some (ed_un ud_neg ed_int)))))) (sd_cons (sd_if (td_bool (tw_or (td_cmp (od_ne O.un O.sm) (ed_bf cd_len rfl (c.free 22) (ad_cons (ed_var 2) ad_nil)) (ed_bf cd_len rfl (c.free 22) (ad_cons (ed_var 1) ad_nil)) rfl) (tw_or1 (td_not (td_val (ed_fn (G_are_ascending c sm) O (by decide) rfl (ad_cons (ed_var 2) ad_nil))))))) (sd_one (sd_raise (c.exc 32 33) O rfl (ad_cons ed_str ad_nil))) sd_nil) (sd_cons (sd_setDc (i := 3) O.calm sc_read_logs.nd rfl rfl rfl (id_zip rfl (c.free 36) (ed_var 2) (ed_var 1)) (own := [("node", 6), ("words", 5)]) (blkOk_by (by kernel_rfl)) rfl (fun s H C cl fp => (pg_tup (O.blk s H _ (compEnvC _ cl C _) fp).calm (pgs_cons (pg_name (i := 6) sc_read_logs.nd rfl (by first | exact Or.inl rfl | exact Or.inr rfl)) (pgs_cons (pg_name (i := 5) sc_read_logs.nd rfl (by first | exact Or.inl rfl | exact Or.inr rfl)) pgs_nil)))) (fun s H C cl fp => ptd_nil) (fun s H C cl fp => (ed_var 6)) (fun s H C cl fp => (ed_slice (ed_var 5) (pd_some ed_int) pd_none))) (sd_cons (sd_if (td_not (td_val (ed_fn (G_are_lists_of_names c sm) O (by decide) rfl (ad_cons (ed_var 3) ad_nil)))) (sd_one (sd_raise (c.exc 32 33) O rfl (ad_cons ed_str ad_nil))) sd_nil) (sd_one (sd_ret (ed_var 3)))))))))
theorem G_read_logs (c : Fx fa fn K mg) (sm : SM base) : Gf P w K mg base "read_logs" 4 1 (g_read_logs K) := by
  obtain ⟨fd, F⟩ := c.def_ 9 (d := D_read_logs) rfl
  exact gf_of F (ok_read_logs c sm F) (c.glo 9) rfl (FunD.bindsN F fun _ _ _ _ _ _ us hl => match us, hl with | [_], _ => rfl)
theorem ok__law_kinds {f : Addr} {fd : FuncData} (c : Fx fa fn K mg) (sm : SM base) (F : FunD K "_law_kinds" "_law_kinds" (defArgs s__law_kinds) (defBody s__law_kinds) (defScope s__law_kinds) [] [] f fd) : FnE P w K mg base 1 f fd ["caught"] (fun Dc a => g__law_kinds K Dc a) := by
  refine ok_defE (N := ["caught", "kinds", "names", "found", "name", "kind"]) (ps := ["caught"]) (k := 0) (m := .all) (db := fun Dc a => d__law_kinds K Dc a) F sc__law_kinds (fun cdv A outer s H E p Dc O => ?_) sm
  exact (sd_cons (sd_set (i := 1) sc__law_kinds.nd rfl (by first | exact Or.inl rfl | exact Or.inr rfl) (ed_fz (fl_lst (ad_cons (ed_isE O.hot O.xc O.zc rfl (c.free 25) (ed_var 0) (pe_glob (v := .ref (He.ga K "Blocked")) rfl (c.glo 39) rfl) (fun u h => h)) (ad_cons (ed_isE O.hot O.xc O.zc rfl (c.free 25) (ed_var 0) (pe_glob (v := .ref (He.ga K "Clash")) rfl (c.glo 38) rfl) (fun u h => h)) (ad_cons (ed_isE O.hot O.xc O.zc rfl (c.free 25) (ed_var 0) (pe_glob (v := .ref (He.ga K "NoAskers")) rfl (c.glo 37) rfl) (fun u h => h)) ad_nil)))))) (sd_cons (sd_set (i := 1) sc__law_kinds.nd rfl (by first | exact Or.inl rfl | exact Or.inr rfl) (ed_bin od_addX (ed_var 1) (ed_fz (fl_lst (ad_cons (ed_isE O.hot O.xc O.zc rfl (c.free 25) (ed_var 0) (pe_glob (v := .ref (He.ga K "NoCommand")) rfl (c.glo 42) rfl) (fun u h => h)) (ad_cons (ed_isE O.hot O.xc O.zc rfl (c.free 25) (ed_var 0) (pe_glob (v := .ref (He.ga K "NoLine")) rfl (c.glo 41) rfl) (fun u h => h)) (ad_cons (ed_isE O.hot O.xc O.zc rfl (c.free 25) (ed_var 0) (pe_glob (v := .ref (He.ga K "NoLogs")) rfl (c.glo 40) rfl) (fun u h => h)) ad_nil))))))) (sd_cons (sd_set (i := 1) sc__law_kinds.nd rfl (by first | exact Or.inl rfl | exact Or.inr rfl) (ed_bin od_addX (ed_var 1) (ed_fz (fl_lst (ad_cons (ed_isE O.hot O.xc O.zc rfl (c.free 25) (ed_var 0) (pe_glob (v := .ref (He.ga K "NoMessage")) rfl (c.glo 45) rfl) (fun u h => h)) (ad_cons (ed_isE O.hot O.xc O.zc rfl (c.free 25) (ed_var 0) (pe_glob (v := .ref (He.ga K "NoName")) rfl (c.glo 44) rfl) (fun u h => h)) (ad_cons (ed_isE O.hot O.xc O.zc rfl (c.free 25) (ed_var 0) (pe_glob (v := .ref (He.ga K "NoNet")) rfl (c.glo 43) rfl) (fun u h => h)) ad_nil))))))) (sd_cons (sd_set (i := 1) sc__law_kinds.nd rfl (by first | exact Or.inl rfl | exact Or.inr rfl) (ed_bin od_addX (ed_var 1) (ed_fz (fl_lst (ad_cons (ed_isE O.hot O.xc O.zc rfl (c.free 25) (ed_var 0) (pe_glob (v := .ref (He.ga K "NoNode")) rfl (c.glo 48) rfl) (fun u h => h)) (ad_cons (ed_isE O.hot O.xc O.zc rfl (c.free 25) (ed_var 0) (pe_glob (v := .ref (He.ga K "NoNumber")) rfl (c.glo 47) rfl) (fun u h => h)) (ad_cons (ed_isE O.hot O.xc O.zc rfl (c.free 25) (ed_var 0) (pe_glob (v := .ref (He.ga K "NoOrder")) rfl (c.glo 46) rfl) (fun u h => h)) ad_nil))))))) (sd_cons (sd_set (i := 1) sc__law_kinds.nd rfl (by first | exact Or.inl rfl | exact Or.inr rfl) (ed_bin od_addX (ed_var 1) (ed_fz (fl_lst (ad_cons (ed_isE O.hot O.xc O.zc rfl (c.free 25) (ed_var 0) (pe_glob (v := .ref (He.ga K "NoRequest")) rfl (c.glo 50) rfl) (fun u h => h)) (ad_cons (ed_isE O.hot O.xc O.zc rfl (c.free 25) (ed_var 0) (pe_glob (v := .ref (He.ga K "NoText")) rfl (c.glo 33) rfl) (fun u h => h)) (ad_cons (ed_isE O.hot O.xc O.zc rfl (c.free 25) (ed_var 0) (pe_glob (v := .ref (He.ga K "NoTree")) rfl (c.glo 49) rfl) (fun u h => h)) ad_nil))))))) (sd_cons (sd_set (i := 1) sc__law_kinds.nd rfl (by first | exact Or.inl rfl | exact Or.inr rfl) (ed_bin od_addX (ed_var 1) (ed_fz (fl_lst (ad_cons (ed_isE O.hot O.xc O.zc rfl (c.free 25) (ed_var 0) (pe_glob (v := .ref (He.ga K "Taken")) rfl (c.glo 53) rfl) (fun u h => h)) (ad_cons (ed_isE O.hot O.xc O.zc rfl (c.free 25) (ed_var 0) (pe_glob (v := .ref (He.ga K "TooMany")) rfl (c.glo 52) rfl) (fun u h => h)) (ad_cons (ed_isE O.hot O.xc O.zc rfl (c.free 25) (ed_var 0) (pe_glob (v := .ref (He.ga K "Unsettled")) rfl (c.glo 51) rfl) (fun u h => h)) ad_nil))))))) (sd_cons (sd_set (i := 2) sc__law_kinds.nd rfl (by first | exact Or.inl rfl | exact Or.inr rfl) (ed_newL (fl_lst (ad_cons ed_str (ad_cons ed_str (ad_cons ed_str (ad_cons ed_str (ad_cons ed_str (ad_cons ed_str (ad_cons ed_str (ad_cons ed_str (ad_cons ed_str ad_nil)))))))))))) (sd_cons (sd_set (i := 2) sc__law_kinds.nd rfl (by first | exact Or.inl rfl | exact Or.inr rfl) (ed_newL (fl_bin of_addL (ed_var 2) (ed_fz (fl_lst (ad_cons ed_str (ad_cons ed_str (ad_cons ed_str (ad_cons ed_str (ad_cons ed_str (ad_cons ed_str (ad_cons ed_str (ad_cons ed_str ad_nil))))))))))))) (sd_cons (sd_exp (ed_meth PySem.F.plainAttrs_list PySem.F.slot_list_append PySem.F.type_list_append md_append (ed_var 2) (ad_cons ed_str ad_nil))) (sd_cons (sd_setLcCN (i := 3) O.hot sc__law_kinds.nd rfl rfl rfl (id_zipN rfl (c.free 36) (ed_var 2) (ed_var 1)) (own := [("name", 4), ("kind", 5)]) (blkOk_by (by kernel_rfl)) rfl (fun s H C cl fp hh => (pg_tupN hh.hot (pgs_cons (pg_name (i := 4) sc__law_kinds.nd rfl (by first | exact Or.inl rfl | exact Or.inr rfl)) (pgs_cons (pg_name (i := 5) sc__law_kinds.nd rfl (by first | exact Or.inl rfl | exact Or.inr rfl)) pgs_nil)))) (fun s H C cl fp hh => (ptd_one (td_val (ed_var 5)))) (fun s H C cl fp hh => (ed_var 4))) (sd_cons (sd_if (td_bool (tw_or (td_not (td_val (ed_isE O.hot O.xc O.zc rfl (c.free 25) (ed_var 0) (pe_glob (v := .ref (He.ga K "AskError")) rfl (c.glo 54) rfl) (fun u h => h)))) (tw_or1 (td_not (td_val (ed_isE O.hot O.xc O.zc rfl (c.free 25) (ed_var 0) (pe_bltn rfl (c.free 55) (by decide +kernel) (show RelV (.ty "ValueError") (.type "ValueError") from rfl)) (fun u h => h))))))) (sd_one (sd_exp (ed_meth PySem.F.plainAttrs_list PySem.F.slot_list_append PySem.F.type_list_append md_append (ed_var 3) (ad_cons ed_str ad_nil)))) sd_nil) (sd_one (sd_ret (ed_var 3))))))))))))))
theorem G__law_kinds (c : Fx fa fn K mg) (sm : SM base) : GfE P w K mg base "_law_kinds" 1 1 (fun Dc a => g__law_kinds K Dc a) := by
  obtain ⟨fd, F⟩ := c.def_ 10 (d := D__law_kinds) rfl
  exact gfE_of F (ok__law_kinds c sm F) (c.glo 10) rfl (FunD.bindsN F fun _ _ _ _ _ _ us hl => match us, hl with | [_], _ => rfl)
theorem ok__law_told {f : Addr} {fd : FuncData} (c : Fx fa fn K mg) (sm : SM base) (F : FunD K "_law_told" "_law_told" (defArgs s__law_told) (defBody s__law_told) (defScope s__law_told) [] [] f fd) : FnY P w K mg base 5 f fd ["way", "value"] (g__law_told K) := by
  show FnY P w K mg base (4 + 1) f fd ["way", "value"] (fnD (["way", "value", "e"] : List Str).length .all (d__law_told K))
  refine ok_def (N := ["way", "value", "e"]) (ps := ["way", "value"]) (k := 4) (m := .all) (db := d__law_told K) F sc__law_told fun cdv A outer s H E hG hr => ?_
  have O := ok_cx (P := P) (w := w) (K := K) (mg := mg) (N := ["way", "value", "e"]) (qual := "_law_told") (scope := defScope s__law_told) (f := f) (cdv := cdv) (outer := outer) (H := H) (E := E) sm hG hr
  exact (sd_one (sd_try (i := 2) O rfl rfl sc__law_told.nd rfl rfl rfl (c.glo 54) (fun W' pn xe O' po' => (sd_one (sd_ret (ed_if (td_cmp (od_eq O'.un O'.sm) (ed_var 0) ed_int rfl) (ed_fn (G_read_line c sm) O' (by decide) rfl (ad_cons (ed_var 1) ad_nil)) (ed_fn (G_read_logs c sm) O' (by decide) rfl (ad_cons (ed_var 1) ad_nil)))))) (fun a oe Dc pn Oh => (sd_one (sd_ret (ed_fnE (G__law_kinds c sm) Oh (by decide) rfl (ad_cons (ed_var 2) ad_nil)))))))
theorem G__law_told (c : Fx fa fn K mg) (sm : SM base) : Gf P w K mg base "_law_told" 5 2 (g__law_told K) := by
  obtain ⟨fd, F⟩ := c.def_ 11 (d := D__law_told) rfl
  exact gf_of F (ok__law_told c sm F) (c.glo 11) rfl (FunD.bindsN F fun _ _ _ _ _ _ us hl => match us, hl with | [_, _], _ => rfl)
theorem ok__law_own_name {f : Addr} {fd : FuncData} (c : Fx fa fn K mg) (sm : SM base) (F : FunD K "_law_own_name" "_law_own_name" (defArgs s__law_own_name) (defBody s__law_own_name) (defScope s__law_own_name) [] [] f fd) : FnY P w K mg base 1 f fd ["value"] (g__law_own_name K) := by
  show FnY P w K mg base (0 + 1) f fd ["value"] (fnD (["value", "sign"] : List Str).length .all (d__law_own_name K))
  refine ok_def (N := ["value", "sign"]) (ps := ["value"]) (k := 0) (m := .all) (db := d__law_own_name K) F sc__law_own_name fun cdv A outer s H E hG hr => ?_
  have O := ok_cx (P := P) (w := w) (K := K) (mg := mg) (N := ["value", "sign"]) (qual := "_law_own_name") (scope := defScope s__law_own_name) (f := f) (cdv := cdv) (outer := outer) (H := H) (E := E) sm hG hr
  exact (sd_cons (sd_if (td_bool (tw_or (td_not (td_val (ed_isi rfl (c.free 25) rfl (c.free 26) (ed_var 0)))) (tw_or (td_cmp (od_ltX O.un O.sm) (ed_bf cd_len rfl (c.free 22) (ad_cons (ed_var 0) ad_nil)) ed_int rfl) (tw_or1 (td_cmp od_gt (ed_bf cd_len rfl (c.free 22) (ad_cons (ed_var 0) ad_nil)) ed_int rfl))))) (sd_one (sd_ret ed_bl)) sd_nil) (sd_one (sd_ret (ed_cmp (od_eq O.un O.sm) (ed_fz (fl_lock (src := dVar 0) (fl_lc O.calm sc__law_own_name.nd (id_any (ed_var 0)) (own := [("sign", 1)]) (blkOk_by (by kernel_rfl)) rfl (fun s H C cl fp => (pg_name (i := 1) sc__law_own_name.nd rfl (by first | exact Or.inl rfl | exact Or.inr rfl))) (fun s H C cl fp => (ptd_one (td_cmp (od_nin (O.blk s H _ (compEnvC _ cl C _) fp).un (O.blk s H _ (compEnvC _ cl C _) fp).sm) (ed_var 1) ed_str rfl))) (fun s H C cl fp => (ed_var 1))))) (ed_fz fl_nil) rfl))))
theorem G__law_own_name (c : Fx fa fn K mg) (sm : SM base) : Gf P w K mg base "_law_own_name" 1 1 (g__law_own_name K) := by
  obtain ⟨fd, F⟩ := c.def_ 12 (d := D__law_own_name) rfl
  exact gf_of F (ok__law_own_name c sm F) (c.glo 12) rfl (FunD.bindsN F fun _ _ _ _ _ _ us hl => match us, hl with | [_], _ => rfl)
theorem ok__law_line_of {f : Addr} {fd : FuncData} (c : Fx fa fn K mg) (sm : SM base) (F : FunD K "_law_line_of" "_law_line_of" (defArgs s__law_line_of) (defBody s__law_line_of) (defScope s__law_line_of) [] [] f fd) : FnY P w K mg base 2 f fd ["text"] (g__law_line_of K) := by
  show FnY P w K mg base (1 + 1) f fd ["text"] (fnD (["text", "words", "odd", "word"] : List Str).length .all (d__law_line_of K))
  refine ok_def (N := ["text", "words", "odd", "word"]) (ps := ["text"]) (k := 1) (m := .all) (db := d__law_line_of K) F sc__law_line_of fun cdv A outer s H E hG hr => ?_
  have O := ok_cx (P := P) (w := w) (K := K) (mg := mg) (N := ["text", "words", "odd", "word"]) (qual := "_law_line_of") (scope := defScope s__law_line_of) (f := f) (cdv := cdv) (outer := outer) (H := H) (E := E) sm hG hr
  exact (sd_cons (sd_set (i := 1) sc__law_line_of.nd rfl (by first | exact Or.inl rfl | exact Or.inr rfl) (ed_fz (fl_meth PySem.F.plainAttrs_str PySem.F.slot_str_split PySem.F.type_str_split mf_split (ed_var 0) (ad_cons ed_str ad_nil)))) (sd_cons (sd_lock (src := dVar 1) (sd_setLc (i := 2) O.calm sc__law_line_of.nd rfl rfl rfl (id_any (ed_var 1)) (own := [("word", 3)]) (blkOk_by (by kernel_rfl)) rfl (fun s H C cl fp => (pg_name (i := 3) sc__law_line_of.nd rfl (by first | exact Or.inl rfl | exact Or.inr rfl))) (fun s H C cl fp => (ptd_one (td_not (td_val (ed_fn (G__law_own_name c sm) (O.blk s H _ (compEnvC _ cl C _) fp) (by decide) rfl (ad_cons (ed_var 3) ad_nil)))))) (fun s H C cl fp => (ed_var 3)))) (sd_one (sd_ret (ed_if (td_bool (tw_or (td_cmp (od_ne O.un O.sm) (ed_var 2) (ed_fz fl_nil) rfl) (tw_or1 (td_cmp od_gt (ed_bf cd_len rfl (c.free 22) (ad_cons (ed_var 1) ad_nil)) ed_int rfl)))) ed_non (ed_var 1))))))
theorem G__law_line_of (c : Fx fa fn K mg) (sm : SM base) : Gf P w K mg base "_law_line_of" 2 1 (g__law_line_of K) := by
  obtain ⟨fd, F⟩ := c.def_ 13 (d := D__law_line_of) rfl
  exact gf_of F (ok__law_line_of c sm F) (c.glo 13) rfl (FunD.bindsN F fun _ _ _ _ _ _ us hl => match us, hl with | [_], _ => rfl)
theorem ok__law_logs_of {f : Addr} {fd : FuncData} (c : Fx fa fn K mg) (sm : SM base) (F : FunD K "_law_logs_of" "_law_logs_of" (defArgs s__law_logs_of) (defBody s__law_logs_of) (defScope s__law_logs_of) [] [] f fd) : FnY P w K mg base 2 f fd ["text"] (g__law_logs_of K) := by
  show FnY P w K mg base (1 + 1) f fd ["text"] (fnD (["text", "found", "nodes", "row", "words", "name", "entries", "word"] : List Str).length .all (d__law_logs_of K))
  refine ok_def (N := ["text", "found", "nodes", "row", "words", "name", "entries", "word"]) (ps := ["text"]) (k := 1) (m := .all) (db := d__law_logs_of K) F sc__law_logs_of fun cdv A outer s H E hG hr => ?_
  have O := ok_cx (P := P) (w := w) (K := K) (mg := mg) (N := ["text", "found", "nodes", "row", "words", "name", "entries", "word"]) (qual := "_law_logs_of") (scope := defScope s__law_logs_of) (f := f) (cdv := cdv) (outer := outer) (H := H) (E := E) sm hG hr
  exact (sd_cons (sd_par O.calm sc__law_logs_of.nd (i := 1) (j := 2) rfl rfl (by decide) rfl rfl (ad_cons (ed_newK fk_nil) (ad_cons (ed_newL fl_nil) ad_nil)) rfl) (sd_cons (sd_for own_cx O.calm (id_any (ed_fz (fl_meth PySem.F.plainAttrs_str PySem.F.slot_str_split PySem.F.type_str_split mf_split (ed_var 0) (ad_cons ed_str ad_nil)))) (pg_name (i := 3) sc__law_logs_of.nd rfl (by first | exact Or.inl rfl | exact Or.inr rfl)) (sd_cons (sd_set (i := 4) sc__law_logs_of.nd rfl (by first | exact Or.inl rfl | exact Or.inr rfl) (ed_fz (fl_meth PySem.F.plainAttrs_str PySem.F.slot_str_split PySem.F.type_str_split mf_split (ed_var 3) (ad_cons ed_str ad_nil)))) (sd_cons (sd_par O.calm sc__law_logs_of.nd (i := 5) (j := 6) rfl rfl (by decide) rfl rfl (ad_cons (ed_slice (ed_ix (id_ix O.un) (ed_var 4) ed_int (fun _ _ => rfl)) pd_none (pd_some (ed_un ud_neg ed_int))) (ad_cons (ed_slice (ed_var 4) (pd_some ed_int) pd_none) ad_nil)) rfl) (sd_cons (sd_if (td_bool (tw_or (td_cmp (od_ne O.un O.sm) (ed_slice (ed_ix (id_ix O.un) (ed_var 4) ed_int (fun _ _ => rfl)) (pd_some (ed_un ud_neg ed_int)) pd_none) ed_str rfl) (tw_or1 (td_cmp od_gt (ed_bf cd_len rfl (c.free 22) (ad_cons (ed_var 6) ad_nil)) ed_int rfl)))) (sd_one (sd_ret ed_non)) sd_nil) (sd_cons (sd_if (td_cmp (od_ne O.un O.sm) (ed_fz (fl_lc O.calm sc__law_logs_of.nd (id_any (ed_bin od_addX (ed_fz (fl_lst (ad_cons (ed_var 5) ad_nil))) (ed_var 6))) (own := [("word", 7)]) (blkOk_by (by kernel_rfl)) rfl (fun s H C cl fp => (pg_name (i := 7) sc__law_logs_of.nd rfl (by first | exact Or.inl rfl | exact Or.inr rfl))) (fun s H C cl fp => (ptd_one (td_not (td_val (ed_fn (G__law_own_name c sm) (O.blk s H _ (compEnvC _ cl C _) fp) (by decide) rfl (ad_cons (ed_var 7) ad_nil)))))) (fun s H C cl fp => (ed_var 7)))) (ed_fz fl_nil) rfl) (sd_one (sd_ret ed_non)) sd_nil) (sd_cons (sd_exp (ed_meth PySem.F.plainAttrs_list PySem.F.slot_list_append PySem.F.type_list_append md_append (ed_var 2) (ad_cons (ed_var 5) ad_nil))) (sd_one (sd_put O.un (ed_var 6) (ed_var 1) (ed_var 5))))))))) (sd_one (sd_ret (ed_if (td_bool (tw_and (td_cmp (od_eq O.un O.sm) (ed_fz (fl_sortSet O.un rfl (c.free 56) rfl (c.free 57) (ed_var 2) O.calm)) (ed_var 2) rfl) (tw_and1 (td_cmp (od_ltX O.un O.sm) (ed_bf cd_len rfl (c.free 22) (ad_cons (ed_var 2) ad_nil)) ed_int rfl)))) (ed_var 1) ed_non)))))
theorem G__law_logs_of (c : Fx fa fn K mg) (sm : SM base) : Gf P w K mg base "_law_logs_of" 2 1 (g__law_logs_of K) := by
  obtain ⟨fd, F⟩ := c.def_ 14 (d := D__law_logs_of) rfl
  exact gf_of F (ok__law_logs_of c sm F) (c.glo 14) rfl (FunD.bindsN F fun _ _ _ _ _ _ us hl => match us, hl with | [_], _ => rfl)
theorem ok_show_line {f : Addr} {fd : FuncData} (c : Fx fa fn K mg) (sm : SM base) (F : FunD K "show_line" "show_line" (defArgs s_show_line) (defBody s_show_line) (defScope s_show_line) [] [] f fd) : FnY P w K mg base 3 f fd ["line"] (g_show_line K) := by
  show FnY P w K mg base (2 + 1) f fd ["line"] (fnD (["line"] : List Str).length .all (d_show_line K))
  refine ok_def (N := ["line"]) (ps := ["line"]) (k := 2) (m := .all) (db := d_show_line K) F sc_show_line fun cdv A outer s H E hG hr => ?_
  have O := ok_cx (P := P) (w := w) (K := K) (mg := mg) (N := ["line"]) (qual := "show_line") (scope := defScope s_show_line) (f := f) (cdv := cdv) (outer := outer) (H := H) (E := E) sm hG hr
  exact (sd_cons (sd_if (td_not (td_val (ed_fn (G_are_names c sm) O (by decide) rfl (ad_cons (ed_var 0) (ad_cons ed_int ad_nil))))) (sd_one (sd_raise (c.exc 58 41) O rfl (ad_cons ed_str ad_nil))) sd_nil) (sd_one (sd_ret (ed_meth PySem.F.plainAttrs_str PySem.F.slot_str_join PySem.F.type_str_join md_join ed_str (ad_cons (ed_var 0) ad_nil)))))
theorem G_show_line (c : Fx fa fn K mg) (sm : SM base) : Gf P w K mg base "show_line" 3 1 (g_show_line K) := by
  obtain ⟨fd, F⟩ := c.def_ 15 (d := D_show_line) rfl
  exact gf_of F (ok_show_line c sm F) (c.glo 15) rfl (FunD.bindsN F fun _ _ _ _ _ _ us hl => match us, hl with | [_], _ => rfl)
theorem ok_show_logs {f : Addr} {fd : FuncData} (c : Fx fa fn K mg) (sm : SM base) (F : FunD K "show_logs" "show_logs" (defArgs s_show_logs) (defBody s_show_logs) (defScope s_show_logs) [] [] f fd) : FnY P w K mg base 4 f fd ["logs"] (g_show_logs K) := by
  show FnY P w K mg base (3 + 1) f fd ["logs"] (fnD (["logs", "node"] : List Str).length .all (d_show_logs K))
  refine ok_def (N := ["logs", "node"]) (ps := ["logs"]) (k := 3) (m := .all) (db := d_show_logs K) F sc_show_logs fun cdv A outer s H E hG hr => ?_
  have O := ok_cx (P := P) (w := w) (K := K) (mg := mg) (N := ["logs", "node"]) (qual := "show_logs") (scope := defScope s_show_logs) (f := f) (cdv := cdv) (outer := outer) (H := H) (E := E) sm hG hr
  exact (sd_cons (sd_if (td_not (td_val (ed_fn (G_are_lists_of_names c sm) O (by decide) rfl (ad_cons (ed_var 0) ad_nil)))) (sd_one (sd_raise (c.exc 59 40) O rfl (ad_cons ed_str ad_nil))) sd_nil) (sd_one (sd_ret (ed_meth PySem.F.plainAttrs_str PySem.F.slot_str_join PySem.F.type_str_join md_join ed_str (ad_cons (ed_fz (fl_lc O.calm sc_show_logs.nd (id_any (ed_fz (fl_bf (cf_sorted O.un O.sm O.calm) rfl (c.free 56) (ad_cons (ed_var 0) ad_nil)))) (own := [("node", 1)]) (blkOk_by (by kernel_rfl)) rfl (fun s H C cl fp => (pg_name (i := 1) sc_show_logs.nd rfl (by first | exact Or.inl rfl | exact Or.inr rfl))) (fun s H C cl fp => ptd_nil) (fun s H C cl fp => (ed_meth PySem.F.plainAttrs_str PySem.F.slot_str_join PySem.F.type_str_join md_join ed_str (ad_cons (ed_bin od_addX (ed_fz (fl_lst (ad_cons (ed_bin od_addX (ed_var 1) ed_str) ad_nil))) (ed_ix (id_ix (O.blk s H _ (compEnvC _ cl C _) fp).un) (ed_var 0) (ed_var 1) (fun _ _ => rfl))) ad_nil))))) ad_nil)))))
theorem G_show_logs (c : Fx fa fn K mg) (sm : SM base) : Gf P w K mg base "show_logs" 4 1 (g_show_logs K) := by
  obtain ⟨fd, F⟩ := c.def_ 16 (d := D_show_logs) rfl
  exact gf_of F (ok_show_logs c sm F) (c.glo 16) rfl (FunD.bindsN F fun _ _ _ _ _ _ us hl => match us, hl with | [_], _ => rfl)
theorem ok__law_right {f : Addr} {fd : FuncData} (c : Fx fa fn K mg) (sm : SM base) (F : FunD K "_law_right" "_law_right" (defArgs s__law_right) (defBody s__law_right) (defScope s__law_right) [] [] f fd) : FnY P w K mg base 6 f fd ["way", "value"] (g__law_right K) := by
  show FnY P w K mg base (5 + 1) f fd ["way", "value"] (fnD (["way", "value", "told", "due"] : List Str).length .all (d__law_right K))
  refine ok_def (N := ["way", "value", "told", "due"]) (ps := ["way", "value"]) (k := 5) (m := .all) (db := d__law_right K) F sc__law_right fun cdv A outer s H E hG hr => ?_
  have O := ok_cx (P := P) (w := w) (K := K) (mg := mg) (N := ["way", "value", "told", "due"]) (qual := "_law_right") (scope := defScope s__law_right) (f := f) (cdv := cdv) (outer := outer) (H := H) (E := E) sm hG hr
  exact (sd_cons (sd_par O.calm sc__law_right.nd (i := 2) (j := 3) rfl rfl (by decide) rfl rfl (ad_cons (ed_fn (G__law_told c sm) O (by decide) rfl (ad_cons (ed_var 0) (ad_cons (ed_var 1) ad_nil))) (ad_cons ed_non ad_nil)) rfl) (sd_cons (sd_if (td_val (ed_isi rfl (c.free 25) rfl (c.free 26) (ed_var 1))) (sd_one (sd_set (i := 3) sc__law_right.nd rfl (by first | exact Or.inl rfl | exact Or.inr rfl) (ed_if (td_cmp (od_eq O.un O.sm) (ed_var 0) ed_int rfl) (ed_fn (G__law_line_of c sm) O (by decide) rfl (ad_cons (ed_var 1) ad_nil)) (ed_fn (G__law_logs_of c sm) O (by decide) rfl (ad_cons (ed_var 1) ad_nil))))) sd_nil) (sd_cons (sd_if (td_cmp od_is (ed_var 3) ed_non rfl) (sd_one (sd_ret (ed_cmp (od_eq O.un O.sm) (ed_var 2) (ed_fz (fl_lst (ad_cons ed_str ad_nil))) rfl))) sd_nil) (sd_cons (sd_if (td_bool (tw_or (td_cmp (od_ne O.un O.sm) (ed_isi rfl (c.free 25) rfl (c.free 34) (ed_var 2)) (ed_cmp (od_eq O.un O.sm) (ed_var 0) ed_int rfl) rfl) (tw_or1 (td_cmp (od_ne O.un O.sm) (ed_var 2) (ed_var 3) rfl)))) (sd_one (sd_ret ed_bl)) sd_nil) (sd_one (sd_ret (ed_cmp (od_eq O.un O.sm) (ed_if (td_cmp (od_eq O.un O.sm) (ed_var 0) ed_int rfl) (ed_fn (G_show_line c sm) O (by decide) rfl (ad_cons (ed_var 2) ad_nil)) (ed_fn (G_show_logs c sm) O (by decide) rfl (ad_cons (ed_var 2) ad_nil))) (ed_var 1) rfl)))))))
theorem G__law_right (c : Fx fa fn K mg) (sm : SM base) : Gf P w K mg base "_law_right" 6 2 (g__law_right K) := by
  obtain ⟨fd, F⟩ := c.def_ 17 (d := D__law_right) rfl
  exact gf_of F (ok__law_right c sm F) (c.glo 17) rfl (FunD.bindsN F fun _ _ _ _ _ _ us hl => match us, hl with | [_, _], _ => rfl)
theorem ok__law_logs_text {f : Addr} {fd : FuncData} (c : Fx fa fn K mg) (sm : SM base) (F : FunD K "_law_logs_text" "_law_logs_text" (defArgs s__law_logs_text) (defBody s__law_logs_text) (defScope s__law_logs_text) [] [] f fd) : FnY P w K mg base 1 f fd ["logs"] (g__law_logs_text K) := by
  show FnY P w K mg base (0 + 1) f fd ["logs"] (fnD (["logs", "node"] : List Str).length .all (d__law_logs_text K))
  refine ok_def (N := ["logs", "node"]) (ps := ["logs"]) (k := 0) (m := .all) (db := d__law_logs_text K) F sc__law_logs_text fun cdv A outer s H E hG hr => ?_
  have O := ok_cx (P := P) (w := w) (K := K) (mg := mg) (N := ["logs", "node"]) (qual := "_law_logs_text") (scope := defScope s__law_logs_text) (f := f) (cdv := cdv) (outer := outer) (H := H) (E := E) sm hG hr
  exact (sd_one (sd_ret (ed_meth PySem.F.plainAttrs_str PySem.F.slot_str_join PySem.F.type_str_join md_join ed_str (ad_cons (ed_fz (fl_lc O.calm sc__law_logs_text.nd (id_any (ed_fz (fl_bf (cf_sorted O.un O.sm O.calm) rfl (c.free 56) (ad_cons (ed_var 0) ad_nil)))) (own := [("node", 1)]) (blkOk_by (by kernel_rfl)) rfl (fun s H C cl fp => (pg_name (i := 1) sc__law_logs_text.nd rfl (by first | exact Or.inl rfl | exact Or.inr rfl))) (fun s H C cl fp => ptd_nil) (fun s H C cl fp => (ed_meth PySem.F.plainAttrs_str PySem.F.slot_str_join PySem.F.type_str_join md_join ed_str (ad_cons (ed_bin od_addX (ed_fz (fl_lst (ad_cons (ed_bin od_addX (ed_var 1) ed_str) ad_nil))) (ed_ix (id_ix (O.blk s H _ (compEnvC _ cl C _) fp).un) (ed_var 0) (ed_var 1) (fun _ _ => rfl))) ad_nil))))) ad_nil))))
theorem G__law_logs_text (c : Fx fa fn K mg) (sm : SM base) : Gf P w K mg base "_law_logs_text" 1 1 (g__law_logs_text K) := by
  obtain ⟨fd, F⟩ := c.def_ 18 (d := D__law_logs_text) rfl
  exact gf_of F (ok__law_logs_text c sm F) (c.glo 18) rfl (FunD.bindsN F fun _ _ _ _ _ _ us hl => match us, hl with | [_], _ => rfl)
theorem ok__law_odd {f : Addr} {fd : FuncData} (c : Fx fa fn K mg) (sm : SM base) (F : FunD K "_law_odd" "_law_odd" (defArgs s__law_odd) (defBody s__law_odd) (defScope s__law_odd) [] [] f fd) : FnY P w K mg base 2 f fd ["source"] (g__law_odd K) := by
  show FnY P w K mg base (1 + 1) f fd ["source"] (fnD (["source", "some"] : List Str).length .all (d__law_odd K))
  refine ok_def (N := ["source", "some"]) (ps := ["source"]) (k := 1) (m := .all) (db := d__law_odd K) F sc__law_odd fun cdv A outer s H E hG hr => ?_
  have O := ok_cx (P := P) (w := w) (K := K) (mg := mg) (N := ["source", "some"]) (qual := "_law_odd") (scope := defScope s__law_odd) (f := f) (cdv := cdv) (outer := outer) (H := H) (E := E) sm hG hr
  exact (sd_cons (sd_set (i := 1) sc__law_odd.nd rfl (by first | exact Or.inl rfl | exact Or.inr rfl) (ed_fz (fl_lst (ad_cons ed_non (ad_cons ed_bl (ad_cons ed_int (ad_cons (ed_un ud_neg ed_int) (ad_cons ed_str (ad_cons ed_str (ad_cons ed_str (ad_cons ed_str (ad_cons ed_str (ad_cons ed_str (ad_cons ed_str (ad_cons (ed_fz fl_nil) (ad_cons (ed_tup ad_nil) (ad_cons (ed_fzK fk_nil) (ad_cons (ed_fz (fl_lst (ad_cons ed_str ad_nil))) (ad_cons (ed_tup (ad_cons ed_str ad_nil)) (ad_cons (ed_fzK (fk_disp1 ed_str (ed_tup ad_nil))) ad_nil)))))))))))))))))))) (sd_cons (sd_set (i := 1) sc__law_odd.nd rfl (by first | exact Or.inl rfl | exact Or.inr rfl) (ed_bin od_addX (ed_var 1) (ed_fz (fl_lst (ad_cons (ed_fzK (fk_disp1 ed_str (ed_fz (fl_lst (ad_cons ed_str ad_nil))))) (ad_cons (ed_fzK (fk_disp1 ed_str (ed_fz (fl_lst (ad_cons ed_str ad_nil))))) (ad_cons (ed_fzK (fk_disp1 ed_str (ed_fz fl_nil))) (ad_cons (ed_fzK (fk_disp1 ed_int (ed_fz fl_nil))) (ad_cons (ed_fzK (fk_disp1 ed_str ed_non)) (ad_cons (ed_fzK (fk_disp1 ed_str (ed_fz (fl_lst (ad_cons ed_non ad_nil))))) (ad_cons (ed_fzK (fk_disp2 ed_str (ed_fz (fl_lst (ad_cons ed_str ad_nil))) ed_str (ed_fz fl_nil))) ad_nil))))))))))) (sd_cons (sd_set (i := 1) sc__law_odd.nd rfl (by first | exact Or.inl rfl | exact Or.inr rfl) (ed_bin od_addX (ed_var 1) (ed_fz (fl_lst (ad_cons (ed_fzK (fk_disp2 ed_str (ed_fz (fl_lst (ad_cons (ed_fz (fl_lst (ad_cons ed_str ad_nil))) ad_nil))) ed_str (ed_fz (fl_lst (ad_cons ed_str ad_nil))))) (ad_cons (ed_fz (fl_lst (ad_cons (ed_tup (ad_cons ed_str (ad_cons (ed_fz fl_nil) ad_nil))) ad_nil))) (ad_cons (ed_fzK (fk_disp2 ed_str (ed_fz fl_nil) ed_str (ed_fz fl_nil))) (ad_cons (ed_fzK (fk_disp2 ed_str (ed_fz (fl_lst (ad_cons ed_str (ad_cons ed_str ad_nil)))) ed_str (ed_fz (fl_lst (ad_cons ed_str ad_nil))))) ad_nil)))))))) (sd_one (sd_ret (ed_ix (id_ix O.un) (ed_var 1) (ed_fn (G__law_pick c sm) O (by decide) rfl (ad_cons (ed_var 0) (ad_cons ed_int ad_nil))) (fun _ _ => rfl)))))))
theorem G__law_odd (c : Fx fa fn K mg) (sm : SM base) : Gf P w K mg base "_law_odd" 2 1 (g__law_odd K) := by
  obtain ⟨fd, F⟩ := c.def_ 19 (d := D__law_odd) rfl
  exact gf_of F (ok__law_odd c sm F) (c.glo 19) rfl (FunD.bindsN F fun _ _ _ _ _ _ us hl => match us, hl with | [_], _ => rfl)
theorem ok__law_changed {f : Addr} {fd : FuncData} (c : Fx fa fn K mg) (sm : SM base) (F : FunD K "_law_changed" "_law_changed" (defArgs s__law_changed) (defBody s__law_changed) (defScope s__law_changed) [] [] f fd) : FnY P w K mg base 2 f fd ["source", "text"] (g__law_changed K) := by
  show FnY P w K mg base (1 + 1) f fd ["source", "text"] (fnD (["source", "text", "at", "sign", "rows", "spot", "words", "place", "some"] : List Str).length .all (d__law_changed K))
  refine ok_def (N := ["source", "text", "at", "sign", "rows", "spot", "words", "place", "some"]) (ps := ["source", "text"]) (k := 1) (m := .all) (db := d__law_changed K) F sc__law_changed fun cdv A outer s H E hG hr => ?_
  have O := ok_cx (P := P) (w := w) (K := K) (mg := mg) (N := ["source", "text", "at", "sign", "rows", "spot", "words", "place", "some"]) (qual := "_law_changed") (scope := defScope s__law_changed) (f := f) (cdv := cdv) (outer := outer) (H := H) (E := E) sm hG hr
  exact (sd_cons (sd_set (i := 2) sc__law_changed.nd rfl (by first | exact Or.inl rfl | exact Or.inr rfl) (ed_fn (G__law_pick c sm) O (by decide) rfl (ad_cons (ed_var 0) (ad_cons (ed_bin od_addX (ed_bf cd_len rfl (c.free 22) (ad_cons (ed_var 1) ad_nil)) ed_int) ad_nil)))) (sd_cons (sd_set (i := 3) sc__law_changed.nd rfl (by first | exact Or.inl rfl | exact Or.inr rfl) (ed_ix (id_ix O.un) (ed_fz (fl_lst (ad_cons ed_str (ad_cons ed_str (ad_cons ed_str (ad_cons ed_str (ad_cons ed_str (ad_cons ed_str (ad_cons ed_str (ad_cons ed_str (ad_cons ed_str (ad_cons ed_str (ad_cons ed_str ad_nil))))))))))))) (ed_fn (G__law_pick c sm) O (by decide) rfl (ad_cons (ed_var 0) (ad_cons ed_int ad_nil))) (fun _ _ => rfl))) (sd_cons (sd_set (i := 4) sc__law_changed.nd rfl (by first | exact Or.inl rfl | exact Or.inr rfl) (ed_newL (fl_meth PySem.F.plainAttrs_str PySem.F.slot_str_split PySem.F.type_str_split mf_split (ed_var 1) (ad_cons ed_str ad_nil)))) (sd_cons (sd_set (i := 5) sc__law_changed.nd rfl (by first | exact Or.inl rfl | exact Or.inr rfl) (ed_fn (G__law_pick c sm) O (by decide) rfl (ad_cons (ed_var 0) (ad_cons (ed_bf cd_len rfl (c.free 22) (ad_cons (ed_var 4) ad_nil)) ad_nil)))) (sd_cons (sd_set (i := 6) sc__law_changed.nd rfl (by first | exact Or.inl rfl | exact Or.inr rfl) (ed_newL (fl_meth PySem.F.plainAttrs_str PySem.F.slot_str_split PySem.F.type_str_split mf_split (ed_ix (id_ix O.un) (ed_var 4) (ed_var 5) (fun _ _ => rfl)) (ad_cons ed_str ad_nil)))) (sd_cons (sd_set (i := 7) sc__law_changed.nd rfl (by first | exact Or.inl rfl | exact Or.inr rfl) (ed_fn (G__law_pick c sm) O (by decide) rfl (ad_cons (ed_var 0) (ad_cons (ed_bf cd_len rfl (c.free 22) (ad_cons (ed_var 6) ad_nil)) ad_nil)))) (sd_cons (sd_set (i := 8) sc__law_changed.nd rfl (by first | exact Or.inl rfl | exact Or.inr rfl) (ed_newL (fl_lst (ad_cons (ed_bin od_addX (ed_bin od_addX (ed_slice (ed_var 1) pd_none (pd_some (ed_var 2))) (ed_var 3)) (ed_slice (ed_var 1) (pd_some (ed_var 2)) pd_none)) (ad_cons (ed_bin od_addX (ed_slice (ed_var 1) pd_none (pd_some (ed_var 2))) (ed_slice (ed_var 1) (pd_some (ed_bin od_addX (ed_var 2) ed_int)) pd_none)) (ad_cons (ed_bin od_addX (ed_bin od_addX (ed_slice (ed_var 1) pd_none (pd_some (ed_var 2))) (ed_var 3)) (ed_slice (ed_var 1) (pd_some (ed_bin od_addX (ed_var 2) ed_int)) pd_none)) (ad_cons (ed_bin od_addX (ed_var 1) ed_str) ad_nil))))))) (sd_cons (sd_set (i := 8) sc__law_changed.nd rfl (by first | exact Or.inl rfl | exact Or.inr rfl) (ed_newL (fl_bin of_addL (ed_var 8) (ed_fz (fl_lst (ad_cons (ed_meth PySem.F.plainAttrs_str PySem.F.slot_str_join PySem.F.type_str_join md_join ed_str (ad_cons (ed_bin od_addX (ed_slice (ed_var 4) pd_none (pd_some (ed_var 5))) (ed_slice (ed_var 4) (pd_some (ed_bin od_addX (ed_var 5) ed_int)) pd_none)) ad_nil)) (ad_cons (ed_meth PySem.F.plainAttrs_str PySem.F.slot_str_join PySem.F.type_str_join md_join ed_str (ad_cons (ed_fz (fl_rev (ed_var 4))) ad_nil)) ad_nil))))))) (sd_cons (sd_exp (ed_meth PySem.F.plainAttrs_list PySem.F.slot_list_append PySem.F.type_list_append md_append (ed_var 8) (ad_cons (ed_meth PySem.F.plainAttrs_str PySem.F.slot_str_join PySem.F.type_str_join md_join ed_str (ad_cons (ed_bin od_addX (ed_var 4) (ed_slice (ed_var 4) (pd_some (ed_var 5)) (pd_some (ed_bin od_addX (ed_var 5) ed_int)))) ad_nil)) ad_nil))) (sd_cons (sd_exp (ed_meth PySem.F.plainAttrs_list PySem.F.slot_list_insert PySem.F.type_list_insert md_insert (ed_var 6) (ad_cons (ed_var 7) (ad_cons (ed_ix (id_ix O.un) (ed_fz (fl_lst (ad_cons (ed_ix (id_ix O.un) (ed_var 6) (ed_var 7) (fun _ _ => rfl)) (ad_cons ed_str (ad_cons (ed_bin od_addX (ed_ix (id_ix O.un) (ed_var 6) (ed_var 7) (fun _ _ => rfl)) ed_str) (ad_cons ed_str (ad_cons ed_str ad_nil))))))) (ed_fn (G__law_pick c sm) O (by decide) rfl (ad_cons (ed_var 0) (ad_cons ed_int ad_nil))) (fun _ _ => rfl)) ad_nil)))) (sd_cons (sd_put O.un (ed_meth PySem.F.plainAttrs_str PySem.F.slot_str_join PySem.F.type_str_join md_join ed_str (ad_cons (ed_var 6) ad_nil)) (ed_var 4) (ed_var 5)) (sd_one (sd_ret (ed_ix (id_ix O.un) (ed_bin od_addX (ed_var 8) (ed_bin od_mulX (ed_fz (fl_lst (ad_cons (ed_meth PySem.F.plainAttrs_str PySem.F.slot_str_join PySem.F.type_str_join md_join ed_str (ad_cons (ed_var 4) ad_nil)) ad_nil))) ed_int)) (ed_fn (G__law_pick c sm) O (by decide) rfl (ad_cons (ed_var 0) (ad_cons ed_int ad_nil))) (fun _ _ => rfl)))))))))))))))
theorem G__law_changed (c : Fx fa fn K mg) (sm : SM base) : Gf P w K mg base "_law_changed" 2 2 (g__law_changed K) := by
  obtain ⟨fd, F⟩ := c.def_ 20 (d := D__law_changed) rfl
  exact gf_of F (ok__law_changed c sm F) (c.glo 20) rfl (FunD.bindsN F fun _ _ _ _ _ _ us hl => match us, hl with | [_, _], _ => rfl)
theorem ok_law {f : Addr} {fd : FuncData} (c : Fx fa fn K mg) (sm : SM base) (F : FunD K "law" "law" (defArgs s_law) (defBody s_law) (defScope s_law) [] [] f fd) : FnY P w K mg base 7 f fd ["script"] (g_law K) := by
  show FnY P w K mg base (6 + 1) f fd ["script"] (fnD (["script", "names", "rows", "great", "way", "value", "k", "source", "logs", "line", "texts", "at", "name", "turn", "again", "odd"] : List Str).length .all (d_law K))
  refine ok_def (N := ["script", "names", "rows", "great", "way", "value", "k", "source", "logs", "line", "texts", "at", "name", "turn", "again", "odd"]) (ps := ["script"]) (k := 6) (m := .all) (db := d_law K) F sc_law fun cdv A outer s H E hG hr => ?_
  have O := ok_cx (P := P) (w := w) (K := K) (mg := mg) (N := ["script", "names", "rows", "great", "way", "value", "k", "source", "logs", "line", "texts", "at", "name", "turn", "again", "odd"]) (qual := "law") (scope := defScope s_law) (f := f) (cdv := cdv) (outer := outer) (H := H) (E := E) sm hG hr
  exact (sd_cons (sd_setLc (i := 1) O.calm sc_law.nd rfl rfl rfl (id_rng1 rfl (c.free 24) ed_int) (own := [("at", 11)]) (blkOk_by (by kernel_rfl)) rfl (fun s H C cl fp => (pg_name (i := 11) sc_law.nd rfl (by first | exact Or.inl rfl | exact Or.inr rfl))) (fun s H C cl fp => ptd_nil) (fun s H C cl fp => (ed_bin od_addX (ed_bin od_addX ed_str (ed_ix (id_ix (O.blk s H _ (compEnvC _ cl C _) fp).un) ed_str (ed_bin od_div (ed_var 11) ed_int) (fun _ _ => rfl))) (ed_ix (id_ix (O.blk s H _ (compEnvC _ cl C _) fp).un) ed_str (ed_bin od_mod (ed_var 11) ed_int) (fun _ _ => rfl))))) (sd_cons (sd_lock (src := dVar 1) (sd_setLc (i := 2) O.calm sc_law.nd rfl rfl rfl (id_any (ed_var 1)) (own := [("name", 12)]) (blkOk_by (by kernel_rfl)) rfl (fun s H C cl fp => (pg_name (i := 12) sc_law.nd rfl (by first | exact Or.inl rfl | exact Or.inr rfl))) (fun s H C cl fp => ptd_nil) (fun s H C cl fp => (ed_bin od_addX (ed_var 12) ed_str)))) (sd_cons (sd_set (i := 3) sc_law.nd rfl (by first | exact Or.inl rfl | exact Or.inr rfl) (ed_fz (fl_lst (ad_cons (ed_tup (ad_cons ed_int (ad_cons (ed_meth PySem.F.plainAttrs_str PySem.F.slot_str_join PySem.F.type_str_join md_join ed_str (ad_cons (ed_bin od_mulX (ed_fz (fl_lst (ad_cons ed_str ad_nil))) ed_int) ad_nil)) ad_nil))) (ad_cons (ed_tup (ad_cons ed_int (ad_cons (ed_meth PySem.F.plainAttrs_str PySem.F.slot_str_join PySem.F.type_str_join md_join ed_str (ad_cons (ed_bin od_mulX (ed_fz (fl_lst (ad_cons ed_str ad_nil))) ed_int) ad_nil)) ad_nil))) (ad_cons (ed_tup (ad_cons ed_int (ad_cons (ed_meth PySem.F.plainAttrs_str PySem.F.slot_str_join PySem.F.type_str_join md_join ed_str (ad_cons (ed_var 2) ad_nil)) ad_nil))) ad_nil)))))) (sd_cons (sd_set (i := 3) sc_law.nd rfl (by first | exact Or.inl rfl | exact Or.inr rfl) (ed_bin od_addX (ed_var 3) (ed_fz (fl_lst (ad_cons (ed_tup (ad_cons ed_int (ad_cons (ed_meth PySem.F.plainAttrs_str PySem.F.slot_str_join PySem.F.type_str_join md_join ed_str (ad_cons (ed_slice (ed_var 2) (pd_some ed_int) pd_none) ad_nil)) ad_nil))) (ad_cons (ed_tup (ad_cons ed_int (ad_cons (ed_bin od_addX ed_str (ed_bin od_mulS ed_str ed_int)) ad_nil))) (ad_cons (ed_tup (ad_cons ed_int (ad_cons (ed_bin od_addX ed_str (ed_bin od_mulS ed_str ed_int)) ad_nil))) (ad_cons (ed_tup (ad_cons ed_int (ad_cons ed_str ad_nil))) (ad_cons (ed_tup (ad_cons ed_int (ad_cons ed_str ad_nil))) ad_nil))))))))) (sd_cons (sd_for own_cx O.calm (id_any (ed_bin od_addX (ed_var 3) (ed_fz (fl_lst (ad_cons (ed_tup (ad_cons ed_int (ad_cons ed_str ad_nil))) (ad_cons (ed_tup (ad_cons ed_int (ad_cons ed_str ad_nil))) (ad_cons (ed_tup (ad_cons ed_int (ad_cons ed_str ad_nil))) (ad_cons (ed_tup (ad_cons ed_int (ad_cons ed_str ad_nil))) ad_nil)))))))) (pg_tup O.calm (pgs_cons (pg_name (i := 4) sc_law.nd rfl (by first | exact Or.inl rfl | exact Or.inr rfl)) (pgs_cons (pg_name (i := 5) sc_law.nd rfl (by first | exact Or.inl rfl | exact Or.inr rfl)) pgs_nil))) (sd_one (sd_if (td_not (td_val (ed_fn (G__law_right c sm) O (by decide) rfl (ad_cons (ed_var 4) (ad_cons (ed_var 5) ad_nil))))) (sd_one (sd_ret ed_bl)) sd_nil))) (sd_cons (sd_for own_cx O.calm (id_rng1 rfl (c.free 24) (ed_bf (cd_max O.calm) rfl (c.free 23) (ad_cons ed_int (ad_cons (ed_bf (cd_minX O.calm) rfl (c.free 60) (ad_cons ed_int (ad_cons (ed_bin od_addX (ed_bf cd_len rfl (c.free 22) (ad_cons (ed_var 0) ad_nil)) ed_int) ad_nil))) ad_nil)))) (pg_name (i := 6) sc_law.nd rfl (by first | exact Or.inl rfl | exact Or.inr rfl)) (sd_cons (sd_set (i := 7) sc_law.nd rfl (by first | exact Or.inl rfl | exact Or.inr rfl) (ed_fn (G__law_source c sm) O (by decide) rfl (ad_cons (ed_var 0) (ad_cons (ed_var 6) ad_nil)))) (sd_cons (sd_set (i := 8) sc_law.nd rfl (by first | exact Or.inl rfl | exact Or.inr rfl) (ed_fn (G__law_logs c sm) O (by decide) rfl (ad_cons (ed_var 7) (ad_cons ed_int (ad_cons ed_int ad_nil))))) (sd_cons (sd_setLc (i := 9) O.calm sc_law.nd rfl rfl rfl (id_rng1 rfl (c.free 24) (ed_bin od_addX ed_int (ed_fn (G__law_pick c sm) O (by decide) rfl (ad_cons (ed_var 7) (ad_cons ed_int ad_nil))))) (own := [("turn", 13)]) (blkOk_by (by kernel_rfl)) rfl (fun s H C cl fp => (pg_name (i := 13) sc_law.nd rfl (by first | exact Or.inl rfl | exact Or.inr rfl))) (fun s H C cl fp => ptd_nil) (fun s H C cl fp => (ed_ix (id_ix (O.blk s H _ (compEnvC _ cl C _) fp).un) (ed_fz (fl_bf (cf_sorted (O.blk s H _ (compEnvC _ cl C _) fp).un (O.blk s H _ (compEnvC _ cl C _) fp).sm (O.blk s H _ (compEnvC _ cl C _) fp).calm) rfl (c.free 56) (ad_cons (ed_var 8) ad_nil))) (ed_fn (G__law_pick c sm) (O.blk s H _ (compEnvC _ cl C _) fp) (by decide) rfl (ad_cons (ed_var 7) (ad_cons (ed_bf cd_len rfl (c.free 22) (ad_cons (ed_var 8) ad_nil)) ad_nil))) (fun _ _ => rfl)))) (sd_cons (sd_set (i := 10) sc_law.nd rfl (by first | exact Or.inl rfl | exact Or.inr rfl) (ed_fz (fl_lst (ad_cons (ed_meth PySem.F.plainAttrs_str PySem.F.slot_str_join PySem.F.type_str_join md_join ed_str (ad_cons (ed_var 9) ad_nil)) (ad_cons (ed_fn (G__law_logs_text c sm) O (by decide) rfl (ad_cons (ed_var 8) ad_nil)) ad_nil))))) (sd_one (sd_for own_cx O.calm (id_rng1 rfl (c.free 24) ed_int) (pg_name (i := 4) sc_law.nd rfl (by first | exact Or.inl rfl | exact Or.inr rfl)) (sd_one (sd_for own_cx O.calm (id_rng1 rfl (c.free 24) ed_int) (pg_name (i := 13) sc_law.nd rfl (by first | exact Or.inl rfl | exact Or.inr rfl)) (sd_cons (sd_set (i := 5) sc_law.nd rfl (by first | exact Or.inl rfl | exact Or.inr rfl) (ed_ix (id_ix O.un) (ed_var 10) (ed_ix (id_ix O.un) (ed_fz (fl_lst (ad_cons (ed_var 4) (ad_cons (ed_bin od_sub ed_int (ed_var 4)) ad_nil)))) (ed_bt cd_int rfl (c.free 61) (ad_cons (ed_cmp (od_eq O.un O.sm) (ed_var 13) ed_int rfl) ad_nil)) (fun _ _ => rfl)) (fun _ _ => rfl))) (sd_cons (sd_for own_cx O.calm (id_rng1 rfl (c.free 24) (ed_bf (cd_minX O.calm) rfl (c.free 60) (ad_cons (ed_var 13) (ad_cons ed_int ad_nil)))) (pg_name (i := 14) sc_law.nd rfl (by first | exact Or.inl rfl | exact Or.inr rfl)) (sd_one (sd_set (i := 5) sc_law.nd rfl (by first | exact Or.inl rfl | exact Or.inr rfl) (ed_fn (G__law_changed c sm) O (by decide) rfl (ad_cons (ed_var 7) (ad_cons (ed_var 5) ad_nil)))))) (sd_cons (sd_set (i := 15) sc_law.nd rfl (by first | exact Or.inl rfl | exact Or.inr rfl) (ed_fn (G__law_odd c sm) O (by decide) rfl (ad_cons (ed_var 7) ad_nil))) (sd_one (sd_if (td_bool (tw_or (td_not (td_val (ed_fn (G__law_right c sm) O (by decide) rfl (ad_cons (ed_var 4) (ad_cons (ed_var 5) ad_nil))))) (tw_or1 (td_not (td_val (ed_fn (G__law_right c sm) O (by decide) rfl (ad_cons (ed_var 4) (ad_cons (ed_var 15) ad_nil)))))))) (sd_one (sd_ret ed_bl)) sd_nil)))))))))))))) (sd_one (sd_ret ed_bl))))))))
theorem G_law (c : Fx fa fn K mg) (sm : SM base) : Gf P w K mg base "law" 7 1 (g_law K) := by
  obtain ⟨fd, F⟩ := c.def_ 21 (d := D_law) rfl
  exact gf_of F (ok_law c sm F) (c.glo 21) rfl (FunD.bindsN F fun _ _ _ _ _ _ us hl => match us, hl with | [_], _ => rfl)
end
end K50
end
end
section
set_option linter.all false
set_option maxRecDepth 100000
set_option maxHeartbeats 1000000
noncomputable section
namespace K50
open PySem PySem.Spec PyProof.Rows L2 Y
open TL (tl joinL len_tl join_eq tl_join)
theorem pick_ok (K : PySem.W.Frag) {R : Wd} {i n : Nat} {size : Int} (h : StOK R i n) (hn : n < 10 ^ 9) (hs : 0 < size) (hz : size < 10 ^ 9) : ∃ r a b c : Int, g__law_pick K [.ref i, .int size] R = .ok (.int r) (R.set i (.lst [.int a, .int b, .int c])) ∧ 0 ≤ r ∧ r < size ∧ 0 ≤ b ∧ b < 10 ^ 60 ∧ 0 ≤ c ∧ c ≤ n + 1 := by
  obtain ⟨a, b, c, e, b0, b1, c0, c1⟩ := h
  have hi : i < R.length := ref_lt e
  have l1 : size.natAbs.log2 < 9000 := log2_of (k := 30) (by omega) (by omega) (by omega)
  have set2 : ∀ o, (R.set i o)[i]? = some o := fun o => List.getElem?_set_self hi
  by_cases ha : 0 < a
  · refine ⟨a % size, a / size, b, c, ?_, Int.emod_nonneg _ (by omega), Int.emod_lt_of_pos _ hs, b0, b1, c0, by omega⟩
    simp [g__law_pick, fnD, d__law_pick, startR, dSeq, dIfS, dTst, dBin, dVar, Y.dK, Rs.bind, Rs.toS, zv_lst e, gIx_cell e, ixL_0, gGt, ha, dSet, gMod_int hs, dPut, gDiv_int hs l1, gSet_cell e (k := 0) (j := 0) rfl, dRet, fin]
  · have sq : ∀ {z : Int}, 0 ≤ z → z < 10 ^ 200 → Builtin.Int.intBits z ≤ 700 := fun h0 h1 => bits_of (k := 700) (by omega) (by omega)
    have m1 : gMulX (R.set i (.lst [.int a, .int b, .int (c + 1)])) (.int 433494437) (.int (c + 1)) = some (.int (433494437 * (c + 1))) := gMul_small (by
      have h1 := log2_of (a := 433494437) (k := 30) (n := 30) (by decide) (by omega) (by omega)
      have h2 := log2_of (a := c + 1) (k := 31) (n := 31) (by omega) (by omega) (by omega)
      omega)
    have m2 : gMulX (R.set i (.lst [.int a, .int b, .int (c + 1)])) (.int 2971215073) (.int (c + 1)) = some (.int (2971215073 * (c + 1))) := gMul_small (by
      have h1 := log2_of (a := 2971215073) (k := 32) (n := 32) (by decide) (by omega) (by omega)
      have h2 := log2_of (a := c + 1) (k := 31) (n := 31) (by omega) (by omega) (by omega)
      omega)
    have p1 : gPow (R.set i (.lst [.int a, .int b, .int (c + 1)])) (.int (b + 433494437 * (c + 1))) (.int 3) = some (.int ((b + 433494437 * (c + 1)) ^ 3)) := gPow_small (by omega) (by
      have := sq (z := b + 433494437 * (c + 1)) (by omega) (by omega)
      omega)
    have t40 : gPow (R.set i (.lst [.int a, .int b, .int (c + 1)])) (.int 10) (.int 40) = some (.int (10 ^ 40)) := gPow_small (by omega) (by decide)
    have t41 : gPow (R.set i (.lst [.int a, .int b, .int (c + 1)])) (.int 10) (.int 41) = some (.int (10 ^ 41)) := gPow_small (by omega) (by decide)
    generalize hx : (b + 433494437 * (c + 1)) ^ 3 % 10000000000000000000000000000000000000121 = x at *
    have x0 : 0 ≤ x := by rw [← hx]; exact Int.emod_nonneg _ (by decide)
    have x1 : x < 10000000000000000000000000000000000000121 := by rw [← hx]; exact Int.emod_lt_of_pos _ (by decide)
    have p2 : gPow (R.set i (.lst [.int a, .int b, .int (c + 1)])) (.int (x + 2971215073 * (c + 1))) (.int 5) = some (.int ((x + 2971215073 * (c + 1)) ^ 5)) := gPow_small (by omega) (by
      have := sq (z := x + 2971215073 * (c + 1)) (by omega) (by omega)
      omega)
    refine ⟨(x + 2971215073 * (c + 1)) ^ 5 % 100000000000000000000000000000000000000037 / 262139 % size, a, b, c + 1, ?_, Int.emod_nonneg _ (by omega), Int.emod_lt_of_pos _ hs, b0, b1, by omega, by omega⟩
    have e2 := set2 (.lst [.int a, .int b, .int (c + 1)])
    have q1 : ∀ R' : Wd, gMod R' (.int ((b + 433494437 * (c + 1)) ^ 3)) (.int 10000000000000000000000000000000000000121) = some (.int x) := fun R' => by rw [gMod_int (by decide), hx]
    have q2 : ∀ R' : Wd, ∀ y : Int, gMod R' (.int y) (.int 100000000000000000000000000000000000000037) = some (.int (y % 100000000000000000000000000000000000000037)) := fun R' y => gMod_int (by decide)
    have q3 : ∀ R' : Wd, ∀ y : Int, gDiv R' (.int y) (.int 262139) = some (.int (y / 262139)) := fun R' y => gDiv_int (by decide) (by decide)
    have q4 : ∀ R' : Wd, ∀ y : Int, gMod R' (.int y) (.int size) = some (.int (y % size)) := fun R' y => gMod_int hs
    simp [g__law_pick, d__law_pick, fnD, startR, dSeq, dIfS, dTst, dBin, dVar, Y.dK, Rs.bind, Rs.toS, dSet, dPut, dRet, dNext, fin, dCons, dNil, dCall, Ro.rs, dSz, dNewL, dFz, dAnd, dOr, dNot, dIfE, dCallF, dUn, dExp, dAug, dAsg, Tg.bind, dPar, dTup, dAndV, dOrV, dNotV, dChain, dIsi, dMeth, dMethG, dCallG, dSlice, dPart, dRng1, dRng2, dFor, forD, dLc, lcD, ofO, zv_lst e, gIx_cell e, ixL_0, ixL_2, gGt, ha, gSet_cell e (k := 2) (j := 2) rfl, zv_lst e2, gIx_cell e2, ixL_1, m1, m2, p1, t40, t41, q1, q2, q3, q4, p2]
theorem pick_st (K : PySem.W.Frag) {R : Wd} {i n : Nat} {size : Int} (h : StOK R i n) (hn : n < 10 ^ 9) (hs : 0 < size) (hz : size < 10 ^ 9) : ∃ (r : Int) (R' : Wd), g__law_pick K [.ref i, .int size] R = .ok (.int r) R' ∧ 0 ≤ r ∧ r < size ∧ StOK R' i (n + 1) ∧ Else i R R' := by
  obtain ⟨r, a, b, c, e, h1, h2, h3, h4, h5, h6⟩ := pick_ok K h hn hs hz
  obtain ⟨_, _, _, e1, _⟩ := h
  exact ⟨r, _, e, h1, h2, ⟨a, b, c, List.getElem?_set_self (ref_lt e1), h3, h4, h5, by push_cast; omega⟩, Else.set R _⟩
theorem pick_w (K : PySem.W.Frag) {R : Wd} {i n : Nat} {size : Int} {P : D → Wd → Prop} {E : Exn → Wd → Prop} (h : StOK R i n) (hn : n < 10 ^ 9) (hs : 0 < size) (hz : size < 10 ^ 9)
    (p : ∀ (r : Nat) R', (r : Int) < size → StOK R' i (n + 1) → Else i R R' → R.length ≤ R'.length → P (.int (r : Int)) R') : wR (g__law_pick K [.ref i, .int size] R) P E := by
  obtain ⟨r, R', e, h0, h1, h2, h3⟩ := pick_st K h hn hs hz
  obtain ⟨k, rfl⟩ := Int.eq_ofNat_of_zero_le h0
  exact wR_ok e (p k R' h1 h2 h3 (len_le h2 h3))
/-- names drawn from a list -/
theorem draws_w (K : PySem.W.Frag) {R : Wd} {i n v w s many : Nat} {ns : List Str} {ρ : Rho} (h : StOK R i n) (hn : n + many < 10 ^ 9) (h0 : ns ≠ []) (h1 : ns.length ≤ 100)
    (hs : ∀ y, (ρ.set v (some y))[s]? = some (some (.ref i))) (hw : ∀ y, (ρ.set v (some y))[w]? = some (some (.lst (ns.map .str)))) {Q : List D → Wd → Prop}
    (q : ∀ (es : List Str) R', es.length = many → (∀ x ∈ es, x ∈ ns) → StOK R' i (n + many) → Else i R R' → R.length ≤ R'.length → Q (es.map .str) R') :
    ∃ ys R2, lcD (.nm v) (fun _ => True) dYes (dBin gIx (dVar w) (dCallF 2 (g__law_pick K) (dCons (dVar s) (dCons (dCall gLen (dCons (dVar w) dNil)) dNil)))) (rngD 0 many) ρ R = some (ys, R2) ∧ Q ys R2 := by
  refine w_lcI (fun k acc R' => ∃ es : List Str, acc = es.map .str ∧ es.length = k ∧ (∀ x ∈ es, x ∈ ns) ∧ StOK R' i (n + k) ∧ Else i R R') ⟨[], rfl, rfl, by simp, h, Else.refl _ _⟩ (fun _ _ _ _ => trivial) ?_ ?_
  · rintro k y acc R1 hk ⟨es, rfl, hl, hm, hst, hel⟩
    have hkm : k < many := Nat.lt_of_lt_of_eq (List.getElem?_eq_some_iff.mp hk).1 (rngD_len 0 many)
    have hnl : 0 < ns.length := List.length_pos_iff.mpr h0
    obtain ⟨_, _, _, est, _⟩ := id hst
    have hz := zv_lst est
    have hlen : gLen R1 [.lst (ns.map .str)] = some (.int (ns.length : Int), R1) := by rw [gLen_lst (lstR_lst _), List.length_map]
    refine ⟨_, rfl, ?_⟩
    refine w_bin (w_var (hw y) (zv_lst0 _) (w_callF (w_cons (w_var (hs y) hz (w_cons (w_call (w_cons (w_var (hw y) (zv_lst0 _) (w_nil ⟨_, _, hlen, w_nil ⟨rfl, ?_⟩⟩)))))))))
    refine pick_w K hst (by omega) (by omega) (by omega) fun r R2 hr hst2 hel2 hle => ?_
    have hr' : r < ns.length := by omega
    refine ⟨.str ns[r], ?_, es ++ [ns[r]], by simp, by simp [hl], ?_, hst2, hel.trans hel2⟩
    · rw [gIx_lst]
      have : ixL (ns.map D.str) (r : Int) = some (.str ns[r]) := by
        unfold ixL
        rw [if_pos (by omega), Int.toNat_natCast, List.getElem?_map, List.getElem?_eq_getElem hr']
        rfl
      rw [this]; rfl
    · intro x hx
      rcases List.mem_append.mp hx with hx | hx
      · exact hm x hx
      · simp at hx; rw [hx]; exact List.getElem_mem _
  · rintro ys R1 ⟨es, rfl, hl, hm, hst, hel⟩
    have q0 : (rngD 0 many).length = many := rngD_len 0 many
    rw [q0] at hl hst
    exact q es R1 hl hm hst hel (len_le hst hel)
theorem names_w (K : PySem.W.Frag) {R : Wd} {i n m : Nat} (h : StOK R i n) (hn : n + m < 10 ^ 9) (hm : m ≤ 40) : wR (g__law_names K [.ref i, .int (m : Int)] R) (fun x R' => ∃ ss : List Str, x = .lst (ss.map .str) ∧ ss.length = m ∧ ss.Nodup ∧ (∀ s ∈ ss, s ∈ pool) ∧ StOK R' i (n + m) ∧ Else i R R') nvr := by
  have hiR : i < R.length := by obtain ⟨a, b, c, e1, _⟩ := h; exact ref_lt e1
  unfold g__law_names
  refine w_fn ?_
  show wS (d__law_names K [some (.ref i), some (.int (m : Int)), none, none, none, none] R) _ _ _ _ _
  unfold d__law_names
  refine w_seq (w_set (w_newLx (w_sz ?_)))
  refine wR_ok (a := base.map D.str) (R := R) (by simp only [dCons, dNil, Y.dK, Rs.bind]; rfl) ⟨by simp only [List.length_map]; rw [sizeLine_eq]; decide, ?_⟩
  intro R1 x1 c1 l1
  refine w_seq (w_set (w_kS fun lt hlt => ?_))
  refine w_seq (w_set (w_newLx ?_))
  refine wR_ok (a := pool.map D.str) (R := R1) ?_ ?_
  · have hd3 : dVar 3 [some (.ref i), some (.int (m : Int)), some (.ref R.length), some (.str lt), none, none] R1 = .ok (.str letters) R1 := by rw [hlt]; rfl
    have hd2 : dVar 2 [some (.ref i), some (.int (m : Int)), some (.ref R.length), some (.str lt), none, none] R1 = .ok (.ref R.length) R1 := by simp [dVar, zv_lst c1]
    have ll : lsD.length = 26 := by simp only [lsD, List.length_map]; decide +kernel
    have lb' : base.length = 13 := rfl
    have e1 : gAddX R1 (.ref R.length) (.lst (lsD.map (adS "n"))) = some (.lst (base.map .str ++ lsD.map (adS "n"))) := by
      have : (base.map D.str).length + (lsD.map (adS "n")).length ≤ sizeLine := by simp only [List.length_map, ll, lb']; rw [sizeLine_eq]; omega
      simp only [gAddX, gAdd, toL, gAddL, lstOf_ref c1, lstOf_lst, if_pos this, Option.map_some]
    have e2 : gAddL R1 (.lst (base.map .str ++ lsD.map (adS "n"))) (.lst (lsD.map (adS "k"))) = some (pool.map .str) := by
      have : (base.map D.str ++ lsD.map (adS "n")).length + (lsD.map (adS "k")).length ≤ sizeLine := by simp only [List.length_append, List.length_map, ll, lb']; rw [sizeLine_eq]; omega
      simp only [gAddL, lstOf_lst, if_pos this, pool_eq]
    have k1 := comp_den K "n" rfl R1 _ hd3 rfl rfl
    have k2 := comp_den K "k" rfl R1 _ hd3 rfl rfl
    exact dBinL_ok (dBin_ok hd2 k1 e1) k2 e2
  intro R2 x2 c2 l2
  show wS (dRet _ [some (.ref i), some (.int (m : Int)), some (.ref R1.length), some (.str lt), none, none] R2) _ _ _ _ _
  refine w_ret (w_fz (w_lc (w_rng1 (w_var rfl rfl ⟨m, rfl, by omega, ?_⟩))))
  refine w_lcI (fun k acc R' => ∃ ss pl : List Str, acc = ss.map .str ∧ ss.length = k ∧ (ss ++ pl).Perm pool ∧ R'[R1.length]? = some (.lst (pl.map .str)) ∧ StOK R' i (n + k) ∧ Else i R R') ⟨[], pool, rfl, rfl, List.Perm.refl _, c2, (h.ext x1).ext x2, Else.ext (x1.trans x2)⟩ (fun _ _ _ _ => trivial) ?_ ?_
  · rintro k y acc R' hk ⟨ss, pl, rfl, hl, hp, hc, hst, hel⟩
    refine ⟨_, rfl, ?_⟩
    have hkm : k < m := Nat.lt_of_lt_of_eq (List.getElem?_eq_some_iff.mp hk).1 (rngD_len 0 m)
    have hpl : pl.length = 65 - k := by
      have := hp.length_eq
      rw [List.length_append, pool_len] at this
      omega
    obtain ⟨r, R3, ep, r0, r1, st3, el3⟩ := pick_st K hst (size := (pl.length : Int)) (by omega) (by omega) (by omega)
    have hij : R1.length ≠ i := by omega
    have hc3 : R3[R1.length]? = some (.lst (pl.map .str)) := el3 _ _ hij hc
    have hlt : r.toNat < pl.length := by omega
    have hd : (pl.map D.str)[r.toNat]? = some (.str pl[r.toNat]) := by rw [List.getElem?_map, List.getElem?_eq_getElem hlt]; rfl
    have hpop := gPop_ok (k := r.toNat) hc3 r0 (by rw [List.length_map]; exact r1) rfl hd (by rw [List.length_map]; omega)
    obtain ⟨a0, b0, cc0, est, _⟩ := hst
    have hlen := gLen_lst (lstR_ref hc)
    rw [List.length_map] at hlen
    refine w_meth (w_var rfl (zv_lst hc) ⟨tyOf_cell hc, w_cons (w_callF (w_cons (w_var rfl (zv_lst est) (w_cons (w_call (w_cons (w_var rfl (zv_lst hc) (w_nil ⟨_, _, hlen, w_nil ⟨rfl, ?_⟩⟩))))))))⟩)
    refine wR_ok ep (w_nil ⟨_, _, hpop, ?_⟩)
    refine ⟨ss ++ [pl[r.toNat]], pl.eraseIdx r.toNat, by simp, by simp [hl], ?_, ?_, ?_, ?_⟩
    · refine List.Perm.trans ?_ hp
      rw [List.append_assoc]
      refine List.Perm.append_left ss ?_
      have e1 : pl = pl.take r.toNat ++ pl[r.toNat] :: pl.drop (r.toNat + 1) := by rw [← List.drop_eq_getElem_cons hlt, List.take_append_drop]
      have e2 : pl.eraseIdx r.toNat = pl.take r.toNat ++ pl.drop (r.toNat + 1) := List.eraseIdx_eq_take_drop_succ _ _
      rw [e2]
      refine List.Perm.trans (List.perm_middle (a := pl[r.toNat]) (l₁ := pl.take r.toNat) (l₂ := pl.drop (r.toNat + 1))).symm ?_
      rw [← e1]
    · rw [List.getElem?_set_self (ref_lt hc3), List.eraseIdx_eq_take_drop_succ, List.eraseIdx_eq_take_drop_succ]; simp
    · obtain ⟨a, b, c, e1, rest⟩ := st3
      exact ⟨a, b, c, by rw [List.getElem?_set_ne hij]; exact e1, by have := rest; push_cast at this ⊢; omega⟩
    · refine fun j o nj ej => ?_
      have h2 := el3 j o nj (hel j o nj ej)
      have hjl : j < R.length := ref_lt ej
      rw [List.getElem?_set_ne (by omega)]
      exact h2
  · rintro ys R3 ⟨ss, pl, q1, q2, q3, q4, q5, q6⟩
    have q0 : (rngD 0 m).length = m := rngD_len 0 m
    have q2 : ss.length = m := q2.trans q0
    have q5 : StOK R3 i (n + m) := by rw [← q0]; exact q5
    subst q1
    exact ⟨ss, rfl, q2, (List.nodup_append.mp (q3.nodup_iff.mpr pool_nodup)).1, fun s hs => q3.mem_iff.mp (List.mem_append_left _ hs), q5, q6⟩
theorem source_w (K : PySem.W.Frag) {R : Wd} {zs : List Int} {k : Nat} (hz : zs.length ≤ 100) (hk : k < 100) {P : D → Wd → Prop} {E : Exn → Wd → Prop} (p : ∀ R', StOK R' R.length 0 → Y.Ext R R' → P (.ref R.length) R') : wR (g__law_source K [.sl (zs.map .int), .int (k : Int)] R) P E := by
  have tail : ∀ (z : Int), wS (dRet (dNewL (dSz (dCons (dCall gMax (dCons (Y.dK (.int 0)) (dCons (dBin gSub (dVar 2) (dBin gPow (Y.dK (.int 10)) (Y.dK (.int 18)))) (dNil)))) (dCons (dBin gAddX (dBin gAddX (dBin gMulX (dBin gMod (dVar 2) (dBin gAddX (dBin gPow (Y.dK (.int 10)) (Y.dK (.int 44))) (Y.dK (.int 9)))) (Y.dK (.int 256))) (dBin gMulX (Y.dK (.int 3)) (dVar 1))) (Y.dK (.int 2))) (dCons (Y.dK (.int 0)) (dNil)))))) [some (.sl (zs.map .int)), some (.int (k : Int)), some (.int z)] R)
      (fun _ R' => P .non R') P nvr nvr (fun c _ R' => Clean R R' ∧ c.pay = none ∧ E c (R'.take R.length)) := fun z => by
    have t18 : gPow R (.int 10) (.int 18) = some (.int (10 ^ 18)) := gPow_small (by omega) (by decide)
    have t44 : gPow R (.int 10) (.int 44) = some (.int (10 ^ 44)) := gPow_small (by omega) (by decide)
    have hb0 : 0 ≤ z % (10 ^ 44 + 9) := Int.emod_nonneg _ (by decide)
    have hb1 : z % (10 ^ 44 + 9) < 10 ^ 44 + 9 := Int.emod_lt_of_pos _ (by decide)
    have gm : gMod R (.int z) (.int (10 ^ 44 + 9)) = some (.int (z % (10 ^ 44 + 9))) := gMod_int (by decide)
    generalize z % (10 ^ 44 + 9) = b at *
    have m1 : gMulX R (.int b) (.int 256) = some (.int (b * 256)) := gMul_small (by
      have h1 := log2_of (a := b) (k := 200) (n := 200) (by omega) (by omega) (by omega)
      have h2 := log2_of (a := 256) (k := 31) (n := 31) (by omega) (by omega) (by omega)
      omega)
    have m2 : gMulX R (.int 3) (.int k) = some (.int (3 * k)) := gMul_small (by
      have h1 := log2_of (a := 3) (k := 31) (n := 31) (by omega) (by omega) (by omega)
      have h2 := log2_of (a := (k : Int)) (k := 31) (n := 31) (by omega) (by omega) (by omega)
      omega)
    refine w_ret (w_newLx (w_sz (w_cons (w_call (w_cons (w_k (w_cons (w_bin (w_var rfl (zv_int _) (w_bin (w_k (w_k ⟨_, t18, _, gSub_int _ _, w_nil ⟨_, _, gMax_int _ _, ?_⟩⟩))))))))))))
    refine w_cons (w_bin (w_bin (w_bin (w_bin (w_var rfl (zv_int _) (w_bin (w_bin (w_k (w_k ⟨_, t44, w_k ⟨_, gAddX_int _ _, _, gm, w_k ⟨_, m1, w_bin (w_k (w_var rfl (zv_int _) ⟨_, m2, _, gAddX_int _ _, w_k ⟨_, gAddX_int _ _, w_cons (w_k (w_nil ⟨by rw [sizeLine_eq]; simp, ?_⟩))⟩⟩))⟩⟩⟩)))))))))
    intro R' x c l
    exact p R' ⟨_, _, _, c, by omega, by omega, by omega, by omega⟩ x
  unfold g__law_source
  refine w_fn ?_
  show wS (d__law_source K [some (.sl (zs.map .int)), some (.int (k : Int)), none] R) _ _ _ _ _
  unfold d__law_source
  have gl : gLen R [.sl (zs.map .int)] = some (.int (zs.length : Int), R) := by rw [gLen_lst (lstR_sl _), List.length_map]
  refine w_seq (w_set (w_k (w_seq (w_ifs (w_tst (w_bin (w_var rfl (zv_int _) (w_call (w_cons (w_var rfl (zv_sl _) (w_nil ⟨_, _, gl, _, rfl, _, rfl, fun h => ?_, fun _ => w_next (tail 0)⟩)))))))))))
  have hk : k < zs.length := by have := of_decide_eq_true h; omega
  have ix : gIx R (.sl (zs.map .int)) (.int (k : Int)) = some (.int zs[k]) := by
    rw [gIx_sl]
    unfold ixL
    rw [if_pos (by omega), Int.toNat_natCast, List.getElem?_map, List.getElem?_eq_getElem hk]
    rfl
  exact w_set (w_bin (w_var rfl (zv_sl _) (w_var rfl (zv_int _) ⟨_, ix, tail _⟩)))
end K50
end
end
section
set_option linter.all false
set_option maxRecDepth 100000
set_option maxHeartbeats 1000000
noncomputable section
namespace K50
open PySem PySem.Spec PyProof.Rows L2 Y
open TL (tl joinL len_tl join_eq tl_join)
def sgn (c : Nat) : D := .str ⟨#[c]⟩
def inD : D → D
  | .str z => match z.cps.toList with
    | [c] => .bl (decide (c ∈ letters.cps.toList))
    | _ => .non
  | d => d
theorem is_name_w (K : PySem.W.Frag) {s : Str} (h8 : s.length ≤ sizeLine) (R : Wd) : wR (g_is_name K [.str s] R) (fun x R' => x = .bl (decide (IsName s)) ∧ R' = R) nvr := by
  unfold g_is_name
  refine w_fn ?_
  show wS (d_is_name K [some (.str s), none] R) _ _ _ _ _
  unfold d_is_name
  have gl : gLen R [.str s] = some (.int (s.length : Int), R) := by simp only [gLen, if_pos h8]
  have tail : 1 ≤ s.length → s.length ≤ 8 → wS (dRet (dCall gAll (dCons (dFz (dLock (dVar 0) (dLc (.nm 1) (dIts (dVar 0)) dYes (dBin gIn (dVar 1) (Y.dK (.str "abcdefghijklmnopqrstuvwxyz")))))) dNil)) [some (.str s), none] R)
      (fun x R' => D.non = D.bl (decide (IsName s)) ∧ R' = R) (fun x R' => x = .bl (decide (IsName s)) ∧ R' = R) nvr nvr (fun c x R' => Clean R R' ∧ c.pay = none ∧ nvr c (R'.take R.length)) := fun a1 a2 => by
    have hi : itsOf R (.str s) = some (s.cps.toList.map sgn, fun _ => True) := by
      unfold itsOf
      exact if_pos h8
    refine w_ret (w_call (w_cons (w_fz (w_lock_str (x := s) rfl (w_lc (w_its (w_var rfl (zv_str s) ⟨_, hi, by rw [List.length_map]; exact h8, ?_⟩)))))))
    refine w_map inD trivial (fun y hy => ?_) ?_
    · obtain ⟨c, hc, rfl⟩ := List.mem_map.mp hy
      have e2 : gIn R (sgn c) (.str "abcdefghijklmnopqrstuvwxyz") = some (inD (sgn c)) := by
        rfl
      exact ⟨_, rfl, w_bin (w_var rfl (zv_str _) (w_k ⟨_, e2, rfl, rfl⟩))⟩
    have e : (s.cps.toList.map sgn).map inD = (s.cps.toList.map fun c => decide (c ∈ letters.cps.toList)).map .bl := by
      rw [List.map_map, List.map_map]
      refine List.map_congr_left fun c _ => ?_
      rfl
    show wR (dNil _ R) _ _
    rw [e]
    refine w_nil ⟨_, _, gAll_bls _, ?_, rfl⟩
    congr 1
    have : IsName s ↔ ∀ c ∈ s.cps.toList, c ∈ letters.cps.toList := ⟨fun h => h.2.2, fun h => ⟨a1, a2, h⟩⟩
    by_cases q : IsName s
    · rw [decide_eq_true q, List.all_map, List.all_eq_true]
      intro c hc; exact decide_eq_true (this.mp q c hc)
    · rw [decide_eq_false q, Bool.eq_false_iff]
      intro h
      rw [List.all_map, List.all_eq_true] at h
      exact q (this.mpr fun c hc => of_decide_eq_true (h c hc))
  refine w_seq (w_ifs (w_or (w_not (w_tst (w_isi (w_var rfl (zv_str s) ⟨_, rfl, _, rfl, fun _ => ?_, fun h => absurd h (by decide)⟩))))))
  refine w_not (w_tst (w_chain (w_k (w_call (w_cons (w_var rfl (zv_str s) (w_nil ⟨_, _, gl, _, rfl, fun h1 => w_k ⟨_, rfl, _, rfl, fun h => ?_, fun h => ?_⟩, fun h1 => ⟨_, rfl, fun _ => ?_, fun h => by cases h⟩⟩)))))))
  · refine w_ret (w_k ⟨?_, rfl⟩)
    rw [decide_eq_false]
    intro q
    have := q.2.1
    simp at h; omega
  · refine w_next (tail ?_ ?_)
    · have := of_decide_eq_true h1; omega
    · simp at h; omega
  · refine w_ret (w_k ⟨?_, rfl⟩)
    rw [decide_eq_false]
    intro q
    have := q.1
    have := of_decide_eq_false h1
    omega
theorem is_name_ok (K : PySem.W.Frag) {s : Str} (h : IsName s) (R : Wd) : g_is_name K [.str s] R = .ok (.bl true) R := by
  obtain ⟨x, R', e, rfl, rfl⟩ := wR_ex (is_name_w K (Nat.le_trans h.2.1 size8) R)
  rw [e, decide_eq_true h]
theorem ascending_ok (K : PySem.W.Frag) {R : Wd} {ss : List Str} (hl : ss.length ≤ sizeLine) : wR (g_are_ascending K [.lst (ss.map .str)] R) (fun x R' => x = .bl (ascB ss) ∧ R' = R) nvr := by
  unfold g_are_ascending
  refine w_fn ?_
  show wS (d_are_ascending K [some (.lst (ss.map .str)), none, none] R) _ _ _ _ _
  unfold d_are_ascending
  have sl : gSl R (.lst (ss.map .str)) (some 1) none = some (.lst ((ss.tail).map .str)) := by
    simp only [gSl, lstR_lst, Option.map_some, cutY_tail, List.map_tail]
  refine w_ret (w_call (w_cons (w_fz (w_lc (w_zip (w_var rfl (zv_lst0 _) (w_slice (w_var rfl (zv_lst0 _) (w_partS (w_k ⟨_, rfl, w_partN ⟨_, sl, _, _, lstR_lst _, lstR_lst _, by rw [List.length_map]; exact hl, ?_⟩⟩))))))))))
  refine w_map ltD ⟨trivial, trivial⟩ (fun y hy => ?_) ?_
  · obtain ⟨p, hp, rfl⟩ := List.mem_map.mp hy
    rw [zip_map2] at hp
    obtain ⟨q, hq, rfl⟩ := List.mem_map.mp hp
    exact ⟨_, rfl, w_bin (w_var rfl (zv_str _) (w_var rfl (zv_str _) ⟨_, rfl, rfl, rfl⟩))⟩
  · have e : (((ss.map D.str).zip (ss.tail.map D.str)).map fun p => D.tup [p.1, p.2]).map ltD = ((ss.zip ss.tail).map fun p => ltS p.1 p.2).map .bl := by
      rw [zip_map2]; simp [ltD, Function.comp_def]
    show wR (dNil _ R) _ _
    rw [e]
    exact w_nil ⟨_, _, gAll_bls _, rfl, rfl⟩
end K50
end
end
section
set_option linter.all false
set_option maxRecDepth 100000
set_option maxHeartbeats 1000000
noncomputable section
namespace K50
open PySem PySem.Spec PyProof.Rows L2 Y
open TL (tl joinL len_tl join_eq tl_join)
/-! lines: the program's reading, the law's own -/
theorem own_name_w (K : PySem.W.Frag) {s : Str} (h8 : s.length ≤ sizeLine) (ho : OkT s) (R : Wd) : wR (g__law_own_name K [.str s] R) (fun x R' => x = .bl (decide (IsName s)) ∧ R' = R) nvr := by
  unfold g__law_own_name
  refine w_fn ?_
  show wS (d__law_own_name K [some (.str s), none] R) _ _ _ _ _
  unfold d__law_own_name
  have gl : gLen R [.str s] = some (.int (s.length : Int), R) := by simp only [gLen, if_pos h8]
  have lt (a b : Int) : gLtX R (.int a) (.int b) = some (.bl (decide (a < b))) := rfl
  have gt (a b : Int) : gGt R (.int a) (.int b) = some (.bl (decide (a > b))) := rfl
  refine w_seq (w_ifs (w_or (w_not (w_tst (w_isi (w_var rfl (zv_str s) ⟨_, rfl, _, rfl, fun _ => ?_, fun h => absurd h (by decide)⟩))))))
  refine w_or (w_tst (w_bin (w_call (w_cons (w_var rfl (zv_str s) (w_nil ⟨_, _, gl, w_k ⟨_, lt _ _, _, rfl, fun h1 => ?_, fun h1 => ⟨fun _ => ?_, fun h => by cases h⟩⟩⟩))))))
  · refine w_tst (w_bin (w_call (w_cons (w_var rfl (zv_str s) (w_nil ⟨_, _, gl, w_k ⟨_, gt _ _, _, rfl, fun h2 => ?_, fun h2 => ?_⟩⟩)))))
    · refine w_ret (w_k ⟨?_, rfl⟩)
      rw [decide_eq_false]
      intro q
      have := q.2.1
      simp at h2; omega
    · refine w_next ?_
      have a1 : 1 ≤ s.length := by simp at h1; omega
      have a2 : s.length ≤ 8 := by simp at h2; omega
      have hi : itsOf R (.str s) = some (s.cps.toList.map sgn, fun _ => True) := by
        unfold itsOf
        exact if_pos h8
      refine w_ret (w_bin (w_fz (w_lock_str (x := s) rfl (w_lc (w_its (w_var rfl (zv_str s) ⟨_, hi, by rw [List.length_map]; exact h8, ?_⟩))))))
      let q : D → Bool := fun d => match inD d with
        | .bl b => !b
        | _ => false
      refine w_filt q id trivial (fun y hy => ?_) ?_
      · obtain ⟨c, hc, rfl⟩ := List.mem_map.mp hy
        have e2 : gNin R (sgn c) (.str "abcdefghijklmnopqrstuvwxyz") = some (.bl (!decide (c ∈ letters.cps.toList))) := rfl
        exact ⟨_, rfl, w_tst (w_bin (w_var rfl (zv_str _) (w_k ⟨_, e2, _, rfl, rfl, rfl⟩))), fun _ => w_var rfl (zv_str _) ⟨rfl, rfl⟩⟩
      have e : ((s.cps.toList.map sgn).filter q).map id = ((s.cps.toList.filter fun c => !decide (c ∈ letters.cps.toList)).map fun c => (⟨#[c]⟩ : Str)).map .str := by
        rw [List.map_id, List.filter_map, List.map_map]
        rfl
      rw [e]
      refine w_fz (w_nil ⟨_, gEq_strs (lstR_lst _) (lstR_lst ([].map D.str)) (fun p hp => ?_) (by simp), ?_, rfl⟩)
      · obtain ⟨c, hc, rfl⟩ := List.mem_map.mp hp
        have hc' : c ∈ tl s := (List.mem_filter.mp hc).1
        exact OkT.ok fun d hd => by
          have : d = c := by simpa [tl] using hd
          rw [this]
          exact ho c hc'
      · congr 1
        rw [decide_eq_decide]
        constructor
        · intro z
          have z2 : s.cps.toList.filter (fun c => !decide (c ∈ letters.cps.toList)) = [] := by simpa using z
          refine ⟨a1, a2, fun c hc => ?_⟩
          have := (List.filter_eq_nil_iff.mp z2) c hc
          simpa using this
        · intro z
          have z2 : s.cps.toList.filter (fun c => !decide (c ∈ letters.cps.toList)) = [] := List.filter_eq_nil_iff.mpr fun c hc => by simpa using z.2.2 c hc
          rw [z2]; rfl
  · refine w_ret (w_k ⟨?_, rfl⟩)
    rw [decide_eq_false]
    intro q
    have := q.1
    simp at h1; omega
def nmD : D → D
  | .str s => .bl (decide (IsName s))
  | d => d
def namesB (least : Int) (ss : List Str) : Bool := decide (least ≤ (ss.length : Int)) && (decide ((ss.length : Int) ≤ 400) && (ss.map fun s => decide (IsName s)).all id)
theorem are_names_w (K : PySem.W.Frag) {R : Wd} {x : D} {ss : List Str} {least : Int} (hz : zv R x = x) (hx : lstR R x = some (ss.map .str)) (hl : ∀ s ∈ ss, s.length ≤ sizeLine) (h3 : ss.length ≤ sizeLine) :
    wR (g_are_names K [x, .int least] R) (fun y R' => y = .bl (namesB least ss) ∧ R' = R) nvr := by
  unfold g_are_names
  refine w_fn ?_
  show wS (d_are_names K [some x, some (.int least), none] R) _ _ _ _ _
  unfold d_are_names
  have hLen := gLen_lst hx
  rw [List.length_map] at hLen
  refine w_ret (w_andV (w_isi (w_var rfl hz ⟨_, tyN_lst hx, _, rfl, fun _ => ?_, fun h => absurd h (by decide)⟩)))
  refine w_andV (w_chain (w_var rfl (zv_int _) (w_call (w_cons (w_var rfl hz (w_nil ⟨_, _, hLen, _, rfl, fun h1 => w_k ⟨_, rfl, _, rfl, fun h2 => ?_, fun h2 => ?_⟩, fun h1 => ⟨_, rfl, fun h => absurd h Bool.false_ne_true, fun _ => ?_⟩⟩))))))
  · have hv0 : dVar 0 [some x, some (.int least), none] R = .ok x R := by simp [dVar, hz]
    refine w_call (w_cons (w_fz (w_lock (x := x) hv0 hx (w_lc (w_itsL (w_var rfl hz ⟨_, hx, by rw [List.length_map]; exact h3, ?_⟩))))))
    refine w_map nmD okAt_self (fun y hy => ?_) ?_
    · obtain ⟨s, hs, rfl⟩ := List.mem_map.mp hy
      exact ⟨_, rfl, w_callF (w_cons (w_var rfl (zv_str s) (w_nil ⟨rfl, is_name_w K (hl s hs) R⟩)))⟩
    · have e : (ss.map D.str).map nmD = (ss.map fun s => decide (IsName s)).map .bl := by rw [List.map_map, List.map_map]; rfl
      rw [e]
      refine w_nil ⟨_, _, gAll_bls _, ?_, rfl⟩
      unfold namesB
      rw [h1, h2]; rfl
  · refine ⟨?_, rfl⟩
    unfold namesB
    rw [h1, h2]; rfl
  · refine ⟨?_, rfl⟩
    unfold namesB
    rw [h1]; rfl
def wordsOf (x : Str) : List Str := Txt.split x " "
theorem word_len {x p : Str} (h : p ∈ wordsOf x) : p.length ≤ x.length := split_plen (y := " ") (by decide) h
theorem words_num (x : Str) : (wordsOf x).length ≤ x.length + 1 := split_num (y := " ") (by decide)
theorem words_ne (x : Str) : wordsOf x ≠ [] := split_ne x " "
abbrev noText (K : PySem.W.Frag) : Exn := ⟨He.ga K "NoText", none⟩
theorem read_line_w (K : PySem.W.Frag) {R : Wd} {x : Str} (hl : x.length ≤ 100000) :
    wR (g_read_line K [.str x] R) (fun y R' => R' = R ∧ namesB 1 (wordsOf x) = true ∧ y = .lst ((wordsOf x).map .str)) (fun c R' => R' = R ∧ c = noText K ∧ namesB 1 (wordsOf x) = false) := by
  have sz : ∀ {k : Nat}, k ≤ 200000 → k ≤ sizeLine := fun h => by rw [sizeLine_eq]; omega
  unfold g_read_line
  refine w_fn ?_
  show wS (d_read_line K [some (.str x), none] R) _ _ _ _ _
  unfold d_read_line
  have sp := gSplit_ok (R := R) (a := x) (b := " ") (by decide +kernel) (by rw [sizeLine_eq]; omega)
  refine w_seq (w_set (w_ife (w_tst (w_isi (w_var rfl (zv_str x) ⟨_, rfl, _, rfl, fun _ => ?_, fun h => absurd h (by decide)⟩)))))
  refine w_fz (w_methG (w_var rfl (zv_str x) ⟨rfl, w_cons (w_k (w_nil ⟨_, sp, ?_⟩))⟩))
  show wS (dSeq _ _ [some (.str x), some (.lst ((wordsOf x).map .str))] R) _ _ _ _ _
  refine w_seq (w_ifs (w_not (w_tst (w_callF (w_cons (w_var rfl (zv_lst0 _) (w_cons (w_k (w_nil ⟨rfl, wR_nv (are_names_w K (zv_lst0 _) (lstR_lst _) (fun s hs => sz (Nat.le_trans (word_len hs) (by omega))) (sz (Nat.le_trans (words_num x) (by omega)))) ?_⟩)))))))))
  rintro _ _ ⟨rfl, rfl⟩
  refine ⟨_, rfl, fun h => ?_, fun h => ?_⟩
  · refine w_raise (w_cons (w_k (w_nil ⟨sz (by simp), Clean.rfl' _, rfl, List.take_length, rfl, by simpa using h⟩)))
  · exact w_next (w_ret (w_var rfl (zv_lst0 _) ⟨rfl, by simpa using h, rfl⟩))
end K50
end
end
section
set_option linter.all false
set_option maxRecDepth 100000
set_option maxHeartbeats 1000000
noncomputable section
namespace K50
open PySem PySem.Spec PyProof.Rows L2 Y
open TL (tl joinL len_tl join_eq tl_join)
/-! the classes of an error: NoText alone -/
theorem w_isE {K : PySem.W.Frag} {Dc a : Addr} {cv : Value} {t : Bool} {e : DE} {ρ : Rho} {R : Wd} {P : D → Wd → Prop} {E : Exn → Wd → Prop} (k : PySem.W.kitOne K (.ref Dc) cv = some t) (h : wR (e ρ R) (fun x R1 => x = .obj a ∧ P (.bl t) R1) E) : wR (dIsE K Dc a cv e ρ R) P E := by
  refine wR_bind (wR_imp h (fun x R1 h => ?_) fun _ _ h => h)
  obtain ⟨rfl, p⟩ := h
  simp only [if_true, k]
  exact .ok p
theorem gAddX_lst {R : Wd} {xs ys : List D} (h : xs.length + ys.length ≤ sizeLine) : gAddX R (.lst xs) (.lst ys) = some (.lst (xs ++ ys)) := by
  simp [gAddX, gAdd, toL, gAddL, lstOf, h]
theorem gAddL_refY {R : Wd} {i : Nat} {xs ys : List D} (e : R[i]? = some (.lst xs)) (h : xs.length + ys.length ≤ sizeLine) : gAddL R (.ref i) (.lst ys) = some (xs ++ ys) := by
  simp [gAddL, lstOf, e, oLst, h]
def kNames : List Str := ["Blocked", "Clash", "NoAskers", "NoCommand", "NoLine", "NoLogs", "NoMessage", "NoName", "NoNet", "NoNode", "NoNumber", "NoOrder", "NoRequest", "NoText", "NoTree", "Taken", "TooMany", "Unsettled"]
def kBools : List Bool := [false, false, false, false, false, false, false, false, false, false, false, false, false, true, false, false, false, false]
def kq : D → Bool
  | .tup [_, .bl b] => b
  | _ => false
def kf : D → D
  | .tup [x, _] => x
  | d => d
def kN9 : List D := (kNames.take 9).map .str
def kN17 : List D := (kNames.take 17).map .str
def kR (R : Wd) : Wd := R ++ [.lst kN9] ++ [.lst (kNames.map .str)] ++ [.lst [.str "NoText"]]
theorem kinds_w (K : PySem.W.Frag) (ce : feB fe K = true) (a : Addr) (R : Wd) : wR (g__law_kinds K (He.ga K "NoText") a [.obj a] R) (fun x R' => x = .ref (R.length + 2) ∧ R' = kR R) nvr := by
  unfold g__law_kinds
  refine w_fn ?_
  show wS (d__law_kinds K (He.ga K "NoText") a [some (.obj a), none, none, none, none, none] R) _ _ _ _ _
  unfold d__law_kinds
  refine w_seq (w_set (w_fz (w_sz (w_cons (w_isE (fe_kit ce 1) (w_var rfl rfl ⟨rfl, w_cons (w_isE (fe_kit ce 2) (w_var rfl rfl ⟨rfl, w_cons (w_isE (fe_kit ce 3) (w_var rfl rfl ⟨rfl, w_nil ⟨by decide, ?_⟩⟩))⟩))⟩))))))
  show wS (dSeq _ _ [some (.obj a), some (.lst [.bl false, .bl false, .bl false]), none, none, none, none] R) _ _ _ _ _
  refine w_seq (w_set (w_bin (w_var rfl (zv_lst0 _) (w_fz (w_sz (w_cons (w_isE (fe_kit ce 4) (w_var rfl rfl ⟨rfl, w_cons (w_isE (fe_kit ce 5) (w_var rfl rfl ⟨rfl, w_cons (w_isE (fe_kit ce 6) (w_var rfl rfl ⟨rfl, w_nil ⟨by decide, _, gAddX_lst (by decide), ?_⟩⟩))⟩))⟩))))))))
  show wS (dSeq _ _ [some (.obj a), some (.lst [.bl false, .bl false, .bl false, .bl false, .bl false, .bl false]), none, none, none, none] R) _ _ _ _ _
  refine w_seq (w_set (w_bin (w_var rfl (zv_lst0 _) (w_fz (w_sz (w_cons (w_isE (fe_kit ce 7) (w_var rfl rfl ⟨rfl, w_cons (w_isE (fe_kit ce 8) (w_var rfl rfl ⟨rfl, w_cons (w_isE (fe_kit ce 9) (w_var rfl rfl ⟨rfl, w_nil ⟨by decide, _, gAddX_lst (by decide), ?_⟩⟩))⟩))⟩))))))))
  show wS (dSeq _ _ [some (.obj a), some (.lst [.bl false, .bl false, .bl false, .bl false, .bl false, .bl false, .bl false, .bl false, .bl false]), none, none, none, none] R) _ _ _ _ _
  refine w_seq (w_set (w_bin (w_var rfl (zv_lst0 _) (w_fz (w_sz (w_cons (w_isE (fe_kit ce 10) (w_var rfl rfl ⟨rfl, w_cons (w_isE (fe_kit ce 11) (w_var rfl rfl ⟨rfl, w_cons (w_isE (fe_kit ce 12) (w_var rfl rfl ⟨rfl, w_nil ⟨by decide, _, gAddX_lst (by decide), ?_⟩⟩))⟩))⟩))))))))
  show wS (dSeq _ _ [some (.obj a), some (.lst [.bl false, .bl false, .bl false, .bl false, .bl false, .bl false, .bl false, .bl false, .bl false, .bl false, .bl false, .bl false]), none, none, none, none] R) _ _ _ _ _
  refine w_seq (w_set (w_bin (w_var rfl (zv_lst0 _) (w_fz (w_sz (w_cons (w_isE (fe_kit ce 13) (w_var rfl rfl ⟨rfl, w_cons (w_isE (fe_kit ce 14) (w_var rfl rfl ⟨rfl, w_cons (w_isE (fe_kit ce 15) (w_var rfl rfl ⟨rfl, w_nil ⟨by decide, _, gAddX_lst (by decide), ?_⟩⟩))⟩))⟩))))))))
  show wS (dSeq _ _ [some (.obj a), some (.lst [.bl false, .bl false, .bl false, .bl false, .bl false, .bl false, .bl false, .bl false, .bl false, .bl false, .bl false, .bl false, .bl false, .bl true, .bl false]), none, none, none, none] R) _ _ _ _ _
  refine w_seq (w_set (w_bin (w_var rfl (zv_lst0 _) (w_fz (w_sz (w_cons (w_isE (fe_kit ce 16) (w_var rfl rfl ⟨rfl, w_cons (w_isE (fe_kit ce 17) (w_var rfl rfl ⟨rfl, w_cons (w_isE (fe_kit ce 18) (w_var rfl rfl ⟨rfl, w_nil ⟨by decide, _, gAddX_lst (by decide), ?_⟩⟩))⟩))⟩))))))))
  show wS (dSeq _ _ [some (.obj a), some (.lst (kBools.map .bl)), none, none, none, none] R) _ _ _ _ _
  refine w_seq (w_set (w_newL (w_sz (w_cons (w_k (w_cons (w_k (w_cons (w_k (w_cons (w_k (w_cons (w_k (w_cons (w_k (w_cons (w_k (w_cons (w_k (w_cons (w_k (w_nil ⟨by decide, ?_⟩))))))))))))))))))))))
  have a1 := app_self R (.lst kN9)
  show wS (dSeq _ _ [some (.obj a), some (.lst (kBools.map .bl)), some (.ref R.length), none, none, none] (R ++ [.lst kN9])) _ _ _ _ _
  refine w_seq (w_set (w_newL (w_binL (w_var rfl (zv_lst a1) (w_fz (w_sz (w_cons (w_k (w_cons (w_k (w_cons (w_k (w_cons (w_k (w_cons (w_k (w_cons (w_k (w_cons (w_k (w_cons (w_k (w_nil ⟨by decide, _, gAddL_refY a1 (by decide), ?_⟩)))))))))))))))))))))))
  generalize hR1 : R ++ [.lst kN9] = R1
  have a2 := app_self R1 (.lst kN17)
  show wS (dSeq _ _ [some (.obj a), some (.lst (kBools.map .bl)), some (.ref R1.length), none, none, none] (R1 ++ [.lst kN17])) _ _ _ _ _
  have ap : gAppend (R1 ++ [.lst kN17]) (.ref R1.length) [.str "Unsettled"] = some (.non, R1 ++ [.lst (kNames.map .str)]) := by
    simp only [gAppend, cellL_ref a2, Option.bind_some]
    rw [if_pos (show kN17.length < sizeLine by decide), app_set]
    rfl
  refine w_seq (w_exp (w_meth (w_var rfl (zv_lst a2) ⟨tyOf_cell a2, w_cons (w_k (w_nil ⟨_, _, ap, ?_⟩))⟩)))
  have a3 := app_self R1 (.lst (kNames.map .str))
  refine w_seq (w_set (w_newL (w_lc (w_zip (w_var rfl (zv_lst a3) (w_var rfl (zv_lst0 _) ⟨_, _, lstR_ref a3, lstR_lst _, by decide, ?_⟩))))))
  refine w_filt kq kf ⟨okAt_self, trivial⟩ (fun y hy => ?_) ?_
  · obtain ⟨p, hp, rfl⟩ := List.mem_map.mp hy
    obtain ⟨x, y⟩ := p
    obtain ⟨m1, m2⟩ := List.of_mem_zip hp
    obtain ⟨n, _, rfl⟩ := List.mem_map.mp m1
    obtain ⟨b, _, rfl⟩ := List.mem_map.mp m2
    exact ⟨_, rfl, w_tst (w_var rfl rfl ⟨_, rfl, rfl, rfl⟩), fun _ => w_var rfl (zv_str n) ⟨rfl, rfl⟩⟩
  show wS (dSeq _ _ [some (.obj a), some (.lst (kBools.map .bl)), some (.ref R1.length), some (.ref (R1 ++ [O.lst (kNames.map .str)]).length), none, none] (R1 ++ [.lst (kNames.map .str)] ++ [.lst [.str "NoText"]])) _ _ _ _ _
  have a4 := app_self (R1 ++ [.lst (kNames.map .str)]) (.lst [.str "NoText"])
  refine w_seq (w_ifs (w_or (w_not (w_tst (w_isE (fe_kit ce 19 (b := true)) (w_var rfl rfl ⟨rfl, _, rfl, fun _ => w_not (w_tst (w_isE (fe_kitT ce 20 (b := true)) (w_var rfl rfl ⟨rfl, _, rfl, fun h => absurd h (by decide), fun _ => w_next ?_⟩))), fun h => absurd h (by decide)⟩))))))
  refine w_ret (w_var rfl (zv_lst a4) ⟨?_, ?_⟩)
  · subst hR1
    simp
  · subst hR1
    rfl
end K50
end
end
section
set_option linter.all false
set_option maxRecDepth 100000
set_option maxHeartbeats 1000000
noncomputable section
namespace K50
open PySem PySem.Spec PyProof.Rows L2 Y
open TL (tl joinL len_tl join_eq tl_join)
/-! told: the result, or NoText alone -/
theorem w_try {K : PySem.W.Frag} {C : Addr} {i : Nat} {db : DS} {dh : Addr → Addr → DS} {ρ : Rho} {R : Wd} {N B C' : Rho → Wd → Prop} {T : D → Wd → Prop} {F : Exn → Rho → Wd → Prop}
    (h : wS (db ρ R) N T B C' (fun c ρ1 R1 => PySem.W.exmOne K (.ref c.cls) (.ref C) = some true ∧ c.pay = none ∧ L2.ExcC K c.cls ∧ ∃ r, (∀ a, clr i (dh c.cls a (ρ1.set i (some (.obj a))) R1) = r) ∧ wS r N T B C' F)) : wS (dTry K C i db dh ρ R) N T B C' F := by
  unfold dTry
  generalize db ρ R = q at h
  cases h with
  | nx h => exact .nx h
  | rt h => exact .rt h
  | bk h => exact .bk h
  | ct h => exact .ct h
  | exc h =>
    obtain ⟨h1, h2, h3, r, h4, h5⟩ := h
    simp only [h1]
    rw [if_pos ⟨h2, h3, fun a => (h4 a).trans (h4 0).symm⟩, h4 0]
    exact h5
theorem told_w (K : PySem.W.Frag) (cc : He.SaysD fa fn K) (ce : feB fe K = true) {R : Wd} {v : D} {w : Nat} (hz : zv R v = v) {P : D → Wd → Prop} {NP : Prop} (h0 : w = 0 → wR (g_read_line K [v] R) P (fun c R' => R' = R ∧ c = noText K ∧ NP)) (h1 : w ≠ 0 → wR (g_read_logs K [v] R) P (fun c R' => R' = R ∧ c = noText K ∧ NP)) :
    wR (g__law_told K [.int (w : Int), v] R) (fun x R' => P x R' ∨ (x = .ref (R.length + 2) ∧ R' = kR R ∧ NP)) nvr := by
  have hk : ∀ (a : Addr) (ρ : Rho), ρ.length = 3 → dRet (dCallF 1 (g__law_kinds K (He.ga K "NoText") a) (dCons (dVar 2) dNil)) (ρ.set 2 (some (.obj a))) R = .rt (.ref (R.length + 2)) (kR R) := fun a ρ hρ => by
    have e1 : (ρ.set 2 (some (D.obj a)))[2]? = some (some (.obj a)) := List.getElem?_set_self (by omega)
    obtain ⟨x, R', e, rfl, rfl⟩ := wR_ex (kinds_w K ce a R)
    simp [dRet, dCallF, dCons, dNil, dVar, Rs.bind, Rs.toS, e1, zv, e]
  unfold g__law_told
  refine w_fn ?_
  show wS (d__law_told K [some (.int (w : Int)), some v, none] R) _ _ _ _ _
  unfold d__law_told
  have eq : gEq R (.int (w : Int)) (.int 0) = some (.bl (decide ((w : Int) = 0))) := rfl
  refine w_try (w_ret (w_ife (w_tst (w_bin (w_var rfl (zv_int _) (w_k ⟨_, eq, _, rfl, fun h => ?_, fun h => ?_⟩))))))
  · have hw : w = 0 := by simpa using h
    refine w_callF (w_cons (w_var rfl hz (w_nil ⟨rfl, wR_imp (h0 hw) (fun x R' p => .inl p) ?_⟩)))
    rintro c R' ⟨rfl, rfl, np⟩
    exact ⟨He.exm_ok (cc.fact 62), rfl, fe_exc ce 0, _, fun a => congrArg (clr 2) (hk a _ rfl), .rt (.inr ⟨rfl, rfl, np⟩)⟩
  · have hw : w ≠ 0 := by simpa using h
    refine w_callF (w_cons (w_var rfl hz (w_nil ⟨rfl, wR_imp (h1 hw) (fun x R' p => .inl p) ?_⟩)))
    rintro c R' ⟨rfl, rfl, np⟩
    exact ⟨He.exm_ok (cc.fact 62), rfl, fe_exc ce 0, _, fun a => congrArg (clr 2) (hk a _ rfl), .rt (.inr ⟨rfl, rfl, np⟩)⟩
/-! lines by the law -/
theorem namesB_filt {ss : List Str} (h0 : ss ≠ []) : namesB 1 ss = (decide (ss.filter (fun s => !decide (IsName s)) = []) && !decide (((ss.length : Nat) : Int) > 400)) := by
  have h1 : 1 ≤ ss.length := List.length_pos_iff.mpr h0
  unfold namesB
  rw [decide_eq_true (by omega : (1 : Int) ≤ (ss.length : Int)), Bool.true_and, Bool.and_comm]
  congr 1
  · rw [List.all_map]
    by_cases h : ss.filter (fun s => !decide (IsName s)) = []
    · rw [decide_eq_true h, List.all_eq_true]
      intro s hs
      have := (List.filter_eq_nil_iff.mp h) s hs
      simpa using this
    · rw [decide_eq_false h, Bool.eq_false_iff]
      intro e
      apply h
      refine List.filter_eq_nil_iff.mpr fun s hs => ?_
      have := (List.all_eq_true.mp e) s hs
      simpa using this
  · by_cases h : ((ss.length : Nat) : Int) ≤ 400
    · rw [decide_eq_true h, decide_eq_false (by omega)]; rfl
    · rw [decide_eq_false h, decide_eq_true (by omega)]; rfl
def lineD (x : Str) : D := if namesB 1 (wordsOf x) = true then .lst ((wordsOf x).map .str) else .non
theorem line_of_w (K : PySem.W.Frag) {R : Wd} {x : Str} (hl : x.length ≤ 100000) (ho : OkT x) : wR (g__law_line_of K [.str x] R) (fun y R' => y = lineD x ∧ R' = R) nvr := by
  have sz : ∀ {k : Nat}, k ≤ 200000 → k ≤ sizeLine := fun h => by rw [sizeLine_eq]; omega
  unfold g__law_line_of
  refine w_fn ?_
  show wS (d__law_line_of K [some (.str x), none, none, none] R) _ _ _ _ _
  unfold d__law_line_of
  have sp := gSplit_ok (R := R) (a := x) (b := " ") (by decide +kernel) (by rw [sizeLine_eq]; omega)
  refine w_seq (w_set (w_fz (w_methG (w_var rfl (zv_str x) ⟨rfl, w_cons (w_k (w_nil ⟨_, sp, ?_⟩))⟩))))
  show wS (dSeq _ _ [some (.str x), some (.lst ((wordsOf x).map .str)), none, none] R) _ _ _ _ _
  have hl1 := words_num x
  have gt (a b : Int) : gGt R (.int a) (.int b) = some (.bl (decide (a > b))) := rfl
  refine w_seq (w_lockS (x := .lst ((wordsOf x).map .str)) rfl (lstR_lst _) (w_set (w_fz (w_lc (w_itsL (w_var rfl (zv_lst0 _) ⟨_, lstR_lst _, by rw [List.length_map]; exact sz (by omega), ?_⟩))))))
  let q : D → Bool := fun d => match nmD d with
    | .bl b => !b
    | _ => false
  refine w_filt q id (show okAt R (.lst ((wordsOf x).map .str)) R from trivial) (fun y hy => ?_) ?_
  · obtain ⟨s, hs, rfl⟩ := List.mem_map.mp hy
    refine ⟨_, rfl, w_not (w_tst (w_callF (w_cons (w_var rfl (zv_str s) (w_nil ⟨rfl, wR_nv (own_name_w K (sz (Nat.le_trans (word_len hs) (by omega))) (split_okT ho hs) R) ?_⟩))))), fun _ => w_var rfl (zv_str s) ⟨rfl, rfl⟩⟩
    rintro _ _ ⟨rfl, rfl⟩
    exact ⟨_, rfl, rfl, rfl⟩
  have e : (((wordsOf x).map D.str).filter q).map id = ((wordsOf x).filter fun s => !decide (IsName s)).map .str := by
    rw [List.map_id, List.filter_map]
    rfl
  rw [e]
  show wS (dRet _ [some (.str x), some (.lst ((wordsOf x).map .str)), some (.lst (((wordsOf x).filter fun s => !decide (IsName s)).map .str)), none] R) _ _ _ _ _
  have ok : ∀ s ∈ (wordsOf x).filter fun s => !decide (IsName s), PyData.strOk s = true := fun s hs => (split_okT ho (List.mem_filter.mp hs).1).ok
  have hLen := gLen_lst (R := R) (lstR_lst ((wordsOf x).map D.str))
  rw [List.length_map] at hLen
  have nb := namesB_filt (words_ne x)
  refine w_ret (w_ife (w_or (w_tst (w_bin (w_var rfl (zv_lst0 _) (w_fz (w_nil ⟨_, gNe_strs (lstR_lst _) (lstR_lst ([].map D.str)) ok (by simp), _, rfl, fun h1 => ?_, fun h1 => ⟨fun _ => ?_, fun h => absurd h (by decide)⟩⟩)))))))
  · refine w_tst (w_bin (w_call (w_cons (w_var rfl (zv_lst0 _) (w_nil ⟨_, _, hLen, w_k ⟨_, gt _ _, _, rfl, fun h2 => ?_, fun h2 => ?_⟩⟩)))))
    · refine w_k ⟨?_, rfl⟩
      rw [lineD, if_neg]
      rw [nb, h2]; simp
    · refine w_var rfl (zv_lst0 _) ⟨?_, rfl⟩
      rw [lineD, if_pos]
      rw [nb, h2]
      simpa using h1
  · refine w_k ⟨?_, rfl⟩
    rw [lineD, if_neg]
    rw [nb]
    intro z
    simp at h1 z
    obtain ⟨y, hy, hn⟩ := h1
    exact hn (z.1 y hy)
theorem show_line_w (K : PySem.W.Frag) {R : Wd} {x : Str} (hl : x.length ≤ 100000) (hb : namesB 1 (wordsOf x) = true) : wR (g_show_line K [.lst ((wordsOf x).map .str)] R) (fun y R' => y = .str x ∧ R' = R) nvr := by
  have sz : ∀ {k : Nat}, k ≤ 200000 → k ≤ sizeLine := fun h => by rw [sizeLine_eq]; omega
  unfold g_show_line
  refine w_fn ?_
  show wS (d_show_line K [some (.lst ((wordsOf x).map .str))] R) _ _ _ _ _
  unfold d_show_line
  refine w_seq (w_ifs (w_not (w_tst (w_callF (w_cons (w_var rfl (zv_lst0 _) (w_cons (w_k (w_nil ⟨rfl, wR_nv (are_names_w K (zv_lst0 _) (lstR_lst _) (fun s hs => sz (Nat.le_trans (word_len hs) (by omega))) (sz (Nat.le_trans (words_num x) (by omega)))) ?_⟩)))))))))
  rintro _ R1 ⟨rfl, rfl⟩
  refine ⟨_, rfl, fun h => ?_, fun h => ?_⟩
  · rw [hb] at h; exact absurd h (by decide)
  · have wt := split_wt x " " (by decide)
    have j := gJoin_ok (R := R1) (a := " ") (x := .lst ((wordsOf x).map .str)) (ss := wordsOf x) (seqOf_lst (lstR_lst _)) (by
      rw [show (" " : Str).length = 1 from rfl]
      show ((Txt.split x " ").map (·.length)).sum + (Txt.split x " ").length * 1 ≤ _
      omega)
    rw [show Txt.join " " (wordsOf x) = x from split_join' x " "] at j
    exact w_next (w_ret (w_meth (w_k ⟨rfl, w_cons (w_var rfl (zv_lst0 _) (w_nil ⟨_, _, j, rfl, rfl⟩))⟩)))
end K50
end
end
section
set_option linter.all false
set_option maxRecDepth 100000
set_option maxHeartbeats 1000000
noncomputable section
namespace K50
open PySem PySem.Spec PyProof.Rows L2 Y
open TL (tl joinL len_tl join_eq tl_join)
/-! logs: the program's reading -/
abbrev LP : Type := List (Str × List Str)
def dkP (P : LP) : List (Key × D) := P.map fun p => ((Sum.inr p.1 : Key), .lst (p.2.map .str))
def listsB (P : LP) : Bool := decide ((1 : Int) ≤ (P.length : Int)) && (decide ((P.length : Int) ≤ 40) && ((P.map fun p => decide (IsName p.1)).all id && (P.map fun p => namesB 0 p.2).all id))
structure Fits (P : LP) : Prop where
  num : P.length ≤ 200000
  key : ∀ p ∈ P, p.1.length ≤ 200000
  many : ∀ p ∈ P, p.2.length ≤ 200000
  each : ∀ p ∈ P, ∀ s ∈ p.2, s.length ≤ 200000
def nbD0 : D → D
  | .lst xs => match strsOf xs with
    | some ss => .bl (namesB 0 ss)
    | none => .non
  | d => d
theorem strsOf_map (ss : List Str) : strsOf (ss.map D.str) = some ss := by
  induction ss with
  | nil => rfl
  | cons s ss ih => simp [strsOf, ih]
theorem sz2 {k : Nat} (h : k ≤ 200000) : k ≤ sizeLine := by rw [sizeLine_eq]; omega
theorem are_lists_w (K : PySem.W.Frag) {R : Wd} {P : LP} (f : Fits P) : wR (g_are_lists_of_names K [.dic (dkP P)] R) (fun y R' => y = .bl (listsB P) ∧ R' = R) nvr := by
  unfold g_are_lists_of_names
  refine w_fn ?_
  show wS (d_are_lists_of_names K [some (.dic (dkP P)), none, none] R) _ _ _ _ _
  unfold d_are_lists_of_names
  have kl : (dkP P).length = P.length := by simp [dkP]
  have gl : gLen R [.dic (dkP P)] = some (.int (P.length : Int), R) := by rw [← kl]; rfl
  refine w_seq (w_ifs (w_or (w_not (w_tst (w_isi (w_var rfl (zv_dic _) ⟨_, rfl, _, rfl, fun _ => ?_, fun h => absurd h (by decide)⟩))))))
  refine w_or (w_not (w_tst (w_chain (w_k (w_call (w_cons (w_var rfl (zv_dic _) (w_nil ⟨_, _, gl, _, rfl, fun h1 => w_k ⟨_, rfl, _, rfl, fun h2 => ?_, fun h2 => ?_⟩, fun h1 => ⟨_, rfl, fun h => absurd h (by decide), fun _ => ?_⟩⟩))))))))
  · refine w_not (w_tst (w_call (w_cons (w_fz (w_lock_dic (x := dkP P) rfl (w_lc (w_its (w_var rfl (zv_dic _) ⟨_, rfl, by rw [List.length_map, kl]; exact sz2 f.num, ?_⟩))))))))
    refine w_map nmD (show okAt R (.dic (dkP P)) R from trivial) (fun y hy => ?_) ?_
    · obtain ⟨p, hp, rfl⟩ := List.mem_map.mp hy
      obtain ⟨n, hn, rfl⟩ := List.mem_map.mp hp
      exact ⟨_, rfl, w_callF (w_cons (w_var rfl (zv_str _) (w_nil ⟨rfl, is_name_w K (sz2 (f.key n hn)) R⟩)))⟩
    have e : ((dkP P).map (fun p => dKy p.1)).map nmD = (P.map fun p => decide (IsName p.1)).map .bl := by rw [dkP, List.map_map, List.map_map, List.map_map]; rfl
    rw [e]
    refine w_nil ⟨_, _, gAll_bls _, _, rfl, fun h3 => ?_, fun h3 => w_next ?_⟩
    · refine w_ret (w_k ⟨?_, rfl⟩)
      have h3' : (P.map fun p => decide (IsName p.1)).all id = false := by simpa using h3
      unfold listsB
      rw [h1, show decide ((P.length : Int) ≤ 40) = true by simpa using h2, h3']; rfl
    · have h3' : (P.map fun p => decide (IsName p.1)).all id = true := by simpa using h3
      refine w_ret (w_call (w_cons (w_fz (w_lock_dic (x := dkP P) rfl (w_lc (w_vals (w_var rfl (zv_dic _) ⟨_, rfl, by rw [kl]; exact sz2 f.num, ?_⟩)))))))
      refine w_map nbD0 (show okAt R (.dic (dkP P)) R from trivial) (fun y hy => ?_) ?_
      · obtain ⟨p, hp, rfl⟩ := List.mem_map.mp hy
        obtain ⟨n, hn, rfl⟩ := List.mem_map.mp hp
        refine ⟨_, rfl, w_callF (w_cons (w_var rfl (zv_lst0 _) (w_cons (w_k (w_nil ⟨rfl, wR_nv (are_names_w K (zv_lst0 _) (lstR_lst _) (fun s hs => sz2 (f.each n hn s hs)) (sz2 (f.many n hn))) ?_⟩)))))⟩
        rintro _ _ ⟨rfl, rfl⟩
        refine ⟨?_, rfl⟩
        show _ = (match strsOf (n.2.map D.str) with
          | some ss => D.bl (namesB 0 ss)
          | none => .non)
        rw [strsOf_map]
      have e : ((dkP P).map (fun p => p.2)).map nbD0 = (P.map fun p => namesB 0 p.2).map .bl := by
        rw [dkP, List.map_map, List.map_map, List.map_map]
        refine List.map_congr_left fun p _ => ?_
        show (match strsOf (p.2.map D.str) with
          | some ss => D.bl (namesB 0 ss)
          | none => .non) = _
        rw [strsOf_map]
        rfl
      rw [e]
      refine w_nil ⟨_, _, gAll_bls _, ?_, rfl⟩
      unfold listsB
      rw [h1, show decide ((P.length : Int) ≤ 40) = true by simpa using h2, h3']; rfl
  · refine ⟨fun _ => w_ret (w_k ⟨?_, rfl⟩), fun h => absurd h (by decide)⟩
    unfold listsB
    rw [h1, show decide ((P.length : Int) ≤ 40) = false by simpa using h2]; rfl
  · refine ⟨fun _ => w_ret (w_k ⟨?_, rfl⟩), fun h => absurd h (by decide)⟩
    unfold listsB
    rw [h1]; rfl
/-! rows -/
def rowsOf (x : Str) : List Str := Txt.split x "\n"
def fstW (p : Str) : Str := (wordsOf p).headD ""
def entsW (p : Str) : List Str := (wordsOf p).tail
theorem words_eq (p : Str) : wordsOf p = fstW p :: entsW p := by
  unfold fstW entsW
  cases e : wordsOf p with
  | nil => exact absurd e (words_ne p)
  | cons a l => rfl
theorem fst_len (p : Str) : (fstW p).length ≤ p.length := word_len (x := p) (by rw [words_eq]; exact List.mem_cons_self)
theorem ents_len {p s : Str} (h : s ∈ entsW p) : s.length ≤ p.length := word_len (x := p) (by rw [words_eq]; exact List.mem_cons_of_mem _ h)
theorem ents_num (p : Str) : (entsW p).length ≤ p.length := by have := words_num p; rw [words_eq] at this; simp at this; exact this
theorem row_len {x p : Str} (h : p ∈ rowsOf x) : p.length ≤ x.length := split_plen (y := "\n") (by decide) h
theorem rows_numL (x : Str) : (rowsOf x).length ≤ x.length + 1 := split_num (y := "\n") (by decide)
theorem rows_ne (x : Str) : rowsOf x ≠ [] := split_ne x "\n"
def okc (p : Str) : Bool := decide (lastS (fstW p) = ":")
def nmR (p : Str) : Str := initS (fstW p)
def PR (ps : List Str) : LP := ps.map fun p => (nmR p, entsW p)
def wdD (p : Str) : D := .lst ((wordsOf p).map .str)
theorem PR_fits {x : Str} (hl : x.length ≤ 100000) : Fits (PR (rowsOf x)) := by
  have h := rows_numL x
  refine ⟨by simp [PR]; omega, fun p hp => ?_, fun p hp => ?_, fun p hp s hs => ?_⟩
  · obtain ⟨r, hr, rfl⟩ := List.mem_map.mp hp
    have := row_len hr
    have := fst_len r
    have := cutS_len (fstW r) none (some (-1))
    show (cutS (fstW r) none (some (-1))).length ≤ _
    omega
  · obtain ⟨r, hr, rfl⟩ := List.mem_map.mp hp
    have := row_len hr
    have := ents_num r
    show (entsW r).length ≤ _
    omega
  · obtain ⟨r, hr, rfl⟩ := List.mem_map.mp hp
    have := row_len hr
    have := ents_len (p := r) hs
    omega
def rowSplit : D → D
  | .str p => wdD p
  | d => d
def rq : D → Bool
  | .lst (.str w :: _) => Txt.endswith w ":"
  | _ => false
def rf : D → D
  | .lst (.str w :: _) => .str (initS w)
  | d => d
theorem wdD_eq (p : Str) : wdD p = .lst (.str (fstW p) :: (entsW p).map .str) := by rw [wdD, words_eq]; rfl
theorem gIx0 {R : Wd} (p : Str) : gIx R (wdD p) (.int 0) = some (.str (fstW p)) := by rw [wdD_eq]; rfl
theorem zip_fmap {α β γ : Type} (f : α → β) (g : α → γ) (l : List α) : (l.map f).zip (l.map g) = l.map fun x => (f x, g x) := by
  induction l with
  | nil => rfl
  | cons x l ih => simp [ih]
def logsB (x : Str) : Bool := (rowsOf x).all okc && (ascB ((rowsOf x).map nmR) && listsB (PR (rowsOf x)))
theorem pA_fresh {P : LP} {n : Str} {d : D} (h : n ∉ P.map (·.1)) : pA (Sum.inr n : Key) d (dkP P) = dkP P ++ [((Sum.inr n : Key), d)] := by
  unfold dkP
  induction P with
  | nil => rfl
  | cons p P ih =>
    have h1 : p.1 ≠ n := fun e => h (by simp [e])
    have h2 : n ∉ P.map (·.1) := fun e => h (List.mem_cons_of_mem _ e)
    have h3 : ¬ ((Sum.inr p.1 : Key) = Sum.inr n) := fun e => h1 (Sum.inr.inj e)
    simp only [List.map_cons, pA, if_neg h3, ih h2, List.cons_append]
theorem asc_nodup {ss : List Str} (h : ascB ss = true) : ss.Pairwise ltL := ascB_iff.mp h
end K50
end
end
section
set_option linter.all false
set_option maxRecDepth 100000
set_option maxHeartbeats 1000000
noncomputable section
namespace K50
open PySem PySem.Spec PyProof.Rows L2 Y
open TL (tl joinL len_tl join_eq tl_join)
theorem lt_ne {a b : Str} (h : ltL a b) : a ≠ b := fun e => by
  subst e
  exact absurd h (List.lt_irrefl _)
theorem asc_nd {ss : List Str} (h : ss.Pairwise ltL) : ss.Nodup := h.imp fun q => lt_ne q
theorem take_fresh {ss : List Str} {k : Nat} {a : Str} (nd : ss.Nodup) (e : ss[k]? = some a) : a ∉ ss.take k := fun h => by
  obtain ⟨j, hj⟩ := List.mem_iff_getElem?.mp h
  have hjk : j < k := by
    rw [List.getElem?_take] at hj
    by_cases c : j < k
    · exact c
    · rw [if_neg c] at hj; cases hj
  rw [List.getElem?_take_of_lt hjk] at hj
  obtain ⟨h1, e1⟩ := List.getElem?_eq_some_iff.mp hj
  obtain ⟨h2, e2⟩ := List.getElem?_eq_some_iff.mp e
  exact (List.pairwise_iff_getElem.mp nd j k h1 h2 hjk) (e1.trans e2.symm)
theorem PR_take {ps : List Str} {k : Nat} {p : Str} (e : ps[k]? = some p) : PR (ps.take (k + 1)) = PR (ps.take k) ++ [(nmR p, entsW p)] := by
  unfold PR
  rw [List.take_add_one, e]
  simp
theorem dkP_app (P Q : LP) : dkP (P ++ Q) = dkP P ++ dkP Q := by simp [dkP]
theorem dkP_step {ps : List Str} {k : Nat} {p : Str} (nd : (ps.map nmR).Nodup) (e : ps[k]? = some p) : pA (Sum.inr (nmR p) : Key) (.lst ((entsW p).map .str)) (dkP (PR (ps.take k))) = dkP (PR (ps.take (k + 1))) := by
  rw [PR_take e, dkP_app, pA_fresh]
  · rfl
  · have : (PR (ps.take k)).map (·.1) = (ps.map nmR).take k := by
      unfold PR
      rw [List.map_map, List.map_take]; rfl
    rw [this]
    exact take_fresh nd (by rw [List.getElem?_map, e]; rfl)
theorem read_logs_w (K : PySem.W.Frag) {R : Wd} {x : Str} (hl : x.length ≤ 100000) :
    wR (g_read_logs K [.str x] R) (fun y R' => R' = R ∧ logsB x = true ∧ y = .dic (dkP (PR (rowsOf x)))) (fun c R' => R' = R ∧ c = noText K ∧ logsB x = false) := by
  unfold g_read_logs
  refine w_fn ?_
  show wS (d_read_logs K [some (.str x), none, none, none, none, none, none] R) _ _ _ _ _
  unfold d_read_logs
  have sp := gSplit_ok (R := R) (a := x) (b := "\n") (by decide +kernel) (by rw [sizeLine_eq]; omega)
  have nr := rows_numL x
  refine w_seq (w_ifs (w_not (w_tst (w_isi (w_var rfl (zv_str x) ⟨_, rfl, _, rfl, fun h => absurd h (by decide), fun _ => w_next ?_⟩)))))
  refine w_seq (w_set (w_fz (w_lc (w_its (w_fz (w_methG (w_var rfl (zv_str x) ⟨rfl, w_cons (w_k (w_nil ⟨_, sp, _, itsOf_lst (lstR_lst _), by rw [List.length_map]; exact sz2 (show (rowsOf x).length ≤ _ by omega), ?_⟩))⟩)))))))
  refine w_map rowSplit (show okAt R (.lst ((rowsOf x).map .str)) R from trivial) (fun y hy => ?_) ?_
  · obtain ⟨p, hp, rfl⟩ := List.mem_map.mp hy
    have hp : p ∈ rowsOf x := hp
    have := row_len hp
    exact ⟨_, rfl, w_fz (w_methG (w_var rfl (zv_str p) ⟨rfl, w_cons (w_k (w_nil ⟨_, gSplit_ok (R := R) (a := p) (b := " ") (by decide +kernel) (by rw [sizeLine_eq]; omega), rfl, rfl⟩))⟩))⟩
  have e1 : ((rowsOf x).map D.str).map rowSplit = (rowsOf x).map wdD := by rw [List.map_map]; rfl
  show wS (dSeq _ _ [some (.str x), some (.lst (((rowsOf x).map D.str).map rowSplit)), none, none, none, none, none] R) _ _ _ _ _
  rw [e1]
  refine w_seq (w_lockS (x := .lst ((rowsOf x).map wdD)) rfl rfl (w_set (w_fz (w_lc (w_itsL (w_var rfl (zv_lst0 _) ⟨(rowsOf x).map wdD, rfl, by rw [List.length_map]; exact sz2 (by omega), ?_⟩))))))
  refine w_filt rq rf (show okAt R (.lst ((rowsOf x).map wdD)) R from trivial) (fun y hy => ?_) ?_
  · obtain ⟨p, hp, rfl⟩ := List.mem_map.mp hy
    have h1 := row_len hp
    have h2 := fst_len p
    have en : gEnds R (.str (fstW p)) [.str ":"] = some (.bl (Txt.endswith (fstW p) ":"), R) := rfl
    have sl : gSl R (.str (fstW p)) none (some (-1)) = some (.str (initS (fstW p))) := if_pos (sz2 (by omega))
    have q1 : rq (wdD p) = Txt.endswith (fstW p) ":" := by rw [wdD_eq]; rfl
    have f1 : rf (wdD p) = .str (initS (fstW p)) := by rw [wdD_eq]; rfl
    refine ⟨_, rfl, w_tst (w_meth (w_bin (w_var rfl (zv_lst0 _) (w_k ⟨_, gIx0 p, rfl, w_cons (w_k (w_nil ⟨_, _, en, _, rfl, q1.symm, rfl⟩))⟩)))), fun _ => ?_⟩
    exact w_slice (w_bin (w_var rfl (zv_lst0 _) (w_k ⟨_, gIx0 p, w_partN (w_partS (w_un (w_k ⟨_, rfl, _, rfl, _, sl, f1.symm, rfl⟩)))⟩)))
  have e2 : (((rowsOf x).map wdD).filter rq).map rf = (((rowsOf x).filter okc).map nmR).map .str := by
    rw [List.filter_map, List.map_map, List.map_map]
    have q : (rowsOf x).filter (rq ∘ wdD) = (rowsOf x).filter okc := by
      refine List.filter_congr fun p _ => ?_
      show rq (wdD p) = okc p
      rw [wdD_eq]
      exact ends_colon (fstW p)
    rw [q]
    refine List.map_congr_left fun p _ => ?_
    show rf (wdD p) = .str (nmR p)
    rw [wdD_eq]; rfl
  rw [e2]
  generalize hN : ((rowsOf x).filter okc).map nmR = N
  have nN : N.length ≤ (rowsOf x).length := by rw [← hN, List.length_map]; exact List.length_filter_le _ _
  show wS (dSeq _ _ [some (.str x), some (.lst ((rowsOf x).map wdD)), some (.lst (N.map .str)), none, none, none, none] R) _ _ _ _ _
  have l1 : gLen R [.lst (N.map .str)] = some (.int (N.length : Int), R) := by
    have := gLen_lst (R := R) (lstR_lst (N.map D.str))
    rwa [List.length_map] at this
  have l2 : gLen R [.lst ((rowsOf x).map wdD)] = some (.int ((rowsOf x).length : Int), R) := by
    have := gLen_lst (R := R) (lstR_lst ((rowsOf x).map wdD))
    rwa [List.length_map] at this
  have bad : logsB x = false → wS (dRaise (He.ga K "NoText") (dCons (Y.dK (.str "not the text of logs")) dNil) [some (.str x), some (.lst ((rowsOf x).map wdD)), some (.lst (N.map .str)), none, none, none, none] R)
      (fun ρ1 R1 => wS (dSeq (dSet 3 (dFzK (dDc (.tp2 (.nm 6) (.nm 5)) (dZip (dVar 2) (dVar 1)) dYes (dVar 6) (dSlice gSl (dVar 5) (some (Y.dK (.int 1))) none)))) (dSeq (dIfS (dNot (dTst (dCallF 1 (g_are_lists_of_names K) (dCons (dVar 3) dNil)))) (dRaise (He.ga K "NoText") (dCons (Y.dK (.str "not the text of logs")) dNil)) dNext) (dRet (dVar 3))) ρ1 R1)
        (fun _ R' => R' = R ∧ logsB x = true ∧ D.non = .dic (dkP (PR (rowsOf x)))) (fun y R' => R' = R ∧ logsB x = true ∧ y = .dic (dkP (PR (rowsOf x)))) nvr nvr (fun c _ R' => Clean R R' ∧ c.pay = none ∧ (R'.take R.length = R ∧ c = noText K ∧ logsB x = false)))
      (fun y R' => R' = R ∧ logsB x = true ∧ y = .dic (dkP (PR (rowsOf x)))) nvr nvr (fun c _ R' => Clean R R' ∧ c.pay = none ∧ (R'.take R.length = R ∧ c = noText K ∧ logsB x = false)) := fun h =>
    w_raise (w_cons (w_k (w_nil ⟨by decide, Clean.rfl' _, rfl, List.take_length, rfl, h⟩)))
  refine w_seq (w_ifs (w_or (w_tst (w_bin (w_call (w_cons (w_var rfl (zv_lst0 _) (w_nil ⟨_, _, l1, w_call (w_cons (w_var rfl (zv_lst0 _) (w_nil ⟨_, _, l2, _, gNe_int _ _, _, rfl, fun h1 => ?_, fun h1 => ⟨fun _ => bad ?_, fun h => absurd h (by decide)⟩⟩)))⟩))))))))
  · have el : N.length = (rowsOf x).length := by
      have : ((N.length : Nat) : Int) = ((rowsOf x).length : Nat) := by simpa using h1
      omega
    have al : ∀ p ∈ rowsOf x, okc p = true := by
      rw [← hN, List.length_map] at el
      exact List.length_filter_eq_length_iff.mp el
    have eN : N = (rowsOf x).map nmR := by rw [← hN, List.filter_eq_self.mpr al]
    have all1 : (rowsOf x).all okc = true := List.all_eq_true.mpr al
    refine w_not (w_tst (w_callF (w_cons (w_var rfl (zv_lst0 _) (w_nil ⟨rfl, wR_nv (ascending_ok K (sz2 (by omega))) ?_⟩)))))
    rintro _ R1 ⟨rfl, hR⟩
    subst hR
    refine ⟨_, rfl, fun h2 => bad ?_, fun h2 => w_next ?_⟩
    · have h2' : ascB N = false := by simpa using h2
      unfold logsB
      rw [all1, ← eN, h2']; rfl
    · have h2' : ascB N = true := by simpa using h2
      have lt := ascB_iff.mp h2'
      have nd := asc_nd lt
      rw [eN] at nd
      refine w_seq (w_set (w_fzK (w_dc (w_zip (w_var rfl (zv_lst0 _) (w_var rfl (zv_lst0 _) ⟨_, _, lstR_lst _, lstR_lst _, by rw [List.length_map]; exact sz2 (by omega), ?_⟩))))))
      have e3 : ((N.map D.str).zip ((rowsOf x).map wdD)).map (fun p => D.tup [p.1, p.2]) = (rowsOf x).map fun p => D.tup [.str (nmR p), wdD p] := by
        rw [eN, List.map_map, zip_fmap, List.map_map]; rfl
      rw [e3]
      refine w_dcI (fun k acc R' => R' = R1 ∧ acc = dkP (PR ((rowsOf x).take k))) ⟨rfl, rfl⟩ (fun k acc R' h => ⟨trivial, trivial⟩) (fun k y acc R' hy h => ?_) (fun ys R' h => ?_)
      · obtain ⟨rfl, rfl⟩ := h
        rw [List.getElem?_map] at hy
        obtain ⟨p, hp, rfl⟩ := Option.map_eq_some_iff.mp hy
        have sl : gSl R' (wdD p) (some 1) none = some (.lst ((entsW p).map .str)) := by
          rw [wdD_eq]
          simp only [gSl, lstR_lst, Option.map_some, cutY_tail, List.tail_cons]
        exact ⟨_, rfl, w_var rfl (zv_str _) ⟨_, rfl, w_slice (w_var rfl (zv_lst0 _) (w_partS (w_k ⟨_, rfl, w_partN ⟨_, sl, rfl, dkP_step nd hp⟩⟩)))⟩⟩
      · obtain ⟨rfl, rfl⟩ := h
        rw [List.length_map, List.take_length]
        have ft := PR_fits hl
        refine w_seq (w_ifs (w_not (w_tst (w_callF (w_cons (w_var rfl (zv_dic _) (w_nil ⟨rfl, wR_nv (are_lists_w K ft) ?_⟩)))))))
        rintro _ R2 ⟨rfl, hR⟩
        subst hR
        refine ⟨_, rfl, fun h3 => ?_, fun h3 => w_next (w_ret (w_var rfl (zv_dic _) ⟨rfl, ?_, rfl⟩))⟩
        · refine w_raise (w_cons (w_k (w_nil ⟨by decide, Clean.rfl' _, rfl, List.take_length, rfl, ?_⟩)))
          have h3' : listsB (PR (rowsOf x)) = false := by simpa using h3
          unfold logsB
          rw [h3', Bool.and_false, Bool.and_false]
        · have h3' : listsB (PR (rowsOf x)) = true := by simpa using h3
          unfold logsB
          rw [all1, ← eN, h2', h3']; rfl
  · have : ¬ (rowsOf x).all okc = true := fun e => by
      have al := List.all_eq_true.mp e
      have : N.length = (rowsOf x).length := by rw [← hN, List.length_map, List.filter_eq_self.mpr al]
      simp [this] at h1
    unfold logsB
    rw [Bool.not_eq_true] at this
    rw [this]; rfl
end K50
end
end
section
set_option linter.all false
set_option maxRecDepth 100000
set_option maxHeartbeats 1000000
noncomputable section
namespace K50
open PySem PySem.Spec PyProof.Rows L2 Y
open TL (tl joinL len_tl join_eq tl_join)
/-! the logs written again -/
theorem keyStrs_dkP (P : LP) : keyStrs ((dkP P).map (·.1)) = some (P.map (·.1)) := by
  induction P with
  | nil => rfl
  | cons p P ih =>
    show (keyStrs ((dkP P).map (·.1))).map (p.1 :: ·) = _
    rw [ih]; rfl
theorem sort_asc {ss : List Str} (h : ss.Pairwise ltL) : sortStr ss = ss := (sort_uniq (List.Perm.refl ss) (h.imp fun q => List.le_of_lt q)).symm
theorem gA_dkP {ps : List Str} (nd : (ps.map nmR).Nodup) {p : Str} (hp : p ∈ ps) : gA (Sum.inr (nmR p) : Key) (dkP (PR ps)) = some (.lst ((entsW p).map .str)) := by
  induction ps with
  | nil => cases hp
  | cons q ps ih =>
    simp only [List.map_cons, List.nodup_cons] at nd
    show (if (Sum.inr (nmR q) : Key) = Sum.inr (nmR p) then some (D.lst ((entsW q).map .str)) else gA (Sum.inr (nmR p) : Key) (dkP (PR ps))) = _
    rcases List.mem_cons.mp hp with rfl | hp
    · rw [if_pos rfl]
    · rw [if_neg, ih nd.2 hp]
      intro e
      exact nd.1 (by rw [Sum.inr.inj e]; exact List.mem_map.mpr ⟨p, hp, rfl⟩)
theorem logsB_parts {x : Str} (h : logsB x = true) : (∀ p ∈ rowsOf x, okc p = true) ∧ ((rowsOf x).map nmR).Pairwise ltL ∧ listsB (PR (rowsOf x)) = true := by
  unfold logsB at h
  simp only [Bool.and_eq_true] at h
  exact ⟨List.all_eq_true.mp h.1, ascB_iff.mp h.2.1, h.2.2⟩
theorem listsB_len {P : LP} (h : listsB P = true) : P.length ≤ 40 := by
  unfold listsB at h
  simp only [Bool.and_eq_true, decide_eq_true_eq] at h
  have := h.2.1
  omega
theorem okc_eq {p : Str} (h : okc p = true) : nmR p ++ ":" = fstW p := last_colon (of_decide_eq_true h)
theorem show_logs_w (K : PySem.W.Frag) {R : Wd} {x : Str} (hl : x.length ≤ 100000) (hb : logsB x = true) : wR (g_show_logs K [.dic (dkP (PR (rowsOf x)))] R) (fun y R' => y = .str x ∧ R' = R) nvr := by
  obtain ⟨ok, asc, li⟩ := logsB_parts hb
  have nd := asc_nd asc
  have nr : (rowsOf x).length ≤ 40 := by have := listsB_len li; simpa [PR] using this
  unfold g_show_logs
  refine w_fn ?_
  show wS (d_show_logs K [some (.dic (dkP (PR (rowsOf x)))), none] R) _ _ _ _ _
  unfold d_show_logs
  refine w_seq (w_ifs (w_not (w_tst (w_callF (w_cons (w_var rfl (zv_dic _) (w_nil ⟨rfl, wR_nv (are_lists_w K (PR_fits hl)) ?_⟩)))))))
  rintro _ R1 ⟨rfl, hR⟩
  subst hR
  refine ⟨_, rfl, fun h => by rw [li] at h; exact absurd h (by decide), fun _ => w_next ?_⟩
  have ek : (PR (rowsOf x)).map (·.1) = (rowsOf x).map nmR := by unfold PR; rw [List.map_map]; rfl
  have gs : gSorted R1 [.dic (dkP (PR (rowsOf x)))] = some (((rowsOf x).map nmR).map .str) := by
    show (match keyStrs ((dkP (PR (rowsOf x))).map (·.1)) with
      | some ss => if ss.length < 64 then some ((sortStr ss).map D.str) else none
      | none => none) = _
    rw [keyStrs_dkP, ek]
    show (if ((rowsOf x).map nmR).length < 64 then some ((sortStr ((rowsOf x).map nmR)).map D.str) else none) = _
    rw [if_pos (by rw [List.length_map]; omega), sort_asc asc]
  have wt := split_wt x "\n" (by decide)
  have j := gJoin_ok (R := R1) (a := "\n") (x := .lst ((rowsOf x).map .str)) (ss := rowsOf x) (seqOf_lst (lstR_lst _)) (by
    rw [show ("\n" : Str).length = 1 from rfl]
    show ((Txt.split x "\n").map (·.length)).sum + (Txt.split x "\n").length * 1 ≤ _
    omega)
  rw [show Txt.join "\n" (rowsOf x) = x from split_join' x "\n"] at j
  refine w_ret (w_meth (w_k ⟨rfl, w_cons (w_fz (w_lc (w_its (w_fz (w_callG (w_cons (w_var rfl (zv_dic _) (w_nil ⟨_, gs, _, itsOf_lst (lstR_lst _), by rw [List.length_map, List.length_map]; exact sz2 (by omega), ?_⟩))))))))⟩))
  refine w_lcI (fun k acc R' => R' = R1 ∧ acc = ((rowsOf x).take k).map .str) ⟨rfl, rfl⟩ (fun k acc R' h => trivial) (fun k y acc R' hy h => ?_) (fun ys R' h => ?_)
  · obtain ⟨rfl, rfl⟩ := h
    rw [List.getElem?_map, List.getElem?_map] at hy
    obtain ⟨n, hn, rfl⟩ := Option.map_eq_some_iff.mp hy
    obtain ⟨p, hp, rfl⟩ := Option.map_eq_some_iff.mp hn
    have hm : p ∈ rowsOf x := List.mem_of_getElem? hp
    have l1 := row_len hm
    have l2 := fst_len p
    have l3 := cutS_len (fstW p) none (some (-1))
    have l4 : (nmR p).length ≤ 100000 := by show (cutS (fstW p) none (some (-1))).length ≤ _; omega
    have ad : gAddX R' (.str (nmR p)) (.str ":") = some (.str (fstW p)) := by
      rw [← okc_eq (ok p hm)]
      have : (nmR p).length + (":" : Str).length ≤ sizeLine := by rw [show (":" : Str).length = 1 from rfl, sizeLine_eq]; omega
      simp [gAddX, gAdd, this]
    have ix : gIx R' (.dic (dkP (PR (rowsOf x)))) (.str (nmR p)) = some (.lst ((entsW p).map .str)) := by
      rw [gIx_dic (q := Sum.inr (nmR p)) rfl, gA_dkP nd hm, Option.map_some, zv_lst0]
    have en := ents_num p
    have ad2 : gAddX R' (.lst [.str (fstW p)]) (.lst ((entsW p).map .str)) = some (.lst ((wordsOf p).map .str)) := by
      rw [gAddX_lst (by simp; exact sz2 (by omega)), words_eq]; rfl
    have wt := split_wt p " " (by decide)
    have j2 := gJoin_ok (R := R') (a := " ") (x := .lst ((wordsOf p).map .str)) (ss := wordsOf p) (seqOf_lst (lstR_lst _)) (by
      rw [show (" " : Str).length = 1 from rfl]
      show ((Txt.split p " ").map (·.length)).sum + (Txt.split p " ").length * 1 ≤ _
      omega)
    rw [show Txt.join " " (wordsOf p) = p from split_join' p " "] at j2
    refine ⟨_, rfl, w_meth (w_k ⟨rfl, w_cons (w_bin (w_fz (w_sz (w_cons (w_bin (w_var rfl (zv_str _) (w_k ⟨_, ad, w_nil ⟨sz2 (by simp), w_bin (w_var rfl (zv_dic _) (w_var rfl (zv_str _) ⟨_, ix, _, ad2, w_nil ⟨_, _, j2, rfl, ?_⟩⟩))⟩⟩)))))))⟩)⟩
    rw [List.take_add_one, hp]
    simp
  · obtain ⟨rfl, rfl⟩ := h
    rw [List.length_map, List.length_map, List.take_length]
    exact w_nil ⟨_, _, j, rfl, rfl⟩
end K50
end
end
section
set_option linter.all false
set_option maxRecDepth 100000
set_option maxHeartbeats 1000000
noncomputable section
namespace K50
open PySem PySem.Spec PyProof.Rows L2 Y
open TL (tl joinL len_tl join_eq tl_join)
/-! logs: the law's own reading -/
def rowB (p : Str) : Bool := okc p && (decide ((entsW p).length ≤ 400) && ((nmR p :: entsW p).map fun s => decide (IsName s)).all id)
def lawB (x : Str) : Bool := (rowsOf x).all rowB && (ascB ((rowsOf x).map nmR) && decide ((rowsOf x).length < 41))
def kvF (ps : List Str) : List (Key × D) := ps.foldl (fun acc p => pA (Sum.inr (nmR p) : Key) (.lst ((entsW p).map .str)) acc) []
theorem pA_le (k : Key) (v : D) : ∀ l : List (Key × D), (pA k v l).length ≤ l.length + 1
  | [] => by simp [pA]
  | p :: r => by
    unfold pA
    have := pA_le k v r
    split <;> simp <;> omega
theorem kvF_app (ps : List Str) (p : Str) : kvF (ps ++ [p]) = pA (Sum.inr (nmR p) : Key) (.lst ((entsW p).map .str)) (kvF ps) := by simp [kvF]
theorem kvF_le (ps : List Str) : (kvF ps).length ≤ ps.length := by
  unfold kvF
  suffices ∀ (acc : List (Key × D)), (ps.foldl (fun acc p => pA (Sum.inr (nmR p) : Key) (.lst ((entsW p).map .str)) acc) acc).length ≤ acc.length + ps.length by simpa using this []
  induction ps with
  | nil => intro acc; simp
  | cons p ps ih =>
    intro acc
    have := ih (pA (Sum.inr (nmR p) : Key) (.lst ((entsW p).map .str)) acc)
    have := pA_le (Sum.inr (nmR p)) (.lst ((entsW p).map .str)) acc
    simp only [List.foldl_cons, List.length_cons]
    omega
theorem kvF_take {ps : List Str} (nd : (ps.map nmR).Nodup) : ∀ k, k ≤ ps.length → kvF (ps.take k) = dkP (PR (ps.take k))
  | 0, _ => rfl
  | k + 1, h => by
    have e : ps[k]? = some ps[k] := List.getElem?_eq_getElem h
    rw [List.take_add_one, e]
    show kvF (ps.take k ++ [ps[k]]) = dkP (PR (ps.take k ++ [ps[k]]))
    rw [kvF_app, kvF_take nd k (by omega), dkP_step nd e, List.take_add_one, e]
    rfl
theorem kvF_nd {ps : List Str} (nd : (ps.map nmR).Nodup) : kvF ps = dkP (PR ps) := by
  have := kvF_take nd ps.length (Nat.le_refl _)
  rwa [List.take_length] at this
theorem asc_set (ss : List Str) : decide (sortStr (ddp ss) = ss) = ascB ss := by
  by_cases h : ascB ss = true
  · rw [h, decide_eq_true]
    have pw := ascB_iff.mp h
    have pm : ss.Perm (ddp ss) := perm_of_mem (asc_nd pw) (ddp_nodup ss) fun k => ddp_mem.symm
    exact (sort_uniq pm (pw.imp fun q => List.le_of_lt q)).symm
  · rw [Bool.not_eq_true] at h
    rw [h, decide_eq_false]
    intro e
    have : ascB ss = true := by
      rw [← e]
      exact ascB_iff.mpr (sortStr_lt (ddp_nodup ss))
    rw [h] at this
    exact absurd this (by decide)
theorem w_sortSet {da : DE} {ρ : Rho} {R : Wd} {Q : List D → Wd → Prop} {E : Exn → Wd → Prop} (h : wR (da ρ R) (fun x R1 => ∃ zs, gSortSet R1 x = some zs ∧ Q zs R1) E) : wR (dSortSet da ρ R) Q E := by
  refine wR_bind (wR_imp h (fun x R1 h => ?_) fun _ _ h => h)
  obtain ⟨zs, e, q⟩ := h
  simp only [e]
  exact .ok q
def RL (R : Wd) (ps : List Str) : Wd := R ++ [.dK (kvF ps)] ++ [.lst ((ps.map nmR).map .str)]
theorem RL_0 (R : Wd) (ps : List Str) : (RL R ps)[R.length]? = some (.dK (kvF ps)) := by simp [RL]
theorem RL_1 (R : Wd) (ps : List Str) : (RL R ps)[R.length + 1]? = some (.lst ((ps.map nmR).map .str)) := by simp [RL]
theorem RL_set0 (R : Wd) (ps : List Str) (k : List (Key × D)) : (RL R ps).set R.length (.dK k) = R ++ [.dK k] ++ [.lst ((ps.map nmR).map .str)] := by simp [RL]
theorem RL_set1 (R : Wd) (ps : List Str) (k : List D) : (RL R ps).set (R.length + 1) (.lst k) = R ++ [.dK (kvF ps)] ++ [.lst k] := by simp [RL]
theorem RL_ext (R : Wd) (ps : List Str) : Y.Ext R (RL R ps) := by
  unfold RL
  rw [List.append_assoc]
  exact Y.Ext.app R _
end K50
end
end
section
set_option linter.all false
set_option maxRecDepth 100000
set_option maxHeartbeats 1000000
noncomputable section
namespace K50
open PySem PySem.Spec PyProof.Rows L2 Y
open TL (tl joinL len_tl join_eq tl_join)
theorem names_filt (ss : List Str) : (ss.map fun s => decide (IsName s)).all id = decide (ss.filter (fun s => !decide (IsName s)) = []) := by
  rw [List.all_map]
  by_cases h : ss.filter (fun s => !decide (IsName s)) = []
  · rw [decide_eq_true h, List.all_eq_true]
    intro s hs
    have := (List.filter_eq_nil_iff.mp h) s hs
    simpa using this
  · rw [decide_eq_false h, Bool.eq_false_iff]
    intro e
    apply h
    refine List.filter_eq_nil_iff.mpr fun s hs => ?_
    have := (List.all_eq_true.mp e) s hs
    simpa using this
theorem logs_of_w (K : PySem.W.Frag) {R : Wd} {x : Str} (hl : x.length ≤ 100000) (ho : OkT x) (hr : (rowsOf x).length < 64) :
    wR (g__law_logs_of K [.str x] R) (fun y R' => (lawB x = true ∧ y = .ref R.length ∧ R' = RL R (rowsOf x)) ∨ (lawB x = false ∧ y = .non ∧ Y.Ext R R')) nvr := by
  unfold g__law_logs_of
  refine w_fn ?_
  show wS (d__law_logs_of K [some (.str x), none, none, none, none, none, none, none] R) _ _ _ _ _
  unfold d__law_logs_of
  refine w_seq (w_par (w_cons (w_newK (w_nilK (w_cons (w_newL (w_nil (w_nil ⟨_, _, rfl, ?_⟩))))))))
  have sp := fun R' => gSplit_ok (R := R') (a := x) (b := "\n") (by decide +kernel) (by rw [sizeLine_eq]; omega)
  have e0 : R ++ [O.dK []] ++ [O.lst []] = RL R [] := rfl
  have e1 : (R ++ [O.dK []]).length = R.length + 1 := by simp
  show wS (dSeq _ _ [some (.str x), some (.ref R.length), some (.ref (R ++ [O.dK []]).length), none, none, none, none, none] (R ++ [O.dK []] ++ [O.lst []])) _ _ _ _ _
  rw [e0, e1]
  have gt (R' : Wd) (a b : Int) : gGt R' (.int a) (.int b) = some (.bl (decide (a > b))) := rfl
  have lt (R' : Wd) (a b : Int) : gLtX R' (.int a) (.int b) = some (.bl (decide (a < b))) := rfl
  refine w_seq (w_for (w_its (w_fz (w_methG (w_var rfl (zv_str x) ⟨rfl, w_cons (w_k (w_nil ⟨_, sp _, _, itsOf_lst (lstR_lst _), by rw [List.length_map]; exact sz2 (show (rowsOf x).length ≤ _ by omega), ?_⟩))⟩)))))
  refine w_forD (fun l ρ R' => ∃ (done rest : List Str) (a b c d e : Option D), l = rest.map .str ∧ rowsOf x = done ++ rest ∧ ρ = [some (.str x), some (.ref R.length), some (.ref (R.length + 1)), a, b, c, d, e] ∧ R' = RL R done ∧ ∀ p ∈ done, rowB p = true) _ (fun _ _ _ _ => trivial) ⟨[], rowsOf x, none, none, none, none, none, rfl, rfl, rfl, rfl, fun p hp => nomatch hp⟩ ?_ ?_
  · rintro ρ R1 ⟨done, rest, a, b, c, d, e, hl2, hd, rfl, rfl, hall⟩
    have hrest : rest = [] := by simpa using hl2.symm
    subst hrest
    rw [List.append_nil] at hd
    subst hd
    have allB : (rowsOf x).all rowB = true := List.all_eq_true.mpr hall
    have c1 := RL_1 R (rowsOf x)
    have c0 := RL_0 R (rowsOf x)
    have nm : ∀ s ∈ (rowsOf x).map nmR, IsName s := fun s hs => by
      obtain ⟨p, hp, rfl⟩ := List.mem_map.mp hs
      have := hall p hp
      unfold rowB at this
      simp only [Bool.and_eq_true] at this
      have := (List.all_eq_true.mp this.2.2) (decide (IsName (nmR p))) (List.mem_map.mpr ⟨nmR p, List.mem_cons_self, rfl⟩)
      exact of_decide_eq_true this
    have gs : gSortSet (RL R (rowsOf x)) (.ref (R.length + 1)) = some ((sortStr (ddp ((rowsOf x).map nmR))).map .str) := by
      unfold gSortSet
      rw [lstR_ref c1, Option.bind_some, strsOf_map, Option.bind_some, if_pos (by rw [List.length_map]; exact hr)]
    have ok1 : ∀ s ∈ sortStr (ddp ((rowsOf x).map nmR)), PyData.strOk s = true := fun s hs => name_ok (nm s (ddp_mem.mp ((sortStr_perm _).mem_iff.mp hs)))
    have eq := gEq_strs (R := RL R (rowsOf x)) (lstR_lst _) (lstR_ref c1) ok1 fun s hs => name_ok (nm s hs)
    rw [asc_set] at eq
    have gl : gLen (RL R (rowsOf x)) [.ref (R.length + 1)] = some (.int ((rowsOf x).length : Int), RL R (rowsOf x)) := by
      have := gLen_lst (lstR_ref c1)
      rwa [List.length_map, List.length_map] at this
    refine w_ret (w_ife (w_and (w_tst (w_bin (w_fz (w_sortSet (w_var rfl (zv_lst c1) ⟨_, gs, w_var rfl (zv_lst c1) ⟨_, eq, _, rfl, fun h1 => ?_, fun h1 => ⟨fun h => absurd h (by decide), fun _ => ?_⟩⟩⟩)))))))
    · refine w_tst (w_bin (w_call (w_cons (w_var rfl (zv_lst c1) (w_nil ⟨_, _, gl, w_k ⟨_, lt _ _ _, _, rfl, fun h2 => ?_, fun h2 => ?_⟩⟩)))))
      · refine w_var rfl (zv_dK c0) (.inl ⟨?_, rfl, rfl⟩)
        unfold lawB
        rw [allB, h1, decide_eq_true (by simp at h2; omega)]; rfl
      · refine w_k (.inr ⟨?_, rfl, RL_ext _ _⟩)
        unfold lawB
        rw [decide_eq_false (by simp at h2; omega : ¬ (rowsOf x).length < 41), Bool.and_false, Bool.and_false]
    · refine w_k (.inr ⟨?_, rfl, RL_ext _ _⟩)
      unfold lawB
      rw [h1, Bool.false_and, Bool.and_false]
  · rintro y l ρ R1 ⟨done, rest, a, b, c, d, e, hl2, hd, rfl, rfl, hall⟩
    obtain ⟨p, rest, rfl⟩ : ∃ p r, rest = p :: r := by
      cases rest with
      | nil => cases hl2
      | cons p r => exact ⟨p, r, rfl⟩
    simp only [List.map_cons, List.cons.injEq] at hl2
    obtain ⟨rfl, rfl⟩ := hl2
    have hm : p ∈ rowsOf x := by rw [hd]; simp
    have l1 := row_len hm
    have l2 := fst_len p
    have l3 := ents_num p
    have okp : OkT p := split_okT ho hm
    have okw : ∀ s ∈ wordsOf p, OkT s := fun s hs => split_okT okp hs
    have okf : OkT (fstW p) := okw _ (by rw [words_eq]; exact List.mem_cons_self)
    have c0 := RL_0 R done
    have c1 := RL_1 R done
    have bad : rowB p = false → lawB x = false := fun h => by
      unfold lawB
      rw [show (rowsOf x).all rowB = false from ?_, Bool.false_and]
      rw [Bool.eq_false_iff]
      intro z
      have := (List.all_eq_true.mp z) p hm
      rw [h] at this
      exact absurd this (by decide)
    refine ⟨_, rfl, ?_⟩
    generalize hRR : RL R done = RR at c0 c1 ⊢
    have ext : Y.Ext R RR := hRR ▸ RL_ext R done
    show wS (dSeq _ _ [some (.str x), some (.ref R.length), some (.ref (R.length + 1)), some (.str p), b, c, d, e] RR) _ _ _ _ _
    refine w_seq (w_set (w_fz (w_methG (w_var rfl (zv_str p) ⟨rfl, w_cons (w_k (w_nil ⟨_, gSplit_ok (R := RR) (a := p) (b := " ") (by decide +kernel) (by rw [sizeLine_eq]; omega), ?_⟩))⟩))))
    show wS (dSeq _ _ [some (.str x), some (.ref R.length), some (.ref (R.length + 1)), some (.str p), some (wdD p), c, d, e] RR) _ _ _ _ _
    have s1 : gSl RR (.str (fstW p)) none (some (-1)) = some (.str (nmR p)) := if_pos (sz2 (by omega))
    have s2 : gSl RR (wdD p) (some 1) none = some (.lst ((entsW p).map .str)) := by
      rw [wdD_eq]
      simp only [gSl, lstR_lst, Option.map_some, cutY_tail, List.tail_cons]
    have s3 : gSl RR (.str (fstW p)) (some (-1)) none = some (.str (lastS (fstW p))) := if_pos (sz2 (by omega))
    refine w_seq (w_par (w_cons (w_slice (w_bin (w_var rfl (zv_lst0 _) (w_k ⟨_, gIx0 p, w_partN (w_partS (w_un (w_k ⟨_, rfl, _, rfl, _, s1, w_cons (w_slice (w_var rfl (zv_lst0 _) (w_partS (w_k ⟨_, rfl, w_partN ⟨_, s2, w_nil ⟨_, _, rfl, ?_⟩⟩⟩))))⟩)))⟩))))))
    show wS (dSeq _ _ [some (.str x), some (.ref R.length), some (.ref (R.length + 1)), some (.str p), some (wdD p), some (.str (nmR p)), some (.lst ((entsW p).map .str)), e] RR) _ _ _ _ _
    have gl : gLen RR [.lst ((entsW p).map .str)] = some (.int ((entsW p).length : Int), RR) := by
      have := gLen_lst (R := RR) (lstR_lst ((entsW p).map D.str))
      rwa [List.length_map] at this
    refine w_seq (w_ifs (w_or (w_tst (w_bin (w_slice (w_bin (w_var rfl (zv_lst0 _) (w_k ⟨_, gIx0 p, w_partS (w_un (w_k ⟨_, rfl, _, rfl, w_partN ⟨_, s3, w_k ⟨_, gNe_str _ _, _, rfl, fun h1 => ?_, fun h1 => ⟨fun _ => w_ret (w_k (.inr ⟨bad ?_, rfl, ext⟩)), fun h => absurd h (by decide)⟩⟩⟩⟩))⟩))))))))
    · have okc1 : okc p = true := by simpa [okc] using h1
      refine w_tst (w_bin (w_call (w_cons (w_var rfl (zv_lst0 _) (w_nil ⟨_, _, gl, w_k ⟨_, gt _ _ _, _, rfl, fun h2 => w_ret (w_k (.inr ⟨bad ?_, rfl, ext⟩)), fun h2 => w_next ?_⟩⟩)))))
      · unfold rowB
        rw [decide_eq_false (by simp at h2; omega : ¬ (entsW p).length ≤ 400), Bool.false_and, Bool.and_false]
      have many : (entsW p).length ≤ 400 := by simp at h2; omega
      have ad : gAddX RR (.lst [.str (nmR p)]) (.lst ((entsW p).map .str)) = some (.lst ((nmR p :: entsW p).map .str)) := by
        rw [gAddX_lst (by simp; exact sz2 (by omega))]; rfl
      have lens : ∀ s ∈ nmR p :: entsW p, s.length ≤ sizeLine ∧ OkT s := fun s hs => by
        rcases List.mem_cons.mp hs with rfl | hs
        · have l3 := cutS_len (fstW p) none (some (-1))
          exact ⟨sz2 (by show (cutS (fstW p) none (some (-1))).length ≤ _; omega), cutS_okT okf⟩
        · have := ents_len hs
          exact ⟨sz2 (by omega), okw s (by rw [words_eq]; exact List.mem_cons_of_mem _ hs)⟩
      refine w_seq (w_ifs (w_tst (w_bin (w_fz (w_lc (w_its (w_bin (w_fz (w_sz (w_cons (w_var rfl (zv_str _) (w_nil ⟨sz2 (by simp), w_var rfl (zv_lst0 _) ⟨_, ad, _, itsOf_lst (lstR_lst _), by simp; exact sz2 (by omega), ?_⟩⟩))))))))))))
      let q : D → Bool := fun d => match nmD d with
        | .bl b => !b
        | _ => false
      refine w_filt q id (show okAt RR (.lst ((nmR p :: entsW p).map .str)) RR from trivial) (fun y hy => ?_) ?_
      · obtain ⟨s, hs, rfl⟩ := List.mem_map.mp hy
        refine ⟨_, rfl, w_not (w_tst (w_callF (w_cons (w_var rfl (zv_str s) (w_nil ⟨rfl, wR_nv (own_name_w K (lens s hs).1 (lens s hs).2 RR) ?_⟩))))), fun _ => w_var rfl (zv_str s) ⟨rfl, rfl⟩⟩
        rintro _ _ ⟨rfl, rfl⟩
        exact ⟨_, rfl, rfl, rfl⟩
      have ef : (((nmR p :: entsW p).map D.str).filter q).map id = ((nmR p :: entsW p).filter fun s => !decide (IsName s)).map .str := by
        rw [List.map_id, List.filter_map]
        rfl
      rw [ef]
      have ok2 : ∀ s ∈ (nmR p :: entsW p).filter fun s => !decide (IsName s), PyData.strOk s = true := fun s hs => (lens s (List.mem_filter.mp hs).1).2.ok
      refine w_fz (w_nil ⟨_, gNe_strs (lstR_lst _) (lstR_lst ([].map D.str)) ok2 (by simp), _, rfl, fun h3 => w_ret (w_k (.inr ⟨bad ?_, rfl, ext⟩)), fun h3 => w_next ?_⟩)
      · have h3' : decide (((nmR p :: entsW p).filter fun s => !decide (IsName s)) = []) = false := by rw [Bool.not_eq_true'] at h3; exact h3
        unfold rowB
        rw [names_filt, h3', Bool.and_false, Bool.and_false]
      · have h3' : decide (((nmR p :: entsW p).filter fun s => !decide (IsName s)) = []) = true := by simpa using h3
        have rb : rowB p = true := by
          unfold rowB
          rw [names_filt, h3', okc1, decide_eq_true many]; rfl
        have dl : done.length < 64 := by
          have := congrArg List.length hd
          rw [List.length_append] at this
          omega
        have ap : gAppend RR (.ref (R.length + 1)) [.str (nmR p)] = some (.non, RR.set (R.length + 1) (.lst (((done ++ [p]).map nmR).map .str))) := by
          simp only [gAppend, cellL_ref c1, Option.bind_some]
          rw [if_pos (by rw [List.length_map, List.length_map]; have := sz2 (k := done.length + 1) (by omega); omega)]
          simp
        refine w_seq (w_exp (w_meth (w_var rfl (zv_lst c1) ⟨tyOf_cell c1, w_cons (w_var rfl (zv_str _) (w_nil ⟨_, _, ap, ?_⟩))⟩)))
        have c2 : (RR.set (R.length + 1) (.lst (((done ++ [p]).map nmR).map .str)))[R.length]? = some (.dK (kvF done)) := by
          rw [List.getElem?_set_ne (by omega)]; exact c0
        have kl := kvF_le done
        have st := gSet_dK c2 (nmR p) (.lst ((entsW p).map .str)) (by have := sz2 (k := done.length + 1) (by omega); omega)
        refine w_put (w_var rfl (zv_lst0 _) (w_var rfl (zv_dK c2) (w_var rfl (zv_str _) ⟨_, st, done ++ [p], rest, _, _, _, _, _, rfl, by rw [hd]; simp, rfl, ?_, fun q hq => ?_⟩)))
        · subst hRR
          rw [RL_set1, ← kvF_app]
          simp [RL]
        · rcases List.mem_append.mp hq with hq | hq
          · exact hall q hq
          · rw [List.mem_singleton.mp hq]; exact rb
    · unfold rowB
      have : okc p = false := by simpa [okc] using h1
      rw [this]; rfl
end K50
end
end
section
set_option linter.all false
set_option maxRecDepth 100000
set_option maxHeartbeats 1000000
noncomputable section
namespace K50
open PySem PySem.Spec PyProof.Rows L2 Y
open TL (tl joinL len_tl join_eq tl_join)
/-! both readings agree; law_right on texts -/
theorem logs_law (x : Str) : logsB x = lawB x := by
  rw [Bool.eq_iff_iff]
  unfold logsB lawB listsB
  have ne : 1 ≤ (rowsOf x).length := List.length_pos_iff.mpr (rows_ne x)
  constructor
  · intro h
    simp only [Bool.and_eq_true, decide_eq_true_eq] at h
    obtain ⟨h1, h2, h3, h4, h5, h6⟩ := h
    have pl : (PR (rowsOf x)).length = (rowsOf x).length := by simp [PR]
    rw [Bool.and_eq_true, Bool.and_eq_true, decide_eq_true_eq]
    refine ⟨List.all_eq_true.mpr fun p hp => ?_, h2, by omega⟩
    have a1 := List.all_eq_true.mp h1 p hp
    have a2 := List.all_eq_true.mp h5 (decide (IsName (nmR p))) (List.mem_map.mpr ⟨(nmR p, entsW p), List.mem_map.mpr ⟨p, hp, rfl⟩, rfl⟩)
    have a3 := List.all_eq_true.mp h6 (namesB 0 (entsW p)) (List.mem_map.mpr ⟨(nmR p, entsW p), List.mem_map.mpr ⟨p, hp, rfl⟩, rfl⟩)
    have a3 : namesB 0 (entsW p) = true := a3
    unfold namesB at a3
    simp only [Bool.and_eq_true, decide_eq_true_eq] at a3
    unfold rowB
    rw [a1, decide_eq_true (by omega : (entsW p).length ≤ 400)]
    simp only [Bool.true_and, List.map_cons, List.all_cons, Bool.and_eq_true]
    exact ⟨a2, a3.2.2⟩
  · intro h
    rw [Bool.and_eq_true, Bool.and_eq_true, decide_eq_true_eq] at h
    obtain ⟨h1, h2, h3⟩ := h
    have pl : (PR (rowsOf x)).length = (rowsOf x).length := by simp [PR]
    have hr : ∀ p ∈ rowsOf x, okc p = true ∧ (entsW p).length ≤ 400 ∧ IsName (nmR p) ∧ ((entsW p).map fun s => decide (IsName s)).all id = true := fun p hp => by
      have a := List.all_eq_true.mp h1 p hp
      unfold rowB at a
      simp only [Bool.and_eq_true, List.map_cons, List.all_cons] at a
      exact ⟨a.1, of_decide_eq_true a.2.1, of_decide_eq_true a.2.2.1, a.2.2.2⟩
    simp only [Bool.and_eq_true, decide_eq_true_eq]
    refine ⟨List.all_eq_true.mpr fun p hp => (hr p hp).1, h2, by omega, by omega, List.all_eq_true.mpr fun b hb => ?_, List.all_eq_true.mpr fun b hb => ?_⟩
    · obtain ⟨q, hq, rfl⟩ := List.mem_map.mp hb
      obtain ⟨p, hp, rfl⟩ := List.mem_map.mp hq
      exact decide_eq_true (hr p hp).2.2.1
    · obtain ⟨q, hq, rfl⟩ := List.mem_map.mp hb
      obtain ⟨p, hp, rfl⟩ := List.mem_map.mp hq
      obtain ⟨b1, b2, b3, b4⟩ := hr p hp
      show namesB 0 (entsW p) = true
      unfold namesB
      rw [decide_eq_true (by omega : (0 : Int) ≤ ((entsW p).length : Int)), decide_eq_true (by omega : ((entsW p).length : Int) ≤ 400), b4]
      rfl
theorem eqD_lst {R : Wd} {ss : List Str} (h : ∀ s ∈ ss, PyData.strOk s = true) : eqD R (.lst (ss.map .str)) (.lst (ss.map .str)) = some true := by
  simp only [eqD, py_strs (lstR_lst _), if_pos (And.intro (shaped_strs h) (shaped_strs h)), PyData.eqv, eqvAll_strs, decide_true]
theorem gNe_dic {R : Wd} {ks ls : List (Key × D)} {y : D} (hy : dkOf R y = some ls) : gNe R (.dic ks) y = (eqV1 R (.dic ks) y).map fun b => .bl (!b) := by
  have e : eqVal R (.dic ks) y = eqV1 R (.dic ks) y := by
    unfold eqVal
    have p : ∀ a, py 40 R (.dic ks) = some a → ¬ SeqAt.shaped a = true := fun a h => by
      have h : (pyL (py 39 R) (ks.map (·.2))).map (fun vs => PyData.dict ((ks.map fun p => pyK p.1).zip vs)) = some a := h
      obtain ⟨vs, _, rfl⟩ := Option.map_eq_some_iff.mp h
      intro z
      unfold SeqAt.shaped at z
      rw [Bool.and_eq_true] at z
      exact absurd z.1 (by simp [PyData.canLay0])
    split
    · rename_i a b ha hb
      rw [if_neg fun z => p a ha z.1]
    · rfl
  show (eqVal R (.dic ks) y).map _ = _
  rw [e]
theorem hits_same {R : Wd} {ps : List Str} (nd : (ps.map nmR).Nodup) (h : ∀ p ∈ ps, ∀ s ∈ entsW p, PyData.strOk s = true) : ∀ qs : List Str, (∀ q ∈ qs, q ∈ ps) → hitsB R (dkP (PR ps)) (dkP (PR qs)) = some true
  | [], _ => rfl
  | q :: qs, hq => by
    have hm := hq q List.mem_cons_self
    show (match gA (Sum.inr (nmR q) : Key) (dkP (PR ps)) with
      | none => some false
      | some u => match eqD R (.lst ((entsW q).map .str)) u, hitsB R (dkP (PR ps)) (dkP (PR qs)) with
        | some e, some b => some (e && b)
        | _, _ => none) = some true
    rw [gA_dkP nd hm]
    simp only [eqD_lst (h q hm), hits_same nd h qs fun z hz => hq z (List.mem_cons_of_mem _ hz), Bool.and_self]
theorem ne_dic {R : Wd} {ps : List Str} {y : D} (nd : (ps.map nmR).Nodup) (h : ∀ p ∈ ps, ∀ s ∈ entsW p, PyData.strOk s = true) (hy : dkOf R y = some (dkP (PR ps))) : gNe R (.dic (dkP (PR ps))) y = some (.bl false) := by
  rw [gNe_dic hy]
  have : eqV1 R (.dic (dkP (PR ps))) y = some true := by
    unfold eqV1
    rw [hy]
    show (if (dkP (PR ps)).length = (dkP (PR ps)).length then hitsB R (dkP (PR ps)) (dkP (PR ps)) else some false) = _
    rw [if_pos rfl, hits_same nd h ps fun q hq => hq]
  rw [this]; rfl
theorem kR_at (R : Wd) : (kR R)[R.length + 2]? = some (.lst [.str "NoText"]) := by simp [kR]
theorem kR_ext (R : Wd) : Y.Ext R (kR R) := by
  unfold kR
  rw [List.append_assoc, List.append_assoc]
  exact Y.Ext.app R _
theorem noText_ok : ∀ s ∈ (["NoText"] : List Str), PyData.strOk s = true := by decide +kernel
theorem told_no {R R' : Wd} (e : Y.Ext (kR R) R') : R'[R.length + 2]? = some (.lst ((["NoText"] : List Str).map .str)) := e _ _ (kR_at R)
theorem right_line_w (K : PySem.W.Frag) (cc : He.SaysD fa fn K) (ce : feB fe K = true) {R : Wd} {x : Str} (hl : x.length ≤ 100000) (ho : OkT x) : wR (g__law_right K [.int 0, .str x] R) (fun y R' => y = .bl true ∧ Y.Ext R R') nvr := by
  unfold g__law_right
  refine w_fn ?_
  show wS (d__law_right K [some (.int 0), some (.str x), none, none] R) _ _ _ _ _
  unfold d__law_right
  have ok : ∀ s ∈ wordsOf x, PyData.strOk s = true := fun s hs => (split_okT ho hs).ok
  refine w_seq (w_par (w_cons (w_callF (w_cons (w_var rfl (zv_int _) (w_cons (w_var rfl (zv_str x) (w_nil ⟨rfl, wR_nv (told_w K cc ce (w := 0) (zv_str x) (fun _ => read_line_w K hl) (fun h => absurd rfl h)) ?_⟩))))))))
  rintro y R1 (⟨hR, nb, rfl⟩ | ⟨rfl, hR, nb⟩)
  · subst hR
    refine w_cons (w_k (w_nil ⟨_, _, rfl, ?_⟩))
    show wS (dSeq _ _ [some (.int 0), some (.str x), some (.lst ((wordsOf x).map .str)), some .non] R1) _ _ _ _ _
    refine w_seq (w_ifs (w_tst (w_isi (w_var rfl (zv_str x) ⟨_, rfl, _, rfl, fun _ => w_set ?_, fun h => absurd h (by decide)⟩))))
    refine w_ife (w_tst (w_bin (w_var rfl (zv_int _) (w_k ⟨_, rfl, _, rfl, fun _ => ?_, fun h => absurd h (by decide)⟩))))
    refine w_callF (w_cons (w_var rfl (zv_str x) (w_nil ⟨rfl, wR_nv (line_of_w K hl ho) ?_⟩)))
    rintro _ R2 ⟨rfl, hR⟩
    subst hR
    show wS (dSeq _ _ [some (.int 0), some (.str x), some (.lst ((wordsOf x).map .str)), some (lineD x)] R2) _ _ _ _ _
    rw [show lineD x = .lst ((wordsOf x).map .str) from if_pos nb]
    refine w_seq (w_ifs (w_tst (w_bin (w_var rfl (zv_lst0 _) (w_k ⟨_, rfl, _, rfl, fun h => absurd h (by decide), fun _ => w_next ?_⟩)))))
    refine w_seq (w_ifs (w_or (w_tst (w_bin (w_isi (w_var rfl (zv_lst0 _) ⟨_, tyN_lst (lstR_lst _), w_bin (w_var rfl (zv_int _) (w_k ⟨_, rfl, _, rfl, _, rfl, fun _ => ?_, fun h => absurd h (by decide)⟩))⟩))))))
    refine w_tst (w_bin (w_var rfl (zv_lst0 _) (w_var rfl (zv_lst0 _) ⟨_, gNe_strs (lstR_lst _) (lstR_lst _) ok ok, _, rfl, fun h => by simp at h, fun _ => w_next ?_⟩)))
    refine w_ret (w_bin (w_ife (w_tst (w_bin (w_var rfl (zv_int _) (w_k ⟨_, rfl, _, rfl, fun _ => ?_, fun h => absurd h (by decide)⟩))))))
    refine w_callF (w_cons (w_var rfl (zv_lst0 _) (w_nil ⟨rfl, wR_nv (show_line_w K hl nb) ?_⟩)))
    rintro _ R3 ⟨rfl, hR⟩
    subst hR
    exact w_var rfl (zv_str x) ⟨_, gEq_str _ _, by simp, Y.Ext.refl _⟩
  · subst hR
    refine w_cons (w_k (w_nil ⟨_, _, rfl, ?_⟩))
    show wS (dSeq _ _ [some (.int 0), some (.str x), some (.ref (R.length + 2)), some .non] (kR R)) _ _ _ _ _
    refine w_seq (w_ifs (w_tst (w_isi (w_var rfl (zv_str x) ⟨_, rfl, _, rfl, fun _ => w_set ?_, fun h => absurd h (by decide)⟩))))
    refine w_ife (w_tst (w_bin (w_var rfl (zv_int _) (w_k ⟨_, rfl, _, rfl, fun _ => ?_, fun h => absurd h (by decide)⟩))))
    refine w_callF (w_cons (w_var rfl (zv_str x) (w_nil ⟨rfl, wR_nv (line_of_w K hl ho) ?_⟩)))
    rintro _ R2 ⟨rfl, hR⟩
    rw [hR]
    show wS (dSeq _ _ [some (.int 0), some (.str x), some (.ref (R.length + 2)), some (lineD x)] (kR R)) _ _ _ _ _
    rw [show lineD x = .non from if_neg (by rw [nb]; decide)]
    have at_ := told_no (Y.Ext.refl (kR R))
    refine w_seq (w_ifs (w_tst (w_bin (w_var rfl rfl (w_k ⟨_, rfl, _, rfl, fun _ => ?_, fun h => absurd h (by decide)⟩)))))
    refine w_ret (w_bin (w_var rfl (zv_lst at_) (w_fz (w_sz (w_cons (w_k (w_nil ⟨by decide, _, gEq_strs (lstR_ref at_) (lstR_lst _) noText_ok noText_ok, by simp, kR_ext R⟩)))))))
theorem right_logs_w (K : PySem.W.Frag) (cc : He.SaysD fa fn K) (ce : feB fe K = true) {R : Wd} {x : Str} (hl : x.length ≤ 100000) (ho : OkT x) (hr : (rowsOf x).length < 64) : wR (g__law_right K [.int 1, .str x] R) (fun y R' => y = .bl true ∧ Y.Ext R R') nvr := by
  unfold g__law_right
  refine w_fn ?_
  show wS (d__law_right K [some (.int 1), some (.str x), none, none] R) _ _ _ _ _
  unfold d__law_right
  refine w_seq (w_par (w_cons (w_callF (w_cons (w_var rfl (zv_int _) (w_cons (w_var rfl (zv_str x) (w_nil ⟨rfl, wR_nv (told_w K cc ce (w := 1) (zv_str x) (fun h => absurd h (by decide)) (fun _ => read_logs_w K hl)) ?_⟩))))))))
  rintro y R1 (⟨hR, nb, rfl⟩ | ⟨rfl, hR, nb⟩)
  · subst hR
    refine w_cons (w_k (w_nil ⟨_, _, rfl, ?_⟩))
    show wS (dSeq _ _ [some (.int 1), some (.str x), some (.dic (dkP (PR (rowsOf x)))), some .non] R1) _ _ _ _ _
    refine w_seq (w_ifs (w_tst (w_isi (w_var rfl (zv_str x) ⟨_, rfl, _, rfl, fun _ => w_set ?_, fun h => absurd h (by decide)⟩))))
    refine w_ife (w_tst (w_bin (w_var rfl (zv_int _) (w_k ⟨_, rfl, _, rfl, fun h => absurd h (by decide), fun _ => ?_⟩))))
    refine w_callF (w_cons (w_var rfl (zv_str x) (w_nil ⟨rfl, wR_nv (logs_of_w K hl ho hr) ?_⟩)))
    rintro _ R2 (⟨lb, rfl, hR⟩ | ⟨lb, _, _⟩)
    · subst hR
      obtain ⟨okc, asc, li⟩ := logsB_parts nb
      have nd := asc_nd asc
      have c0 := RL_0 R1 (rowsOf x)
      rw [kvF_nd nd] at c0
      have oks : ∀ p ∈ rowsOf x, ∀ s ∈ entsW p, PyData.strOk s = true := fun p hp s hs => (split_okT (split_okT ho hp) (show s ∈ wordsOf p by rw [words_eq]; exact List.mem_cons_of_mem _ hs)).ok
      have ext := RL_ext R1 (rowsOf x)
      generalize RL R1 (rowsOf x) = R2 at c0 ext ⊢
      show wS (dSeq _ _ [some (.int 1), some (.str x), some (.dic (dkP (PR (rowsOf x)))), some (.ref R1.length)] R2) _ _ _ _ _
      refine w_seq (w_ifs (w_tst (w_bin (w_var rfl (zv_dK c0) (w_k ⟨_, rfl, _, rfl, fun h => absurd h (by decide), fun _ => w_next ?_⟩)))))
      refine w_seq (w_ifs (w_or (w_tst (w_bin (w_isi (w_var rfl (zv_dic _) ⟨_, rfl, w_bin (w_var rfl (zv_int _) (w_k ⟨_, rfl, _, rfl, _, rfl, fun _ => ?_, fun h => absurd h (by decide)⟩))⟩))))))
      refine w_tst (w_bin (w_var rfl (zv_dic _) (w_var rfl (zv_dK c0) ⟨_, ne_dic nd oks (dkOf_ref c0), _, rfl, fun h => absurd h (by decide), fun _ => w_next ?_⟩)))
      refine w_ret (w_bin (w_ife (w_tst (w_bin (w_var rfl (zv_int _) (w_k ⟨_, rfl, _, rfl, fun h => absurd h (by decide), fun _ => ?_⟩))))))
      refine w_callF (w_cons (w_var rfl (zv_dic _) (w_nil ⟨rfl, wR_nv (show_logs_w K hl nb) ?_⟩)))
      rintro _ R3 ⟨rfl, hR⟩
      subst hR
      exact w_var rfl (zv_str x) ⟨_, gEq_str _ _, by simp, ext⟩
    · rw [logs_law, lb] at nb
      exact absurd nb (by decide)
  · subst hR
    refine w_cons (w_k (w_nil ⟨_, _, rfl, ?_⟩))
    show wS (dSeq _ _ [some (.int 1), some (.str x), some (.ref (R.length + 2)), some .non] (kR R)) _ _ _ _ _
    refine w_seq (w_ifs (w_tst (w_isi (w_var rfl (zv_str x) ⟨_, rfl, _, rfl, fun _ => w_set ?_, fun h => absurd h (by decide)⟩))))
    refine w_ife (w_tst (w_bin (w_var rfl (zv_int _) (w_k ⟨_, rfl, _, rfl, fun h => absurd h (by decide), fun _ => ?_⟩))))
    refine w_callF (w_cons (w_var rfl (zv_str x) (w_nil ⟨rfl, wR_nv (logs_of_w K hl ho hr) ?_⟩)))
    rintro _ R2 (⟨lb, _, _⟩ | ⟨lb, rfl, ext⟩)
    · rw [logs_law, lb] at nb
      exact absurd nb (by decide)
    · show wS (dSeq _ _ [some (.int 1), some (.str x), some (.ref (R.length + 2)), some .non] R2) _ _ _ _ _
      have at_ := told_no ext
      refine w_seq (w_ifs (w_tst (w_bin (w_var rfl rfl (w_k ⟨_, rfl, _, rfl, fun _ => ?_, fun h => absurd h (by decide)⟩)))))
      refine w_ret (w_bin (w_var rfl (zv_lst at_) (w_fz (w_sz (w_cons (w_k (w_nil ⟨by decide, _, gEq_strs (lstR_ref at_) (lstR_lst _) noText_ok noText_ok, by simp, (kR_ext R).trans ext⟩)))))))
end K50
end
end
section
set_option linter.all false
set_option maxRecDepth 100000
set_option maxHeartbeats 1000000
noncomputable section
namespace K50
open PySem PySem.Spec PyProof.Rows L2 Y
open TL (tl joinL len_tl join_eq tl_join)
/-! the odd values (printed by genodd.py) -/
theorem w_disp2 {k v k' v' : DE} {ρ : Rho} {R : Wd} {P : List (Key × D) → Wd → Prop} {E : Exn → Wd → Prop} (h : wR (k ρ R) (fun x R1 => wR (v ρ R1) (fun y R2 => wR (k' ρ R2) (fun x' R3 => wR (v' ρ R3) (fun y' R4 => ∃ q q', Y.keyOf x = some q ∧ Y.keyOf x' = some q' ∧ q ≠ q' ∧ P [(q, y), (q', y')] R4) E) E) E) E) : wR (dDisp2 k v k' v' ρ R) P E := by
  refine wR_bind (wR_imp h (fun x R1 h => wR_bind (wR_imp h (fun y R2 h => wR_bind (wR_imp h (fun x' R3 h => wR_bind (wR_imp h (fun y' R4 h => ?_) fun _ _ h => h)) fun _ _ h => h)) fun _ _ h => h)) fun _ _ h => h)
  obtain ⟨q, q', e1, e2, ne, p⟩ := h
  simp only [e1, e2, if_neg ne]
  exact .ok p
theorem kne : (Sum.inr ("a" : Str) : Key) ≠ Sum.inr ("b" : Str) := by decide +kernel
def odd0 : List D := [.non, (.bl true), (.int 0), (.int (-1)), (.str ""), (.str "A"), (.str "a b"), (.str "`"), (.str "{"), (.str "ninechars"), (.str "a1"), (.lst []), (.tup []), (.dic []), (.lst [(.str "a")]), (.tup [(.str "a")]), (.dic [(.inr "a", (.tup []))])]
def odd1 : List D := [(.dic [(.inr "a", (.lst [(.str "a")]))]), (.dic [(.inr "a", (.lst [(.str "b")]))]), (.dic [(.inr "A", (.lst []))]), (.dic [(.inl 1, (.lst []))]), (.dic [(.inr "a", .non)]), (.dic [(.inr "a", (.lst [.non]))]), (.dic [(.inr "a", (.lst [(.str "b")])), (.inr "b", (.lst []))])]
def odd2 : List D := [(.dic [(.inr "a", (.lst [(.lst [(.str "b")])])), (.inr "b", (.lst [(.str "a")]))]), (.lst [(.tup [(.str "a"), (.lst [])])]), (.dic [(.inr "a", (.lst [])), (.inr "b", (.lst []))]), (.dic [(.inr "a", (.lst [(.str "b"), (.str "b")])), (.inr "b", (.lst [(.str "a")]))])]
def oddL : List D := odd0 ++ odd1 ++ odd2
theorem odd_len : oddL.length = 28 := rfl
theorem gIx_nat {R : Wd} {xs : List D} {k : Nat} {d : D} (h : xs[k]? = some d) : gIx R (.lst xs) (.int (k : Int)) = some (zv R d) := by
  rw [gIx_lst, ixL_nat h]; rfl
theorem odd_w (K : PySem.W.Frag) {R : Wd} {i n : Nat} (h : StOK R i n) (hn : n < 10 ^ 9) : wR (g__law_odd K [.ref i] R) (fun x R' => ∃ d ∈ oddL, x = zv R' d ∧ StOK R' i (n + 1) ∧ Else i R R') nvr := by
  unfold g__law_odd
  have zi : zv R (.ref i) = .ref i := by obtain ⟨a, b, c, e, _⟩ := h; exact zv_lst e
  refine w_fn ?_
  show wS (d__law_odd K [some (.ref i), none] R) _ _ _ _ _
  unfold d__law_odd
  refine w_seq (w_set (w_fz (w_sz (w_cons (w_k (w_cons (w_k (w_cons (w_k (w_cons (w_un (w_k ⟨_, rfl, (w_cons (w_k (w_cons (w_k (w_cons (w_k (w_cons (w_k (w_cons (w_k (w_cons (w_k (w_cons (w_k (w_cons (w_fz (w_nil (w_cons (w_tup (w_sz (w_nil ⟨sz2 (by simp), (w_cons (w_fzK (w_nilK (w_cons (w_fz (w_sz (w_cons (w_k (w_nil ⟨sz2 (by simp), (w_cons (w_tup (w_sz (w_cons (w_k (w_nil ⟨sz2 (by simp), (w_cons (w_fzK (w_disp1 (w_k (w_tup (w_sz (w_nil ⟨sz2 (by simp), ⟨_, rfl, (w_nil ⟨sz2 (by simp), ?_⟩)⟩⟩)))))))⟩))))))⟩)))))))))⟩)))))))))))))))))))))⟩))))))))))))
  show wS (dSeq _ _ [some (.ref i), some (.lst odd0)] R) _ _ _ _ _
  refine w_seq (w_set (w_bin (w_var rfl (zv_lst0 _) (w_fz (w_sz (w_cons (w_fzK (w_disp1 (w_k (w_fz (w_sz (w_cons (w_k (w_nil ⟨sz2 (by simp), ⟨_, rfl, (w_cons (w_fzK (w_disp1 (w_k (w_fz (w_sz (w_cons (w_k (w_nil ⟨sz2 (by simp), ⟨_, rfl, (w_cons (w_fzK (w_disp1 (w_k (w_fz (w_nil ⟨_, rfl, (w_cons (w_fzK (w_disp1 (w_k (w_fz (w_nil ⟨_, rfl, (w_cons (w_fzK (w_disp1 (w_k (w_k ⟨_, rfl, (w_cons (w_fzK (w_disp1 (w_k (w_fz (w_sz (w_cons (w_k (w_nil ⟨sz2 (by simp), ⟨_, rfl, (w_cons (w_fzK (w_disp2 (w_k (w_fz (w_sz (w_cons (w_k (w_nil ⟨sz2 (by simp), (w_k (w_fz (w_nil ⟨_, _, rfl, rfl, kne, (w_nil ⟨sz2 (by simp), _, gAddX_lst (sz2 (by simp [odd0])), ?_⟩)⟩)))⟩)))))))))⟩⟩)))))))))⟩)))))⟩))))))⟩))))))⟩⟩)))))))))⟩⟩))))))))))))))
  show wS (dSeq _ _ [some (.ref i), some (.lst (odd0 ++ odd1))] R) _ _ _ _ _
  refine w_seq (w_set (w_bin (w_var rfl (zv_lst0 _) (w_fz (w_sz (w_cons (w_fzK (w_disp2 (w_k (w_fz (w_sz (w_cons (w_fz (w_sz (w_cons (w_k (w_nil ⟨sz2 (by simp), (w_nil ⟨sz2 (by simp), (w_k (w_fz (w_sz (w_cons (w_k (w_nil ⟨sz2 (by simp), ⟨_, _, rfl, rfl, kne, (w_cons (w_fz (w_sz (w_cons (w_tup (w_sz (w_cons (w_k (w_cons (w_fz (w_nil (w_nil ⟨sz2 (by simp), (w_nil ⟨sz2 (by simp), (w_cons (w_fzK (w_disp2 (w_k (w_fz (w_nil (w_k (w_fz (w_nil ⟨_, _, rfl, rfl, kne, (w_cons (w_fzK (w_disp2 (w_k (w_fz (w_sz (w_cons (w_k (w_cons (w_k (w_nil ⟨sz2 (by simp), (w_k (w_fz (w_sz (w_cons (w_k (w_nil ⟨sz2 (by simp), ⟨_, _, rfl, rfl, kne, (w_nil ⟨sz2 (by simp), _, gAddX_lst (sz2 (by simp [odd0, odd1])), ?_⟩)⟩⟩))))))⟩)))))))))))⟩)))))))))⟩)⟩))))))))))))⟩⟩))))))⟩)⟩)))))))))))))))))
  show wS (dRet _ [some (.ref i), some (.lst oddL)] R) _ _ _ _ _
  refine w_ret (w_bin (w_var rfl (zv_lst0 _) (w_callF (w_cons (w_var rfl zi (w_cons (w_k (w_nil ⟨rfl, pick_w K h hn (by decide) (by decide) fun r R' hr s' el _ => ?_⟩))))))))
  have hr' : r < oddL.length := by rw [odd_len]; omega
  exact ⟨_, gIx_nat (List.getElem?_eq_getElem hr'), _, List.getElem_mem hr', rfl, s', el⟩
inductive OddV : D → Prop
  | str {s : Str} : s.length ≤ 20 → OkT s → nls s = 0 → OddV (.str s)
  | non {v : D} {t : String} : (∀ R, zv R v = v) → (∀ R, tyN R v = some t) → Y.subB t "str" = false → OddV v
theorem odd_all : ∀ v ∈ oddL, OddV v := by
  intro v hv
  simp only [oddL, odd0, odd1, odd2, List.cons_append, List.nil_append, List.mem_cons, List.not_mem_nil, or_false] at hv
  rcases hv with rfl | rfl | rfl | rfl | rfl | rfl | rfl | rfl | rfl | rfl | rfl | rfl | rfl | rfl | rfl | rfl | rfl | rfl | rfl | rfl | rfl | rfl | rfl | rfl | rfl | rfl | rfl | rfl
  all_goals first
    | exact .non (t := "NoneType") (fun _ => rfl) (fun _ => rfl) (by decide)
    | exact .non (t := "bool") (fun _ => rfl) (fun _ => rfl) (by decide)
    | exact .non (t := "int") (fun _ => rfl) (fun _ => rfl) (by decide)
    | exact .non (t := "tuple") (fun _ => rfl) (fun _ => rfl) (by decide)
    | exact .non (t := "list") (fun _ => rfl) (fun _ => rfl) (by decide)
    | exact .non (t := "dict") (fun _ => rfl) (fun _ => rfl) (by decide)
    | exact .str (by decide +kernel) (by unfold OkT; decide +kernel) (by decide +kernel)
end K50
end
end
section
set_option linter.all false
set_option maxRecDepth 100000
set_option maxHeartbeats 1000000
noncomputable section
namespace K50
open PySem PySem.Spec PyProof.Rows L2 Y
open TL (tl joinL len_tl join_eq tl_join)
/-! law_right on values that are no texts -/
section
variable {v : D} {t : String} (hz : ∀ R, zv R v = v) (ht : ∀ R, tyN R v = some t) (hs : Y.subB t "str" = false)
theorem read_line_odd (K : PySem.W.Frag) {R : Wd} (hz : ∀ R, zv R v = v) (ht : ∀ R, tyN R v = some t) (hs : Y.subB t "str" = false) : wR (g_read_line K [v] R) (fun _ _ => False) (fun c R' => R' = R ∧ c = noText K ∧ True) := by
  unfold g_read_line
  refine w_fn ?_
  show wS (d_read_line K [some v, none] R) _ _ _ _ _
  unfold d_read_line
  refine w_seq (w_set (w_ife (w_tst (w_isi (w_var rfl (hz R) ⟨_, ht R, _, rfl, fun h => (by rw [hs] at h; exact absurd h (by decide)), fun _ => ?_⟩)))))
  refine w_fz (w_nil ?_)
  show wS (dSeq _ _ [some v, some (.lst ([].map D.str))] R) _ _ _ _ _
  refine w_seq (w_ifs (w_not (w_tst (w_callF (w_cons (w_var rfl (zv_lst0 _) (w_cons (w_k (w_nil ⟨rfl, wR_nv (are_names_w K (zv_lst0 _) (lstR_lst _) (by simp) (by simp)) ?_⟩)))))))))
  rintro _ R1 ⟨rfl, hR⟩
  subst hR
  refine ⟨_, rfl, fun h => ?_, fun h => absurd h (by decide)⟩
  exact w_raise (w_cons (w_k (w_nil ⟨sz2 (by simp), Clean.rfl' _, rfl, List.take_length, rfl, trivial⟩)))
theorem read_logs_odd (K : PySem.W.Frag) {R : Wd} (hz : ∀ R, zv R v = v) (ht : ∀ R, tyN R v = some t) (hs : Y.subB t "str" = false) : wR (g_read_logs K [v] R) (fun _ _ => False) (fun c R' => R' = R ∧ c = noText K ∧ True) := by
  unfold g_read_logs
  refine w_fn ?_
  show wS (d_read_logs K [some v, none, none, none, none, none, none] R) _ _ _ _ _
  unfold d_read_logs
  refine w_seq (w_ifs (w_not (w_tst (w_isi (w_var rfl (hz R) ⟨_, ht R, _, rfl, fun _ => ?_, fun h => (by rw [hs] at h; exact absurd h (by decide))⟩)))))
  exact w_raise (w_cons (w_k (w_nil ⟨sz2 (by simp), Clean.rfl' _, rfl, List.take_length, rfl, trivial⟩)))
theorem right_odd_w (K : PySem.W.Frag) (cc : He.SaysD fa fn K) (ce : feB fe K = true) {R : Wd} {w : Nat} (hz : ∀ R, zv R v = v) (ht : ∀ R, tyN R v = some t) (hs : Y.subB t "str" = false) : wR (g__law_right K [.int (w : Int), v] R) (fun y R' => y = .bl true ∧ Y.Ext R R') nvr := by
  unfold g__law_right
  refine w_fn ?_
  show wS (d__law_right K [some (.int (w : Int)), some v, none, none] R) _ _ _ _ _
  unfold d__law_right
  refine w_seq (w_par (w_cons (w_callF (w_cons (w_var rfl (zv_int _) (w_cons (w_var rfl (hz R) (w_nil ⟨rfl, wR_nv (told_w K cc ce (w := w) (P := fun _ _ => False) (hz R) (fun _ => read_line_odd K hz ht hs) (fun _ => read_logs_odd K hz ht hs)) ?_⟩))))))))
  rintro y R1 (hF | ⟨rfl, hR, _⟩)
  · exact hF.elim
  · subst hR
    refine w_cons (w_k (w_nil ⟨_, _, rfl, ?_⟩))
    show wS (dSeq _ _ [some (.int (w : Int)), some v, some (.ref (R.length + 2)), some .non] (kR R)) _ _ _ _ _
    have at_ := told_no (Y.Ext.refl (kR R))
    refine w_seq (w_ifs (w_tst (w_isi (w_var rfl (hz _) ⟨_, ht _, _, rfl, fun h => (by rw [hs] at h; exact absurd h (by decide)), fun _ => w_next ?_⟩))))
    refine w_seq (w_ifs (w_tst (w_bin (w_var rfl rfl (w_k ⟨_, rfl, _, rfl, fun _ => ?_, fun h => absurd h (by decide)⟩)))))
    exact w_ret (w_bin (w_var rfl (zv_lst at_) (w_fz (w_sz (w_cons (w_k (w_nil ⟨by decide, _, gEq_strs (lstR_ref at_) (lstR_lst _) noText_ok noText_ok, by simp, kR_ext R⟩)))))))
end
/-- any value of the law's, both ways -/
theorem right_oddv_w (K : PySem.W.Frag) (cc : He.SaysD fa fn K) (ce : feB fe K = true) {R : Wd} {w : Nat} (hw : w < 2) {v : D} (h : OddV v) : wR (g__law_right K [.int (w : Int), v] R) (fun y R' => y = .bl true ∧ Y.Ext R R') nvr := by
  cases h with
  | non hz ht hs => exact right_odd_w K cc ce hz ht hs
  | @str s h1 h2 h3 =>
    rcases (show w = 0 ∨ w = 1 by omega) with rfl | rfl
    · exact right_line_w K cc ce (by omega) h2
    · refine right_logs_w K cc ce (by omega) h2 ?_
      have := rows_num s
      show (Txt.split s "\n").length < 64
      omega
/-- texts of the law's: signs, length, rows -/
structure Tx (B N : Nat) (s : Str) : Prop where
  ok : OkT s
  len : s.length ≤ B
  nl : nls s ≤ N
theorem right_text_w (K : PySem.W.Frag) (cc : He.SaysD fa fn K) (ce : feB fe K = true) {R : Wd} {w : Nat} (hw : w < 2) {s : Str} {B N : Nat} (h : Tx B N s) (hB : B ≤ 100000) (hN : N ≤ 60) : wR (g__law_right K [.int (w : Int), .str s] R) (fun y R' => y = .bl true ∧ Y.Ext R R') nvr := by
  have h1 := h.len
  have h2 := h.nl
  rcases (show w = 0 ∨ w = 1 by omega) with rfl | rfl
  · exact right_line_w K cc ce (by omega) h.ok
  · refine right_logs_w K cc ce (by omega) h.ok ?_
    have := rows_num s
    show (Txt.split s "\n").length < 64
    omega
end K50
end
end
section
set_option linter.all false
set_option maxRecDepth 100000
set_option maxHeartbeats 1000000
noncomputable section
namespace K50
open PySem PySem.Spec PyProof.Rows L2 Y
open TL (tl joinL len_tl join_eq tl_join)
/-! one change of a text -/
theorem cutY_sub {α : Type} (xs : List α) (lo hi : Option Int) : (cutY xs lo hi).Sublist xs := (List.take_sublist _ _).trans (List.drop_sublist _ _)
theorem sub_sum {α : Type} (f : α → Nat) {a b : List α} (h : a.Sublist b) : (a.map f).sum ≤ (b.map f).sum := by
  induction h with
  | slnil => simp
  | cons x h ih => simp only [List.map_cons, List.sum_cons]; omega
  | cons_cons x h ih => simp only [List.map_cons, List.sum_cons]; omega
theorem cutY_map {α β : Type} (f : α → β) (xs : List α) (lo hi : Option Int) : cutY (xs.map f) lo hi = (cutY xs lo hi).map f := by
  unfold cutY
  rw [List.length_map, List.map_take, List.map_drop]
/-- a list of rows: its signs, its size -/
structure RowsT (S L : Nat) (ts : List Str) : Prop where
  ok : ∀ t ∈ ts, OkT t ∧ nls t = 0
  sum : (ts.map (·.length)).sum ≤ S
  len : ts.length ≤ L
theorem RowsT.app {S L S' L' : Nat} {a b : List Str} (h : RowsT S L a) (k : RowsT S' L' b) : RowsT (S + S') (L + L') (a ++ b) := by
  refine ⟨fun t ht => ?_, ?_, ?_⟩
  · rcases List.mem_append.mp ht with q | q
    · exact h.ok t q
    · exact k.ok t q
  · have := h.sum; have := k.sum
    rw [List.map_append, List.sum_append]; omega
  · have := h.len; have := k.len
    rw [List.length_append]; omega
theorem RowsT.sub {S L : Nat} {a b : List Str} (h : RowsT S L b) (s : a.Sublist b) : RowsT S L a :=
  ⟨fun t ht => h.ok t (s.subset ht), Nat.le_trans (sub_sum _ s) h.sum, Nat.le_trans s.length_le h.len⟩
theorem RowsT.rev {S L : Nat} {b : List Str} (h : RowsT S L b) : RowsT S L b.reverse :=
  ⟨fun t ht => h.ok t (List.mem_reverse.mp ht), by rw [List.map_reverse, List.sum_reverse]; exact h.sum, by rw [List.length_reverse]; exact h.len⟩
theorem RowsT.set {S L : Nat} {b : List Str} (h : RowsT S L b) {k : Nat} {s : Str} (hs : OkT s ∧ nls s = 0) : RowsT (S + s.length) L (b.set k s) := by
  refine ⟨fun t ht => ?_, ?_, by rw [List.length_set]; exact h.len⟩
  · rcases List.mem_or_eq_of_mem_set ht with q | q
    · exact h.ok t q
    · rw [q]; exact hs
  · have := h.sum
    suffices ∀ (l : List Str) (k : Nat), ((l.set k s).map (·.length)).sum ≤ (l.map (·.length)).sum + s.length by have := this b k; omega
    intro l
    induction l with
    | nil => intro k; simp
    | cons x l ih =>
      intro k
      cases k with
      | zero => simp; omega
      | succ k => have := ih k; simp only [List.set_cons_succ, List.map_cons, List.sum_cons]; omega
theorem RowsT.join {S L B N : Nat} {ts : List Str} (h : RowsT S L ts) (hB : S + L ≤ B) (hN : L ≤ N + 1) : Tx B N (Txt.join "\n" ts) := by
  have h1 := h.sum
  have h2 := h.len
  have h3 := join_len "\n" ts
  rw [show ("\n" : Str).length = 1 from rfl] at h3
  have h4 := nls_rows fun s hs => (h.ok s hs).2
  exact ⟨join_okT (by unfold OkT; decide +kernel) fun s hs => (h.ok s hs).1, by omega, by omega⟩
theorem RowsT.jn {S L : Nat} {ts : List Str} {R : Wd} {x : D} (h : RowsT S L ts) (hx : seqOf R x = some (ts.map .str)) (hB : S + L ≤ 1000000) : gJoin R (.str "\n") [x] = some (.str (Txt.join "\n" ts), R) := by
  have h1 := h.sum
  have h2 := h.len
  exact gJoin_ok hx (by rw [show ("\n" : Str).length = 1 from rfl]; omega)
theorem rows_T {B N : Nat} {x : Str} (h : Tx B N x) : RowsT (B + 1) (N + 1) (rowsOf x) := by
  have w := split_wt x "\n" (by decide)
  have := h.len
  refine ⟨fun t ht => ⟨split_okT h.ok ht, rows_free ht⟩, ?_, ?_⟩
  · show ((Txt.split x "\n").map (·.length)).sum ≤ _
    omega
  · have := rows_num x
    have := h.nl
    show (Txt.split x "\n").length ≤ _
    omega
theorem Tx.app {B N B' N' : Nat} {a b : Str} (h : Tx B N a) (k : Tx B' N' b) : Tx (B + B') (N + N') (a ++ b) := by
  have := h.len; have := k.len; have := h.nl; have := k.nl
  exact ⟨app_okT h.ok k.ok, by rw [app_len]; omega, by rw [nls_app]; omega⟩
theorem Tx.cut {B N : Nat} {a : Str} (h : Tx B N a) (lo hi : Option Int) : Tx B N (cutS a lo hi) := by
  have := h.len; have := h.nl; have := cutS_len a lo hi; have := nls_cut a lo hi
  exact ⟨cutS_okT h.ok, by omega, by omega⟩
theorem Tx.mono {B N B' N' : Nat} {a : Str} (h : Tx B N a) (h1 : B ≤ B') (h2 : N ≤ N') : Tx B' N' a := ⟨h.ok, Nat.le_trans h.len h1, Nat.le_trans h.nl h2⟩
theorem word_T {x p s : Str} (hp : p ∈ rowsOf x) (ho : OkT x) (hs : s ∈ wordsOf p) : OkT s ∧ nls s = 0 ∧ s.length ≤ p.length := by
  refine ⟨split_okT (split_okT ho hp) hs, ?_, word_len hs⟩
  refine List.count_eq_zero.mpr fun h => ?_
  have := rows_free hp
  exact (List.count_eq_zero.mp this) (split_mem hs h)
/-- a row with one more word -/
theorem row_T {x p y : Str} (hp : p ∈ rowsOf x) (ho : OkT x) (hy : OkT y ∧ nls y = 0) (hl : y.length ≤ p.length + 9) (k : Nat) :
    (OkT (Txt.join " " ((wordsOf p).take k ++ [y] ++ (wordsOf p).drop k)) ∧ nls (Txt.join " " ((wordsOf p).take k ++ [y] ++ (wordsOf p).drop k)) = 0) ∧
      (((wordsOf p).take k ++ [y] ++ (wordsOf p).drop k).map (·.length)).sum + ((wordsOf p).take k ++ [y] ++ (wordsOf p).drop k).length * 1 ≤ 3 * p.length + 14 ∧ (Txt.join " " ((wordsOf p).take k ++ [y] ++ (wordsOf p).drop k)).length ≤ 3 * p.length + 14 := by
  have w := split_wt p " " (by decide)
  have w : ((wordsOf p).map (·.length)).sum + (wordsOf p).length ≤ p.length + 1 := w
  have a1 := sub_sum (fun s : Str => s.length) (List.take_sublist k (wordsOf p))
  have a2 := sub_sum (fun s : Str => s.length) (List.drop_sublist k (wordsOf p))
  have a3 := (List.take_sublist k (wordsOf p)).length_le
  have a4 := (List.drop_sublist k (wordsOf p)).length_le
  have ws : ∀ s ∈ (wordsOf p).take k ++ [y] ++ (wordsOf p).drop k, OkT s ∧ nls s = 0 := fun s hs => by
    rcases List.mem_append.mp hs with hs | hs
    · rcases List.mem_append.mp hs with hs | hs
      · have := word_T hp ho (List.mem_of_mem_take hs); exact ⟨this.1, this.2.1⟩
      · rw [List.mem_singleton.mp hs]; exact hy
    · have := word_T hp ho (List.mem_of_mem_drop hs); exact ⟨this.1, this.2.1⟩
  have sm : (((wordsOf p).take k ++ [y] ++ (wordsOf p).drop k).map (·.length)).sum + ((wordsOf p).take k ++ [y] ++ (wordsOf p).drop k).length * 1 ≤ 3 * p.length + 14 := by
    simp only [List.map_append, List.sum_append, List.map_cons, List.map_nil, List.sum_cons, List.sum_nil, List.length_append, List.length_cons, List.length_nil]
    omega
  have jl := join_len " " ((wordsOf p).take k ++ [y] ++ (wordsOf p).drop k)
  rw [show (" " : Str).length = 1 from rfl] at jl
  refine ⟨⟨join_okT (by unfold OkT; decide +kernel) fun s hs => (ws s hs).1, ?_⟩, sm, by omega⟩
  have := nls_join " " ((wordsOf p).take k ++ [y] ++ (wordsOf p).drop k)
  rw [sum_zero fun s hs => (ws s hs).2, show nls " " = 0 by decide +kernel] at this
  omega
theorem else_new {i j : Nat} {R R' : Wd} {o : O} (h : Else i R R') (hj : R.length ≤ j) : Else i R (R'.set j o) := fun k p hk e => by
  have : k < R.length := by
    by_cases c : k < R.length
    · exact c
    · rw [List.getElem?_eq_none (by omega)] at e; cases e
  rw [List.getElem?_set_ne (by omega)]
  exact h k p hk e
def signL : List Str := [" ", ":", "a", "z", "A", "0", "`", "{", "\n", "", "-"]
theorem sign_T : ∀ s ∈ signL, Tx 1 1 s := by
  intro s hs
  simp only [signL, List.mem_cons, List.not_mem_nil, or_false] at hs
  rcases hs with rfl | rfl | rfl | rfl | rfl | rfl | rfl | rfl | rfl | rfl | rfl <;> exact ⟨by unfold OkT; decide +kernel, by decide +kernel, by decide +kernel⟩
theorem lit_T : Tx 9 0 "ninechars" ∧ Tx 9 0 "" ∧ Tx 9 0 "qq" ∧ Tx 1 0 ":" ∧ Tx 1 1 "\n" := by
  refine ⟨⟨?_, ?_, ?_⟩, ⟨?_, ?_, ?_⟩, ⟨?_, ?_, ?_⟩, ⟨?_, ?_, ?_⟩, ⟨?_, ?_, ?_⟩⟩ <;> first | (unfold OkT; decide +kernel) | decide +kernel
end K50
end
end
section
set_option linter.all false
set_option maxRecDepth 100000
set_option maxHeartbeats 1000000
noncomputable section
namespace K50
open PySem PySem.Spec PyProof.Rows L2 Y
open TL (tl joinL len_tl join_eq tl_join)
/-! one change of a text: the walk (printed by genchg.py) -/
theorem zv_st {R : Wd} {i n : Nat} (h : StOK R i n) : zv R (.ref i) = .ref i := by obtain ⟨a, b, c, e, _⟩ := h; exact zv_lst e
theorem addS {R : Wd} {a b : Str} {B N B' N' : Nat} (h : Tx B N a) (k : Tx B' N' b) (z : B + B' ≤ 1000000) : gAddX R (.str a) (.str b) = some (.str (a ++ b)) := by
  have h1 := h.len
  have h2 := k.len
  have : a.length + b.length ≤ sizeLine := by rw [sizeLine_eq]; omega
  simp [gAddX, gAdd, this]
theorem w_rev {e : DE} {ρ : Rho} {R : Wd} {Q : List D → Wd → Prop} {E : Exn → Wd → Prop} (h : wR (e ρ R) (fun x R1 => ∃ ss : List Str, lstR R1 x = some (ss.map .str) ∧ Q (ss.reverse.map .str) R1) E) : wR (dRev e ρ R) Q E := by
  refine wR_bind (wR_imp h (fun x R1 h => ?_) fun _ _ h => h)
  obtain ⟨ss, e1, q⟩ := h
  simp only [e1]
  rw [← List.map_reverse]
  exact .ok q
theorem gSl_ref {R : Wd} {i : Nat} {xs : List D} (e : R[i]? = some (.lst xs)) (lo hi : Option Int) : gSl R (.ref i) lo hi = some (.lst (cutY xs lo hi)) := by
  show (lstR R (.ref i)).map _ = _
  rw [lstR_ref e]; rfl
theorem gIx_cs {R : Wd} {i k : Nat} {ss : List Str} {s : Str} (e : R[i]? = some (.lst (ss.map .str))) (h : ss[k]? = some s) : gIx R (.ref i) (.int (k : Int)) = some (.str s) := by
  rw [Y.gIx_cell e, ixL_nat (x := D.str s) (by rw [List.getElem?_map, h]; rfl)]; rfl
theorem gAddX_ref {R : Wd} {i : Nat} {xs ys : List D} (e : R[i]? = some (.lst xs)) (h : xs.length + ys.length ≤ sizeLine) : gAddX R (.ref i) (.lst ys) = some (.lst (xs ++ ys)) := by
  simp [gAddX, gAdd, toL, gAddL, lstOf, e, oLst, h]
theorem gMul2 {R : Wd} (x : D) : gMulX R (.lst [x]) (.int 2) = some (.lst [x, x]) := by
  simp [gMulX, gMul, toL, gMulL, lstOf, sizeLine_eq, List.replicate]
theorem gSet_lst {R : Wd} {i k : Nat} {xs : List D} {z : D} (e : R[i]? = some (.lst xs)) (h : k < xs.length) : gSet R (.ref i) (.int (k : Int)) z = some (R.set i (.lst (xs.set k z))) := by
  have : ixN xs.length (k : Int) = some k := by
    unfold ixN
    rw [if_pos (by omega), if_pos (by omega)]
    rfl
  simp [gSet, e, this]
theorem changed_w (K : PySem.W.Frag) {R : Wd} {i n : Nat} {x : Str} {B N : Nat} (h : StOK R i n) (hn : n + 10 < 10 ^ 9) (t : Tx B N x) (hB : B ≤ 30000) (hN : N ≤ 1000) :
    wR (g__law_changed K [.ref i, .str x] R) (fun y R' => ∃ s, y = .str s ∧ Tx (4 * B + 4 * N + 40) (2 * N + 1) s ∧ StOK R' i (n + 6) ∧ Else i R R') nvr := by
  have tl := t.len
  unfold g__law_changed
  refine w_fn ?_
  show wS (d__law_changed K [some (.ref i), some (.str x), none, none, none, none, none, none, none] R) _ _ _ _ _
  unfold d__law_changed
  have gl (R' : Wd) : gLen R' [.str x] = some (.int (x.length : Int), R') := if_pos (sz2 (by omega))
  have sl (R' : Wd) (lo hi : Option Int) : gSl R' (.str x) lo hi = some (.str (cutS x lo hi)) := if_pos (sz2 (by omega))
  refine w_seq (w_set (w_callF (w_cons (w_var rfl (zv_st h) (w_cons (w_bin (w_call (w_cons (w_var rfl (zv_str x) (w_nil ⟨_, _, gl _, w_k ⟨_, rfl, (w_nil ⟨rfl, pick_w K h (by omega) (by omega) (by omega) fun at_ R1 hat h1 el1 le1 => ?_⟩)⟩⟩))))))))))
  show wS (dSeq _ _ [some (.ref i), some (.str x), some (.int (at_ : Int)), none, none, none, none, none, none] R1) _ _ _ _ _
  refine w_seq (w_set (w_bin (w_fz (w_sz (w_cons (w_k (w_cons (w_k (w_cons (w_k (w_cons (w_k (w_cons (w_k (w_cons (w_k (w_cons (w_k (w_cons (w_k (w_cons (w_k (w_cons (w_k (w_cons (w_k (w_nil ⟨sz2 (by simp), (w_callF (w_cons (w_var rfl (zv_st h1) (w_cons (w_k (w_nil ⟨rfl, pick_w K h1 (by omega) (by omega) (by omega) fun sr R2 hsr h2 el2 le2 => ?_⟩))))))⟩)))))))))))))))))))))))))))
  have el02 := el1.trans el2
  have hsr' : sr < signL.length := by have : signL.length = 11 := rfl; omega
  refine ⟨_, gIx_nat (xs := signL.map .str) (d := .str signL[sr]) (by rw [List.getElem?_map, List.getElem?_eq_getElem hsr']; rfl), ?_⟩
  have hsg := sign_T signL[sr] (List.getElem_mem hsr')
  generalize signL[sr] = sg at hsg
  show wS (dSeq _ _ [some (.ref i), some (.str x), some (.int (at_ : Int)), some (.str sg), none, none, none, none, none] R2) _ _ _ _ _
  have sp := gSplit_ok (R := R2) (a := x) (b := "\n") (by decide +kernel) (by rw [sizeLine_eq]; omega)
  refine w_seq (w_set (w_newLx (w_methG (w_var rfl (zv_str x) ⟨rfl, w_cons (w_k (w_nil ⟨_, sp, fun R3 x3 c4 l3 => ?_⟩))⟩))))
  have c4 : R3[R2.length]? = some (.lst ((rowsOf x).map .str)) := c4
  have h3 := h2.ext x3
  have el03 := el02.trans (Else.ext x3)
  have RT := rows_T t
  have nR := rows_ne x
  have lR : 0 < (rowsOf x).length := List.length_pos_iff.mpr nR
  have lR2 := rows_numL x
  have hj4 : R.length ≤ R2.length := by omega
  generalize hJ4 : R2.length = j4 at c4 l3 hj4 ⊢
  show wS (dSeq _ _ [some (.ref i), some (.str x), some (.int (at_ : Int)), some (.str sg), some (.ref j4), none, none, none, none] R3) _ _ _ _ _
  have gl4 : ∀ {R' : Wd}, R'[j4]? = some (.lst ((rowsOf x).map .str)) → gLen R' [.ref j4] = some (.int ((rowsOf x).length : Int), R') := fun {R'} e => by
    have := gLen_lst (lstR_ref e)
    rwa [List.length_map] at this
  refine w_seq (w_set (w_callF (w_cons (w_var rfl (zv_st h3) (w_cons (w_call (w_cons (w_var rfl (zv_lst c4) (w_nil ⟨_, _, gl4 c4, (w_nil ⟨rfl, pick_w K h3 (by omega) (by omega) (by omega) fun spot R4 hspot h4 el4 le4 => ?_⟩)⟩)))))))))
  have el04 := el03.trans el4
  have c4 := el4 _ _ (st_ne h3 c4) c4
  have hp : (rowsOf x)[spot]? = some (rowsOf x)[spot] := List.getElem?_eq_getElem (by omega)
  have hpm : (rowsOf x)[spot] ∈ rowsOf x := List.getElem_mem (by omega)
  generalize (rowsOf x)[spot] = p at hp hpm
  have lp := row_len hpm
  show wS (dSeq _ _ [some (.ref i), some (.str x), some (.int (at_ : Int)), some (.str sg), some (.ref j4), some (.int (spot : Int)), none, none, none] R4) _ _ _ _ _
  have sp2 := gSplit_ok (R := R4) (a := p) (b := " ") (by decide +kernel) (by rw [sizeLine_eq]; omega)
  refine w_seq (w_set (w_newLx (w_methG (w_bin (w_var rfl (zv_lst c4) (w_var rfl (zv_int _) ⟨_, gIx_cs c4 hp, rfl, w_cons (w_k (w_nil ⟨_, sp2, fun R5 x5 c6 l5 => ?_⟩))⟩))))))
  have c6 : R5[R4.length]? = some (.lst ((wordsOf p).map .str)) := c6
  have h5 := h4.ext x5
  have el05 := el04.trans (Else.ext x5)
  have c4 := x5 _ _ c4
  have hj6 : j4 < R4.length := by omega
  generalize hJ6 : R4.length = j6 at c6 l5 hj6 ⊢
  have lW : 0 < (wordsOf p).length := List.length_pos_iff.mpr (words_ne p)
  have lW2 := words_num p
  have gl6 : gLen R5 [.ref j6] = some (.int ((wordsOf p).length : Int), R5) := by
    have := gLen_lst (lstR_ref c6)
    rwa [List.length_map] at this
  show wS (dSeq _ _ [some (.ref i), some (.str x), some (.int (at_ : Int)), some (.str sg), some (.ref j4), some (.int (spot : Int)), some (.ref j6), none, none] R5) _ _ _ _ _
  refine w_seq (w_set (w_callF (w_cons (w_var rfl (zv_st h5) (w_cons (w_call (w_cons (w_var rfl (zv_lst c6) (w_nil ⟨_, _, gl6, (w_nil ⟨rfl, pick_w K h5 (by omega) (by omega) (by omega) fun place R6 hplace h6 el6 le6 => ?_⟩)⟩)))))))))
  have el06 := el05.trans el6
  have c4 := el6 _ _ (st_ne h5 c4) c4
  have c6 := el6 _ _ (st_ne h5 c6) c6
  have hw : (wordsOf p)[place]? = some (wordsOf p)[place] := List.getElem?_eq_getElem (by omega)
  have hwm : (wordsOf p)[place] ∈ wordsOf p := List.getElem_mem (by omega)
  generalize (wordsOf p)[place] = wd at hw hwm
  show wS (dSeq _ _ [some (.ref i), some (.str x), some (.int (at_ : Int)), some (.str sg), some (.ref j4), some (.int (spot : Int)), some (.ref j6), some (.int (place : Int)), none] R6) _ _ _ _ _
  refine w_seq (w_set (w_newLx (w_sz (w_cons (w_bin (w_bin (w_slice (w_var rfl (zv_str x) (w_partN (w_partS (w_var rfl (zv_int _) ⟨_, rfl, ⟨_, sl _ _ _, (w_var rfl (zv_str sg) ⟨_, addS (t.cut _ _) hsg (by omega), (w_slice (w_var rfl (zv_str x) (w_partS (w_var rfl (zv_int _) ⟨_, rfl, (w_partN ⟨_, sl _ _ _, ⟨_, addS ((t.cut _ _).app hsg) (t.cut _ _) (by omega), (w_cons (w_bin (w_slice (w_var rfl (zv_str x) (w_partN (w_partS (w_var rfl (zv_int _) ⟨_, rfl, ⟨_, sl _ _ _, (w_slice (w_var rfl (zv_str x) (w_partS (w_bin (w_var rfl (zv_int _) (w_k ⟨_, rfl, _, rfl, (w_partN ⟨_, sl _ _ _, ⟨_, addS (t.cut _ _) (t.cut _ _) (by omega), (w_cons (w_bin (w_bin (w_slice (w_var rfl (zv_str x) (w_partN (w_partS (w_var rfl (zv_int _) ⟨_, rfl, ⟨_, sl _ _ _, (w_var rfl (zv_str sg) ⟨_, addS (t.cut _ _) hsg (by omega), (w_slice (w_var rfl (zv_str x) (w_partS (w_bin (w_var rfl (zv_int _) (w_k ⟨_, rfl, _, rfl, (w_partN ⟨_, sl _ _ _, ⟨_, addS ((t.cut _ _).app hsg) (t.cut _ _) (by omega), (w_cons (w_bin (w_var rfl (zv_str x) (w_k ⟨_, addS t lit_T.2.2.2.2 (by omega), (w_nil ⟨sz2 (by simp), fun R7 x7 c8 l7 => ?_⟩)⟩))))⟩⟩)⟩))))))⟩)⟩⟩))))))))⟩⟩)⟩))))))⟩⟩)))))))⟩⟩)⟩))))⟩)⟩⟩)))))))))))
  obtain ⟨A4, eA4, lA4, tA4⟩ : ∃ A : List Str, R7[R6.length]? = some (.lst (A.map .str)) ∧ A.length = 4 ∧ ∀ s ∈ A, Tx (4 * B + 4 * N + 40) (2 * N + 1) s := ⟨[_, _, _, _], c8, rfl, by
    intro s hs
    simp only [List.mem_cons, List.not_mem_nil, or_false] at hs
    rcases hs with rfl | rfl | rfl | rfl
    · exact (((t.cut _ _).app hsg).app (t.cut _ _)).mono (by omega) (by omega)
    · exact ((t.cut _ _).app (t.cut _ _)).mono (by omega) (by omega)
    · exact (((t.cut _ _).app hsg).app (t.cut _ _)).mono (by omega) (by omega)
    · exact (t.app lit_T.2.2.2.2).mono (by omega) (by omega)⟩
  clear c8
  have h7 := h6.ext x7
  have el07 := el06.trans (Else.ext x7)
  have c4 := x7 _ _ c4
  have c6 := x7 _ _ c6
  show wS (dSeq _ _ [some (.ref i), some (.str x), some (.int (at_ : Int)), some (.str sg), some (.ref j4), some (.int (spot : Int)), some (.ref j6), some (.int (place : Int)), some (.ref R6.length)] R7) _ _ _ _ _
  have lo4 : lstOf R7 (.ref j4) = some ((rowsOf x).map .str) := by simp [lstOf, c4, oLst]
  have sl4 (lo hi : Option Int) := gSl_ref c4 lo hi
  have T1 := (RT.sub (cutY_sub (rowsOf x) none (some (spot : Int)))).app (RT.sub (cutY_sub (rowsOf x) (some ((spot : Int) + 1)) none))
  have T2 := RT.rev
  have T3 := RT.app (RT.sub (cutY_sub (rowsOf x) (some (spot : Int)) (some ((spot : Int) + 1))))
  have ad1 : gAddX R7 (.lst (cutY ((rowsOf x).map D.str) none (some (spot : Int)))) (.lst (cutY ((rowsOf x).map D.str) (some ((spot : Int) + 1)) none)) = some (.lst ((cutY (rowsOf x) none (some (spot : Int)) ++ cutY (rowsOf x) (some ((spot : Int) + 1)) none).map .str)) := by
    rw [cutY_map, cutY_map, gAddX_lst, List.map_append]
    rw [List.length_map, List.length_map]
    have a1 := (cutY_sub (rowsOf x) none (some (spot : Int))).length_le
    have a2 := (cutY_sub (rowsOf x) (some ((spot : Int) + 1)) none).length_le
    exact sz2 (by omega)
  have j1 := T1.jn (R := R7) (x := .lst _) (seqOf_lst (lstR_lst _)) (by omega)
  have j2 := T2.jn (R := R7) (x := .lst _) (seqOf_lst (lstR_lst _)) (by omega)
  refine w_seq (w_set (w_newLx (w_binL (w_var rfl (zv_lst eA4) (w_fz (w_sz (w_cons (w_meth (w_k ⟨rfl, w_cons (w_bin (w_slice (w_var rfl (zv_lst c4) (w_partN (w_partS (w_var rfl (zv_int _) ⟨_, rfl, ⟨_, sl4 _ _, (w_slice (w_var rfl (zv_lst c4) (w_partS (w_bin (w_var rfl (zv_int _) (w_k ⟨_, rfl, _, rfl, (w_partN ⟨_, sl4 _ _, ⟨_, ad1, w_nil ⟨_, _, j1, (w_cons (w_meth (w_k ⟨rfl, w_cons (w_fz (w_rev (w_var rfl (zv_lst c4) ⟨_, lstR_ref c4, w_nil ⟨_, _, j2, w_nil ⟨sz2 (by simp), _, gAddL_refY eA4 (by rw [List.length_map, lA4]; exact sz2 (by simp)), fun R8 x8 c8 l8 => ?_⟩⟩⟩)))⟩)))⟩⟩⟩)⟩))))))⟩⟩))))))⟩)))))))))
  obtain ⟨A6, c8, lA6, tA6⟩ : ∃ A : List Str, R8[R7.length]? = some (.lst (A.map .str)) ∧ A.length = 6 ∧ ∀ s ∈ A, Tx (4 * B + 4 * N + 40) (2 * N + 1) s := ⟨A4 ++ [_, _], by rw [List.map_append]; exact c8, by simp [lA4], by
    intro s hs
    rcases List.mem_append.mp hs with hs | hs
    · exact tA4 s hs
    · simp only [List.mem_cons, List.not_mem_nil, or_false] at hs
      rcases hs with rfl | rfl
      · exact T1.join (by omega) (by omega)
      · exact T2.join (by omega) (by omega)⟩
  have h8 := h7.ext x8
  have el08 := el07.trans (Else.ext x8)
  have c4 := x8 _ _ c4
  have c6 := x8 _ _ c6
  have hj8 : j6 < R7.length := by omega
  generalize hJ8 : R7.length = j8 at c8 l8 hj8 ⊢
  show wS (dSeq _ _ [some (.ref i), some (.str x), some (.int (at_ : Int)), some (.str sg), some (.ref j4), some (.int (spot : Int)), some (.ref j6), some (.int (place : Int)), some (.ref j8)] R8) _ _ _ _ _
  have lo8 : lstOf R8 (.ref j4) = some ((rowsOf x).map .str) := by simp [lstOf, c4, oLst]
  have ad3 : gAddX R8 (.ref j4) (.lst (cutY ((rowsOf x).map D.str) (some (spot : Int)) (some ((spot : Int) + 1)))) = some (.lst ((rowsOf x ++ cutY (rowsOf x) (some (spot : Int)) (some ((spot : Int) + 1))).map .str)) := by
    rw [cutY_map, gAddX_ref c4, List.map_append]
    rw [List.length_map, List.length_map]
    have a2 := (cutY_sub (rowsOf x) (some (spot : Int)) (some ((spot : Int) + 1))).length_le
    exact sz2 (by omega)
  have j3 := T3.jn (R := R8) (x := .lst _) (seqOf_lst (lstR_lst _)) (by omega)
  have TJ3 : Tx (4 * B + 4 * N + 40) (2 * N + 1) _ := T3.join (by omega) (by omega)
  generalize hs3 : Txt.join "\n" (rowsOf x ++ cutY (rowsOf x) (some (spot : Int)) (some ((spot : Int) + 1))) = s3 at j3 TJ3
  have ap : gAppend R8 (.ref j8) [.str s3] = some (.non, R8.set j8 (.lst ((A6 ++ [s3]).map .str))) := by
    simp only [gAppend, cellL_ref c8, Option.bind_some]
    rw [if_pos (by rw [List.length_map, lA6, sizeLine_eq]; omega), List.map_append]
    rfl
  refine w_seq (w_exp (w_meth (w_var rfl (zv_lst c8) ⟨tyOf_cell c8, w_cons (w_meth (w_k ⟨rfl, w_cons (w_bin (w_var rfl (zv_lst c4) (w_slice (w_var rfl (zv_lst c4) (w_partS (w_var rfl (zv_int _) ⟨_, rfl, (w_partS (w_bin (w_var rfl (zv_int _) (w_k ⟨_, rfl, _, rfl, ⟨_, gSl_ref c4 _ _, ⟨_, ad3, w_nil ⟨_, _, j3, w_nil ⟨_, _, ap, ?_⟩⟩⟩⟩⟩))))⟩))))))⟩))⟩)))
  have n8 := st_ne h8 c8
  have h9 := h8.set (o := .lst ((A6 ++ [s3]).map .str)) n8
  have el09 := else_new (o := .lst ((A6 ++ [s3]).map .str)) el08 (show R.length ≤ j8 by omega)
  have c4 : (R8.set j8 (.lst ((A6 ++ [s3]).map .str)))[j4]? = some (.lst ((rowsOf x).map .str)) := by rw [List.getElem?_set_ne (by omega)]; exact c4
  have c6 : (R8.set j8 (.lst ((A6 ++ [s3]).map .str)))[j6]? = some (.lst ((wordsOf p).map .str)) := by rw [List.getElem?_set_ne (by omega)]; exact c6
  have c8 : (R8.set j8 (.lst ((A6 ++ [s3]).map .str)))[j8]? = some (.lst ((A6 ++ [s3]).map .str)) := List.getElem?_set_self (by omega)
  have lA7 : (A6 ++ [s3]).length = 7 := by simp [lA6]
  have tA7 : ∀ s ∈ A6 ++ [s3], Tx (4 * B + 4 * N + 40) (2 * N + 1) s := fun s hs => by
    rcases List.mem_append.mp hs with hs | hs
    · exact tA6 s hs
    · rw [List.mem_singleton.mp hs]; exact TJ3
  generalize A6 ++ [s3] = A7 at c8 lA7 tA7 h9 el09 c4 c6 ⊢
  generalize R8.set j8 (.lst (A7.map .str)) = R9 at c8 h9 el09 c4 c6 ⊢
  have wT := word_T hpm t.ok hwm
  have wX : Tx p.length 0 wd := ⟨wT.1, wT.2.2, by rw [wT.2.1]; omega⟩
  have cln : Tx 1 0 ":" := lit_T.2.2.2.1
  show wS (dSeq _ _ [some (.ref i), some (.str x), some (.int (at_ : Int)), some (.str sg), some (.ref j4), some (.int (spot : Int)), some (.ref j6), some (.int (place : Int)), some (.ref j8)] R9) _ _ _ _ _
  refine w_seq (w_exp (w_meth (w_var rfl (zv_lst c6) ⟨tyOf_cell c6, w_cons (w_var rfl (zv_int _) (w_cons (w_bin (w_fz (w_sz (w_cons (w_bin (w_var rfl (zv_lst c6) (w_var rfl (zv_int _) ⟨_, gIx_cs c6 hw, (w_cons (w_k (w_cons (w_bin (w_bin (w_var rfl (zv_lst c6) (w_var rfl (zv_int _) ⟨_, gIx_cs c6 hw, w_k ⟨_, addS wX cln (by omega), (w_cons (w_k (w_cons (w_k (w_nil ⟨sz2 (by simp), (w_callF (w_cons (w_var rfl (zv_st h9) (w_cons (w_k (w_nil ⟨rfl, pick_w K h9 (by omega) (by omega) (by omega) fun pk R10 hpk hA elA leA => ?_⟩))))))⟩)))))⟩⟩)))))))⟩)))))))))⟩)))
  obtain ⟨y, hy, yT, yl⟩ : ∃ y, ([wd, "ninechars", wd ++ ":", "", "qq"] : List Str)[pk]? = some y ∧ (OkT y ∧ nls y = 0) ∧ y.length ≤ p.length + 9 := by
    have hk : pk < ([wd, "ninechars", wd ++ ":", "", "qq"] : List Str).length := by show pk < 5; omega
    refine ⟨_, List.getElem?_eq_getElem hk, ?_⟩
    have hm := List.getElem_mem hk
    generalize ([wd, "ninechars", wd ++ ":", "", "qq"] : List Str)[pk] = y at hm
    have go : ∀ {b : Nat}, Tx b 0 y → b ≤ p.length + 9 → (OkT y ∧ nls y = 0) ∧ y.length ≤ p.length + 9 := fun {b} q hb => ⟨⟨q.ok, Nat.le_zero.mp q.nl⟩, Nat.le_trans q.len hb⟩
    simp only [List.mem_cons, List.not_mem_nil, or_false] at hm
    rcases hm with rfl | rfl | rfl | rfl | rfl
    · exact go wX (by omega)
    · exact go lit_T.1 (by omega)
    · exact go (wX.app cln) (by omega)
    · exact go lit_T.2.1 (by omega)
    · exact go lit_T.2.2.1 (by omega)
  have el10 := el09.trans elA
  have c4 := elA _ _ (st_ne h9 c4) c4
  have c6 := elA _ _ (st_ne h9 c6) c6
  have c8 := elA _ _ (st_ne h9 c8) c8
  have ins : gInsert R10 (.ref j6) [.int (place : Int), .str y] = some (.non, R10.set j6 (.lst (((wordsOf p).take place ++ [y] ++ (wordsOf p).drop place).map .str))) := by
    simp only [gInsert, cellL_ref c6, Option.bind_some]
    rw [if_pos ⟨by rw [List.length_map, sizeLine_eq]; omega, by omega, by omega⟩]
    simp
  refine ⟨_, gIx_nat (xs := ([wd, "ninechars", wd ++ ":", "", "qq"] : List Str).map .str) (d := .str y) (by rw [List.getElem?_map, hy]; rfl), w_nil ⟨_, _, ins, ?_⟩⟩
  obtain ⟨rT, rS, rL⟩ := row_T hpm t.ok yT yl place
  have n6 := st_ne hA c6
  have h11 := hA.set (o := .lst (((wordsOf p).take place ++ [y] ++ (wordsOf p).drop place).map .str)) n6
  have el11 := else_new (o := .lst (((wordsOf p).take place ++ [y] ++ (wordsOf p).drop place).map .str)) el10 (show R.length ≤ j6 by omega)
  have l10 : j6 < R10.length := by
    by_cases c : j6 < R10.length
    · exact c
    · rw [List.getElem?_eq_none (by omega)] at c6; cases c6
  generalize (wordsOf p).take place ++ [y] ++ (wordsOf p).drop place = W1 at rT rS rL h11 el11 ⊢
  have c4 : (R10.set j6 (.lst (W1.map .str)))[j4]? = some (.lst ((rowsOf x).map .str)) := by rw [List.getElem?_set_ne (by omega)]; exact c4
  have c8 : (R10.set j6 (.lst (W1.map .str)))[j8]? = some (.lst (A7.map .str)) := by rw [List.getElem?_set_ne (by omega)]; exact c8
  have c6 : (R10.set j6 (.lst (W1.map .str)))[j6]? = some (.lst (W1.map .str)) := List.getElem?_set_self l10
  generalize R10.set j6 (.lst (W1.map .str)) = R11 at c4 c6 c8 h11 el11 ⊢
  have j5 := gJoin_ok (R := R11) (a := " ") (x := .ref j6) (ss := W1) (seqOf_lst (lstR_ref c6)) (by rw [show (" " : Str).length = 1 from rfl]; omega)
  generalize Txt.join " " W1 = rw1 at rT rL j5
  have st := gSet_lst (z := .str rw1) c4 (k := spot) (by rw [List.length_map]; omega)
  show wS (dSeq _ _ [some (.ref i), some (.str x), some (.int (at_ : Int)), some (.str sg), some (.ref j4), some (.int (spot : Int)), some (.ref j6), some (.int (place : Int)), some (.ref j8)] R11) _ _ _ _ _
  refine w_seq (w_put (w_meth (w_k ⟨rfl, w_cons (w_var rfl (zv_lst c6) (w_nil ⟨_, _, j5, w_var rfl (zv_lst c4) (w_var rfl (zv_int _) ⟨_, st, ?_⟩)⟩))⟩)))
  have n4 := st_ne h11 c4
  have h12 := h11.set (o := .lst (((rowsOf x).map D.str).set spot (.str rw1))) n4
  have el12 := else_new (o := .lst (((rowsOf x).map D.str).set spot (.str rw1))) el11 (show R.length ≤ j4 by omega)
  have l11 : j4 < R11.length := by
    by_cases c : j4 < R11.length
    · exact c
    · rw [List.getElem?_eq_none (by omega)] at c4; cases c4
  have eset : ((rowsOf x).map D.str).set spot (.str rw1) = ((rowsOf x).set spot rw1).map .str := by rw [List.map_set]
  rw [eset] at h12 el12 ⊢
  have TR := RT.set (k := spot) rT
  generalize (rowsOf x).set spot rw1 = RW at TR h12 el12 ⊢
  have c8 : (R11.set j4 (.lst (RW.map .str)))[j8]? = some (.lst (A7.map .str)) := by rw [List.getElem?_set_ne (by omega)]; exact c8
  have c4 : (R11.set j4 (.lst (RW.map .str)))[j4]? = some (.lst (RW.map .str)) := List.getElem?_set_self l11
  generalize R11.set j4 (.lst (RW.map .str)) = R12 at c4 c8 h12 el12 ⊢
  have j7 := TR.jn (R := R12) (x := .ref j4) (seqOf_lst (lstR_ref c4)) (by omega)
  have TF : Tx (4 * B + 4 * N + 40) (2 * N + 1) _ := TR.join (by omega) (by omega)
  generalize Txt.join "\n" RW = sF at j7 TF
  have ad6 : gAddX R12 (.ref j8) (.lst [.str sF, .str sF]) = some (.lst ((A7 ++ [sF, sF]).map .str)) := by
    rw [gAddX_ref c8 (by rw [List.length_map, lA7]; exact sz2 (by simp)), List.map_append]; rfl
  show wS (dRet _ [some (.ref i), some (.str x), some (.int (at_ : Int)), some (.str sg), some (.ref j4), some (.int (spot : Int)), some (.ref j6), some (.int (place : Int)), some (.ref j8)] R12) _ _ _ _ _
  refine w_ret (w_bin (w_bin (w_var rfl (zv_lst c8) (w_bin (w_fz (w_sz (w_cons (w_meth (w_k ⟨rfl, w_cons (w_var rfl (zv_lst c4) (w_nil ⟨_, _, j7, w_nil ⟨sz2 (by simp), w_k ⟨_, gMul2 _, _, ad6, (w_callF (w_cons (w_var rfl (zv_st h12) (w_cons (w_k (w_nil ⟨rfl, pick_w K h12 (by omega) (by omega) (by omega) fun q R13 hq hZ elZ leZ => ?_⟩))))))⟩⟩⟩))⟩)))))))))
  have hl : q < (A7 ++ [sF, sF]).length := by rw [List.length_append, lA7]; show q < 9; omega
  refine ⟨_, gIx_nat (xs := (A7 ++ [sF, sF]).map .str) (d := .str (A7 ++ [sF, sF])[q]) (by rw [List.getElem?_map, List.getElem?_eq_getElem hl]; rfl), _, rfl, ?_, hZ, el12.trans elZ⟩
  rcases List.mem_append.mp (List.getElem_mem hl) with hs | hs
  · exact tA7 _ hs
  · simp only [List.mem_cons, List.not_mem_nil, or_false, or_self] at hs
    rw [hs]; exact TF
end K50
end
end
section
set_option linter.all false
set_option maxRecDepth 100000
set_option maxHeartbeats 1000000
noncomputable section
namespace K50
open PySem PySem.Spec PyProof.Rows L2 Y
open TL (tl joinL len_tl join_eq tl_join)
/-! the logs that are drawn, their text -/
structure LogsP (P : LP) : Prop where
  num : P.length ≤ 6
  each : ∀ p ∈ P, IsName p.1 ∧ p.2.length ≤ 5 ∧ ∀ s ∈ p.2, IsName s
theorem pA_freshP {P : LP} {n : Str} {es : List Str} (h : n ∉ P.map (·.1)) : pA (Sum.inr n : Key) (.lst (es.map .str)) (dkP P) = dkP (P ++ [(n, es)]) := by
  rw [pA_fresh h, dkP_app]; rfl
theorem logs_w (K : PySem.W.Frag) {R : Wd} {i n : Nat} (h : StOK R i n) (hn : n + 20000 < 10 ^ 9) :
    wR (g__law_logs K [.ref i, .int 6, .int 5] R) (fun x R' => ∃ f P, x = .ref f ∧ R'[f]? = some (.dK (dkP P)) ∧ LogsP P ∧ 1 ≤ P.length ∧ StOK R' i (n + 200) ∧ Else i R R' ∧ R.length ≤ f) nvr := by
  unfold g__law_logs
  refine w_fn ?_
  show wS (d__law_logs K [some (.ref i), some (.int 6), some (.int 5), none, none, none, none, none, none] R) _ _ _ _ _
  unfold d__law_logs
  refine w_seq (w_set (w_callF (w_cons (w_var rfl (zv_st h) (w_cons (w_bin (w_k (w_callF (w_cons (w_var rfl (zv_st h) (w_cons (w_var rfl (zv_int _) (w_nil ⟨rfl, ?_⟩)))))))))))))
  refine pick_w K h (by omega) (by omega) (by omega) fun r R1 hr st1 el1 le1 => ⟨.int (1 + (r : Int)), rfl, w_nil ⟨rfl, ?_⟩⟩
  have e1 : (1 + (r : Int)) = ((1 + r : Nat) : Int) := by push_cast; rfl
  rw [e1]
  refine wR_nv (names_w K st1 (m := 1 + r) (by omega) (by omega)) ?_
  rintro _ R2 ⟨names, rfl, nl, nnd, nnm, st2, el2⟩
  have el2 := el1.trans el2
  have le2 := len_le st2 el2
  have n0 : names ≠ [] := fun e => by subst e; simp at nl; omega
  have nnm : ∀ s ∈ names, IsName s := fun s hs => pool_name s (nnm s hs)
  refine w_seq (w_set (w_newKx (w_nilK ?_)))
  intro R3 x3 c3 l3
  have st3 := st2.ext x3
  have el3 := el2.trans (Else.ext x3)
  have c3 : R3[R2.length]? = some (.dK (dkP [])) := c3
  generalize hf : R2.length = f at *
  have hfR : R.length ≤ f := by omega
  refine w_seq ?_
  refine w_lockS (x := .lst (names.map .str)) (xs := names.map .str) rfl rfl ?_
  refine w_for (w_itsL (w_var rfl (zv_lst0 _) ⟨_, rfl, by rw [List.length_map, sizeLine_eq]; omega, ?_⟩))
  refine w_forD (fun l ρ R' => ∃ (P : LP) (rest : List Str) (a b d e : Option D), l = rest.map .str ∧ names = P.map (·.1) ++ rest ∧ ρ = [some (.ref i), some (.int 6), some (.int 5), some (.lst (names.map .str)), some (.ref f), a, b, d, e] ∧
    R'[f]? = some (.dK (dkP P)) ∧ (∀ p ∈ P, IsName p.1 ∧ p.2.length ≤ 5 ∧ ∀ s ∈ p.2, IsName s) ∧ StOK R' i (n + 20 + P.length * 10) ∧ Else i R R') _ (fun _ _ _ _ => trivial) ⟨[], names, none, none, none, none, rfl, rfl, rfl, c3, (fun p hp => nomatch hp), st3.mono (by simp; omega), el3⟩ ?_ ?_
  · rintro ρ R4 ⟨P, rest, a, b, d, e, hr, hd, rfl, c4, b4, st4, el4⟩
    have hr : rest = [] := by simpa using hr.symm
    subst hr
    have pl : P.length = names.length := by rw [hd]; simp
    exact w_ret (w_var rfl (zv_dK c4) ⟨f, P, rfl, c4, ⟨by omega, b4⟩, by omega, st4.mono (by omega), el4, hfR⟩)
  · rintro y l ρ R4 ⟨P, rest, a, b, d, e, hr, hd, rfl, c4, b4, st4, el4⟩
    cases rest with
    | nil => simp at hr
    | cons nm rest =>
    simp only [List.map_cons, List.cons.injEq] at hr
    obtain ⟨rfl, rfl⟩ := hr
    refine ⟨_, rfl, ?_⟩
    have hlen : P.length + rest.length + 1 = names.length := by rw [hd]; simp; omega
    have hnm : nm ∉ P.map (·.1) := fun hin => by
      rw [hd] at nnd
      exact (List.nodup_append.mp nnd).2.2 nm hin nm List.mem_cons_self rfl
    have inm : IsName nm := nnm nm (by rw [hd]; simp)
    refine w_seq (w_set (w_callF (w_cons (w_var rfl (zv_st st4) (w_cons (w_bin (w_var rfl (zv_int _) (w_k ⟨.int 6, rfl, w_nil ⟨rfl, ?_⟩⟩))))))))
    refine pick_w K st4 (by omega) (by omega) (by omega) fun many R5 hmany st5 el5 le5 => ?_
    refine w_seq (w_put (w_fz (w_lc (w_rng1 (w_var rfl (zv_int _) ⟨many, rfl, by omega, ?_⟩)))))
    refine draws_w K st5 (by omega) n0 (by omega) (fun _ => rfl) (fun _ => rfl) fun es R6 hes hmem st6 el6 le6 => ?_
    have el46 := el5.trans el6
    have c6 := el46 _ _ (st_neK st4 c4) c4
    have dl : (dkP P).length = P.length := by simp [dkP]
    refine w_var rfl (zv_dK c6) (w_var rfl (zv_str _) ⟨_, gSet_dK c6 nm _ (by rw [dl, sizeLine_eq]; omega), ?_⟩)
    rw [pA_freshP hnm]
    have st7 := st6.set (o := .dK (dkP (P ++ [(nm, es)]))) (st_neK st6 c6)
    have el7 := else_new (o := .dK (dkP (P ++ [(nm, es)]))) (el4.trans el46) hfR
    have fl : f < R6.length := by
      by_cases c : f < R6.length
      · exact c
      · rw [List.getElem?_eq_none (by omega)] at c6; cases c6
    have c7 : (R6.set f (.dK (dkP (P ++ [(nm, es)]))))[f]? = some (.dK (dkP (P ++ [(nm, es)]))) := List.getElem?_set_self fl
    have gt : gGt (R6.set f (.dK (dkP (P ++ [(nm, es)])))) (.int (many : Int)) (.int 9) = some (.bl (decide ((many : Int) > 9))) := rfl
    refine w_ifs (w_tst (w_bin (w_var rfl (zv_int _) (w_k ⟨_, gt, _, rfl, fun h9 => by simp at h9; omega, fun _ => w_next ⟨P ++ [(nm, es)], rest, _, _, _, _, rfl, by rw [hd]; simp, rfl, c7, fun p hp => ?_, st7.mono ?_, el7⟩⟩))))
    · rcases List.mem_append.mp hp with hp | hp
      · exact b4 p hp
      · rw [List.mem_singleton.mp hp]
        exact ⟨inm, by show es.length ≤ 5; omega, fun s hs => nnm s (hmem s hs)⟩
    · simp; omega
theorem gSorted_dkP {R : Wd} {f : Nat} {P : LP} (e : R[f]? = some (.dK (dkP P))) (h : P.length < 64) : gSorted R [.ref f] = some ((sortStr (P.map (·.1))).map .str) := by
  simp only [gSorted, lstR_dK e, dkOf_ref e, keyStrs_dkP]
  rw [if_pos (by rw [List.length_map]; exact h)]
theorem gA_mem {P : LP} {n : Str} (h : n ∈ P.map (·.1)) : ∃ es, (n, es) ∈ P ∧ gA (Sum.inr n : Key) (dkP P) = some (.lst (es.map .str)) := by
  induction P with
  | nil => cases h
  | cons p P ih =>
    by_cases c : p.1 = n
    · subst c
      exact ⟨p.2, List.mem_cons_self, by show (if (Sum.inr p.1 : Key) = Sum.inr p.1 then _ else _) = _; rw [if_pos rfl]⟩
    · have h : n ∈ P.map (·.1) := by
        rcases List.mem_cons.mp h with h | h
        · exact absurd h.symm c
        · exact h
      obtain ⟨es, h1, h2⟩ := ih h
      refine ⟨es, List.mem_cons_of_mem _ h1, ?_⟩
      show (if (Sum.inr p.1 : Key) = Sum.inr n then _ else gA (Sum.inr n : Key) (dkP P)) = _
      rw [if_neg fun z => c (Sum.inr.inj z)]
      exact h2
theorem name_T {s : Str} (h : IsName s) : OkT s ∧ nls s = 0 := ⟨name_okT h, List.count_eq_zero.mpr fun hc => by have := (name_chars h 10 hc).1; omega⟩
theorem logs_text_w (K : PySem.W.Frag) {R : Wd} {f : Nat} {P : LP} (e : R[f]? = some (.dK (dkP P))) (g : LogsP P) : wR (g__law_logs_text K [.ref f] R) (fun y R' => ∃ s, y = .str s ∧ Tx 1000 5 s ∧ R' = R) nvr := by
  unfold g__law_logs_text
  refine w_fn ?_
  show wS (d__law_logs_text K [some (.ref f), none] R) _ _ _ _ _
  unfold d__law_logs_text
  have num := g.num
  have sl : (sortStr (P.map (·.1))).length = P.length := by rw [(sortStr_perm _).length_eq, List.length_map]
  refine w_ret (w_meth (w_k ⟨rfl, w_cons (w_fz (w_lc (w_its (w_fz (w_callG (w_cons (w_var rfl (zv_dK e) (w_nil ⟨_, gSorted_dkP e (by omega), _, itsOf_lst (lstR_lst _), by rw [List.length_map, sl]; exact sz2 (by omega), ?_⟩))))))))⟩))
  refine w_lcI (fun k acc R' => R' = R ∧ ∃ ts : List Str, acc = ts.map .str ∧ ts.length = k ∧ ∀ t ∈ ts, (OkT t ∧ nls t = 0) ∧ t.length ≤ 100) ⟨rfl, [], rfl, rfl, fun t ht => nomatch ht⟩ (fun k acc R' h => trivial) (fun k y acc R' hy h => ?_) (fun ys R' h => ?_)
  · obtain ⟨rfl, ts, rfl, hl, hts⟩ := h
    rw [List.getElem?_map] at hy
    obtain ⟨n, hn, rfl⟩ := Option.map_eq_some_iff.mp hy
    have hm : n ∈ P.map (·.1) := (sortStr_perm _).mem_iff.mp (List.mem_of_getElem? hn)
    obtain ⟨es, hp, ge⟩ := gA_mem hm
    obtain ⟨i1, i2, i3⟩ := g.each _ hp
    have i1 : IsName n := i1
    have i3 : ∀ s ∈ es, IsName s := i3
    have ad : gAddX R' (.str n) (.str ":") = some (.str (n ++ ":")) := by
      have : n.length + (":" : Str).length ≤ sizeLine := by rw [show (":" : Str).length = 1 from rfl, sizeLine_eq]; have := i1.2.1; omega
      simp [gAddX, gAdd, this]
    have ix : gIx R' (.ref f) (.str n) = some (.lst (es.map .str)) := by
      rw [gIx_dK e (q := Sum.inr n) rfl, ge, Option.map_some, zv_lst0]
    have i2 : es.length ≤ 5 := i2
    have ad2 : gAddX R' (.lst [.str (n ++ ":")]) (.lst (es.map .str)) = some (.lst (((n ++ ":") :: es).map .str)) := by
      rw [gAddX_lst (by simp; exact sz2 (by omega))]; rfl
    have nl := name_len i3
    have i1l := i1.2.1
    have ln : (n ++ ":" : Str).length = n.length + 1 := by rw [app_len]; rfl
    have sm : (((n ++ ":") :: es).map (·.length)).sum + ((n ++ ":") :: es).length * 1 ≤ 100 := by
      simp only [List.map_cons, List.sum_cons, List.length_cons, ln]
      have : (es.map (·.length)).sum ≤ 40 := by have : (es.map (·.length)).sum ≤ 8 * es.length := nl; omega
      omega
    have j2 := gJoin_ok (R := R') (a := " ") (x := .lst (((n ++ ":") :: es).map .str)) (ss := (n ++ ":") :: es) (seqOf_lst (lstR_lst _)) (by
      rw [show (" " : Str).length = 1 from rfl]
      omega)
    have ws : ∀ s ∈ (n ++ ":") :: es, OkT s ∧ nls s = 0 := fun s hs => by
      rcases List.mem_cons.mp hs with rfl | hs
      · refine ⟨app_okT (name_okT i1) lit_T.2.2.2.1.ok, ?_⟩
        rw [nls_app, (name_T i1).2, show nls ":" = 0 by decide +kernel]
      · exact name_T (i3 s hs)
    have nj := nls_join " " ((n ++ ":") :: es)
    rw [sum_zero fun s hs => (ws s hs).2, show nls " " = 0 by decide +kernel] at nj
    have jl := join_len " " ((n ++ ":") :: es)
    rw [show (" " : Str).length = 1 from rfl] at jl
    refine ⟨_, rfl, w_meth (w_k ⟨rfl, w_cons (w_bin (w_fz (w_sz (w_cons (w_bin (w_var rfl (zv_str _) (w_k ⟨_, ad, w_nil ⟨sz2 (by simp), w_bin (w_var rfl (zv_dK e) (w_var rfl (zv_str _) ⟨_, ix, _, ad2, w_nil ⟨_, _, j2, rfl, ts ++ [_], by rw [List.map_append]; rfl, by simp [hl], fun t ht => ?_⟩⟩))⟩⟩)))))))⟩)⟩
    rcases List.mem_append.mp ht with ht | ht
    · exact hts t ht
    · rw [List.mem_singleton.mp ht]
      exact ⟨⟨join_okT (by unfold OkT; decide +kernel) fun s hs => (ws s hs).1, by omega⟩, by omega⟩
  · obtain ⟨rfl, ts, rfl, hl, hts⟩ := h
    rw [List.length_map, sl] at hl
    have sm := sum_le (f := fun t : Str => t.length) (k := 100) (l := ts) fun t ht => (hts t ht).2
    have T : RowsT 600 6 ts := ⟨fun t ht => (hts t ht).1, by omega, by omega⟩
    exact w_nil ⟨_, _, T.jn (seqOf_lst (lstR_lst _)) (by omega), _, rfl, T.join (by omega) (by omega), rfl⟩
end K50
end
end
section
set_option linter.all false
set_option maxRecDepth 100000
set_option maxHeartbeats 1000000
noncomputable section
namespace K50
open PySem PySem.Spec PyProof.Rows L2 Y
open TL (tl joinL len_tl join_eq tl_join)
/-! the law -/
theorem gIx_sign {R : Wd} {z : Str} {j : Nat} (hz : z.length ≤ 1000) (h : j < z.length) : ∃ c, c ∈ tl z ∧ gIx R (.str z) (.int (j : Int)) = some (.str ⟨#[c]⟩) := by
  have hl : j < z.cps.toList.length := by rw [← len_tl]; exact h
  refine ⟨z.cps.toList[j], List.getElem_mem hl, ?_⟩
  show (ixY R (.str z) (.int (j : Int))).map (zv R) = _
  simp only [ixY]
  rw [if_pos (sz2 (by omega)), ixL_nat (List.getElem?_eq_getElem hl)]
  rfl
theorem sign_Tx {z : Str} {c : Nat} (hz : OkT z) (hn : nls z = 0) (h : c ∈ tl z) : Tx 1 0 ⟨#[c]⟩ := by
  refine ⟨fun d hd => ?_, Nat.le_refl _, ?_⟩
  · have : d = c := by simpa [tl] using hd
    rw [this]; exact hz c h
  · have h10 : c ≠ 10 := fun e => by
      subst e
      exact (List.count_eq_zero.mp hn) h
    show List.count 10 [c] ≤ 0
    simp [List.count_cons, h10]
/-- the pairs of the first loop -/
def GI (d : D) : Prop := ∃ (w : Nat) (s : Str), d = .tup [.int (w : Int), .str s] ∧ w < 2 ∧ Tx 100000 60 s
theorem GI.mk {w : Nat} {s : Str} {B N : Nat} (hw : w < 2) (h : Tx B N s) (hB : B ≤ 100000) (hN : N ≤ 60) : GI (.tup [.int (w : Int), .str s]) := ⟨w, s, rfl, hw, h.mono hB hN⟩
def BB : Nat → Nat | 0 => 1000 | 1 => 4060 | 2 => 16324 | _ => 65428
def NN : Nat → Nat | 0 => 5 | 1 => 11 | 2 => 23 | _ => 47
theorem BB_step {j : Nat} (h : j < 3) : BB j ≤ 30000 ∧ NN j ≤ 1000 ∧ 4 * BB j + 4 * NN j + 40 ≤ BB (j + 1) ∧ 2 * NN j + 1 ≤ NN (j + 1) := by
  rcases (show j = 0 ∨ j = 1 ∨ j = 2 by omega) with rfl | rfl | rfl <;> decide
theorem BB_end {j : Nat} (h : j ≤ 3) : BB j ≤ 100000 ∧ NN j ≤ 60 := by
  rcases (show j = 0 ∨ j = 1 ∨ j = 2 ∨ j = 3 by omega) with rfl | rfl | rfl | rfl <;> decide
theorem pick2 {R : Wd} {w : Nat} (hw : w < 2) (b : Bool) : ∃ j : Nat, j < 2 ∧ gIx R (.lst [.int (w : Int), .int (1 - (w : Int))]) (.int (if b then 1 else 0)) = some (.int (j : Int)) := by
  rcases (show w = 0 ∨ w = 1 by omega) with rfl | rfl <;> cases b
  · exact ⟨0, by omega, by rw [gIx_lst]; rfl⟩
  · exact ⟨1, by omega, by rw [gIx_lst]; rfl⟩
  · exact ⟨1, by omega, by rw [gIx_lst]; rfl⟩
  · exact ⟨0, by omega, by rw [gIx_lst]; rfl⟩
theorem two_texts {R : Wd} {s0 s1 : Str} {B N : Nat} (h0 : Tx B N s0) (h1 : Tx B N s1) {j : Nat} (hj : j < 2) : ∃ s, gIx R (.lst [.str s0, .str s1]) (.int (j : Int)) = some (.str s) ∧ Tx B N s := by
  rcases (show j = 0 ∨ j = 1 by omega) with rfl | rfl
  · exact ⟨s0, by rw [gIx_lst]; rfl, h0⟩
  · exact ⟨s1, by rw [gIx_lst]; rfl, h1⟩
theorem min3 (R : Wd) (t : Nat) : ∃ m : Nat, m ≤ 3 ∧ gMinX R [.int (t : Int), .int 3] = some (.int (m : Int), R) := by
  have e : gMinX R [.int (t : Int), .int 3] = some (.int (if (3 : Int) < (t : Int) then 3 else (t : Int)), R) := rfl
  by_cases c : (3 : Int) < (t : Int)
  · exact ⟨3, by omega, by rw [e, if_pos c]; rfl⟩
  · exact ⟨t, by omega, by rw [e, if_neg c]⟩
theorem k_of {n k : Nat} {y : D} (h : (rngD 0 n)[k]? = some y) : y = .int (k : Int) ∧ k < n := by
  have hk : k < n := Nat.lt_of_lt_of_eq (List.getElem?_eq_some_iff.mp h).1 (rngD_len 0 n)
  refine ⟨?_, hk⟩
  rw [rngD_get 0 n hk] at h
  simpa using h.symm
theorem ab_mul {R : Wd} (n : Nat) (h : n ≤ 1000) : gMulX R (.lst [.str "ab"]) (.int (n : Int)) = some (.lst ((List.replicate n ("ab" : Str)).map .str)) := by
  have e : (List.replicate n [D.str "ab"]).flatten = (List.replicate n ("ab" : Str)).map .str := by
    rw [List.map_replicate]
    induction n with
    | zero => rfl
    | succ n ih => rw [List.replicate_succ, List.replicate_succ, List.flatten_cons, ih (by omega)]; rfl
  have c1 : -(2 ^ 63 : Int) ≤ (n : Int) := by omega
  have c2 : (n : Int) < 2 ^ 63 := by omega
  have c3 : [D.str "ab"].length * ((n : Int)).toNat ≤ sizeLine := by rw [sizeLine_eq]; simp; omega
  show (match gMul R (.lst [.str "ab"]) (.int (n : Int)) with
    | some z => some z
    | none => toL gMulL R (.lst [.str "ab"]) (.int (n : Int))) = _
  simp only [gMul, toL, gMulL, lstOf]
  rw [if_pos ⟨c1, c2, c3⟩]
  simp only [Int.toNat_natCast, e]
  rfl
theorem ab_T (n : Nat) (h : n ≤ 1000) : Tx 3000 0 (Txt.join " " (List.replicate n ("ab" : Str))) ∧ ((List.replicate n ("ab" : Str)).map (·.length)).sum + (List.replicate n ("ab" : Str)).length * 1 ≤ 3000 := by
  have sm : ((List.replicate n ("ab" : Str)).map (·.length)).sum = 2 * n := by
    clear h
    induction n with
    | zero => rfl
    | succ n ih =>
      rw [List.replicate_succ, List.map_cons, List.sum_cons, ih, show ("ab" : Str).length = 2 from rfl]
      omega
  have s2 : ((List.replicate n ("ab" : Str)).map (·.length)).sum + (List.replicate n ("ab" : Str)).length * 1 ≤ 3000 := by rw [sm, List.length_replicate]; omega
  have jl := join_len " " (List.replicate n ("ab" : Str))
  rw [show (" " : Str).length = 1 from rfl] at jl
  have nj := nls_join " " (List.replicate n ("ab" : Str))
  rw [sum_zero fun s hs => by rw [(List.mem_replicate.mp hs).2]; decide +kernel, show nls " " = 0 by decide +kernel] at nj
  exact ⟨⟨join_okT (by unfold OkT; decide +kernel) fun s hs => by rw [(List.mem_replicate.mp hs).2]; unfold OkT; decide +kernel, by omega, by omega⟩, s2⟩
def rD : D → D
  | .str t => .str (t ++ ":")
  | d => d
theorem names_part {R : Wd} {ρ : Rho} (h : ρ.length = 16) {Q : List D → Wd → Prop} (q : ∀ ts : List Str, ts.length = 41 → (∀ t ∈ ts, Tx 3 0 t) → Q (ts.map .str) R) :
    ∃ ys R2, lcD (.nm 11) (fun _ => True) dYes (dBin gAddX (dBin gAddX (Y.dK (.str "n")) (dBin gIx (Y.dK (.str "abc")) (dBin gDiv (dVar 11) (Y.dK (.int 20))))) (dBin gIx (Y.dK (.str "abcdefghijklmnopqrst")) (dBin gMod (dVar 11) (Y.dK (.int 20))))) (rngD 0 41) ρ R = some (ys, R2) ∧ Q ys R2 := by
  refine w_lcI (fun k acc R' => R' = R ∧ ∃ ts : List Str, acc = ts.map .str ∧ ts.length = k ∧ ∀ t ∈ ts, Tx 3 0 t) ⟨rfl, [], rfl, rfl, fun t ht => nomatch ht⟩ (fun _ _ _ _ => trivial) (fun k y acc R' hy hI => ?_) (fun ys R' hI => ?_)
  · obtain ⟨rfl, ts, rfl, hl, hts⟩ := hI
    obtain ⟨rfl, hk⟩ := k_of hy
    have gd : gDiv R' (.int (k : Int)) (.int 20) = some (.int ((k / 20 : Nat) : Int)) := by
      show (if (0 : Int) < 20 ∧ ((20 : Int).natAbs.log2 < 9000) then some (D.int ((k : Int) / 20)) else none) = _
      rw [if_pos (by decide)]
      rfl
    have gm : gMod R' (.int (k : Int)) (.int 20) = some (.int ((k % 20 : Nat) : Int)) := by
      show (if (0 : Int) < 20 then some (D.int ((k : Int) % 20)) else none) = _
      rw [if_pos (by decide)]
      rfl
    obtain ⟨c1, m1, i1⟩ := gIx_sign (R := R') (z := "abc") (j := k / 20) (by decide) (by show k / 20 < 3; omega)
    obtain ⟨c2, m2, i2⟩ := gIx_sign (R := R') (z := "abcdefghijklmnopqrst") (j := k % 20) (by decide) (by show k % 20 < 20; omega)
    have T1 := sign_Tx (by unfold OkT; decide +kernel) (by decide +kernel) m1
    have T2 := sign_Tx (by unfold OkT; decide +kernel) (by decide +kernel) m2
    have Tn : Tx 1 0 "n" := ⟨by unfold OkT; decide +kernel, by decide +kernel, by decide +kernel⟩
    have e11 : (ρ.set 11 (some (D.int (k : Int))))[11]? = some (some (.int (k : Int))) := List.getElem?_set_self (by omega)
    refine ⟨_, rfl, w_bin (w_bin (w_k (w_bin (w_k (w_bin (w_var e11 (zv_int _) (w_k ⟨_, gd, _, i1, _, addS Tn T1 (by omega), w_bin (w_k (w_bin (w_var e11 (zv_int _) (w_k ⟨_, gm, _, i2, _, addS (Tn.app T1) T2 (by omega), rfl, ts ++ [_], by rw [List.map_append]; rfl, by simp [hl], fun t ht => ?_⟩))))⟩)))))))⟩
    rcases List.mem_append.mp ht with ht | ht
    · exact hts t ht
    · rw [List.mem_singleton.mp ht]; exact (Tn.app T1).app T2
  · obtain ⟨rfl, ts, rfl, hl, hts⟩ := hI
    rw [rngD_len] at hl
    exact q ts hl hts
end K50
end
end
section
set_option linter.all false
set_option maxRecDepth 100000
set_option maxHeartbeats 1000000
noncomputable section
namespace K50
open PySem PySem.Spec PyProof.Rows L2 Y
open TL (tl joinL len_tl join_eq tl_join)
theorem zv2 (R R' : Wd) (d : D) (h : OddV d) : zv R' (zv R d) = d := by
  cases h with
  | str => rfl
  | non hz _ _ => rw [hz, hz]
/-! the drawn values, both ways (printed by ways_src.py) -/
theorem ways_w (K : PySem.W.Frag) (cc : He.SaysD fa fn K) (ce : feB fe K = true) {R : Wd} {i c0 : Nat} {s0 s1 : Str} (h : StOK R i c0) (hc : c0 + 5000 < 10 ^ 9) (t0 : Tx 1000 5 s0) (t1 : Tx 1000 5 s1) {o0 o1 o2 o3 o4 o5 o6 o8 o9 o11 o12 o13 o14 o15 : Option D} {B' C' : Rho → Wd → Prop} {T : D → Wd → Prop} {F : Exn → Rho → Wd → Prop} :
    wS ((dFor (.nm 4) (dRng1 (Y.dK (.int 2))) (dFor (.nm 13) (dRng1 (Y.dK (.int 8))) (dSeq (dSet 5 (dBin gIx (dVar 10) (dBin gIx (dFz (dSz (dCons (dVar 4) (dCons (dBin gSub (Y.dK (.int 1)) (dVar 4)) (dNil))))) (dCall gInt (dCons (dBin gEq (dVar 13) (Y.dK (.int 7))) (dNil)))))) (dSeq (dFor (.nm 14) (dRng1 (dCall gMinX (dCons (dVar 13) (dCons (Y.dK (.int 3)) (dNil))))) (dSet 5 (dCallF 2 (g__law_changed K) (dCons (dVar 7) (dCons (dVar 5) (dNil)))))) (dSeq (dSet 15 (dCallF 1 (g__law_odd K) (dCons (dVar 7) (dNil)))) (dIfS (dOr (dNot (dTst (dCallF 2 (g__law_right K) (dCons (dVar 4) (dCons (dVar 5) (dNil)))))) (dNot (dTst (dCallF 2 (g__law_right K) (dCons (dVar 4) (dCons (dVar 15) (dNil))))))) (dRet (Y.dK (.bl false))) (dNext))))))) [o0, o1, o2, o3, o4, o5, o6, some (.ref i), o8, o9, some (.lst [.str s0, .str s1]), o11, o12, o13, o14, o15] R) (fun ρ R' => ∃ p4 p5 p13 p14 p15, ρ = [o0, o1, o2, o3, p4, p5, o6, some (.ref i), o8, o9, some (.lst [.str s0, .str s1]), o11, o12, p13, p14, p15]) T B' C' F := by
  refine w_for (w_rng1 (w_k ⟨2, rfl, by omega, ?_⟩))
  refine w_forI (fun k ρ R' => ∃ p4 p5 p13 p14 p15, ρ = [o0, o1, o2, o3, p4, p5, o6, some (.ref i), o8, o9, some (.lst [.str s0, .str s1]), o11, o12, p13, p14, p15] ∧ ∃ c, StOK R' i c ∧ c + 300 * (2 - k) ≤ c0 + 600) _ (fun _ _ _ _ => trivial) ⟨_, _, _, _, _, rfl, c0, h, by omega⟩ ?_ ?_
  · rintro ρ R' ⟨p4, p5, p13, p14, p15, rfl, _⟩
    exact ⟨_, _, _, _, _, rfl⟩
  · rintro w y ρ R1 hy ⟨p4, p5, p13, p14, p15, rfl, c1, h1, hc1⟩
    obtain ⟨rfl, hw⟩ := k_of hy
    refine ⟨_, rfl, ?_⟩
    show wS ((dFor (.nm 13) (dRng1 (Y.dK (.int 8))) (dSeq (dSet 5 (dBin gIx (dVar 10) (dBin gIx (dFz (dSz (dCons (dVar 4) (dCons (dBin gSub (Y.dK (.int 1)) (dVar 4)) (dNil))))) (dCall gInt (dCons (dBin gEq (dVar 13) (Y.dK (.int 7))) (dNil)))))) (dSeq (dFor (.nm 14) (dRng1 (dCall gMinX (dCons (dVar 13) (dCons (Y.dK (.int 3)) (dNil))))) (dSet 5 (dCallF 2 (g__law_changed K) (dCons (dVar 7) (dCons (dVar 5) (dNil)))))) (dSeq (dSet 15 (dCallF 1 (g__law_odd K) (dCons (dVar 7) (dNil)))) (dIfS (dOr (dNot (dTst (dCallF 2 (g__law_right K) (dCons (dVar 4) (dCons (dVar 5) (dNil)))))) (dNot (dTst (dCallF 2 (g__law_right K) (dCons (dVar 4) (dCons (dVar 15) (dNil))))))) (dRet (Y.dK (.bl false))) (dNext)))))) [o0, o1, o2, o3, some (.int (w : Int)), p5, o6, some (.ref i), o8, o9, some (.lst [.str s0, .str s1]), o11, o12, p13, p14, p15] R1) _ _ _ _ _
    refine w_for (w_rng1 (w_k ⟨8, rfl, by omega, ?_⟩))
    refine w_forI (fun k ρ R' => ∃ p5 p13 p14 p15, ρ = [o0, o1, o2, o3, some (.int (w : Int)), p5, o6, some (.ref i), o8, o9, some (.lst [.str s0, .str s1]), o11, o12, p13, p14, p15] ∧ ∃ c, StOK R' i c ∧ c + 30 * (8 - k) ≤ c1 + 240) _ (fun _ _ _ _ => trivial) ⟨_, _, _, _, rfl, c1, h1, by omega⟩ ?_ ?_
    · rintro ρ R' ⟨p5, p13, p14, p15, rfl, c2, h2, hc2⟩
      rw [rngD_len] at hc2
      exact ⟨_, _, _, _, _, rfl, c2, h2, by omega⟩
    · rintro tn y ρ R2 hy2 ⟨p5, p13, p14, p15, rfl, c2, h2, hc2⟩
      obtain ⟨rfl, htn⟩ := k_of hy2
      refine ⟨_, rfl, ?_⟩
      show wS (dSeq _ _ [o0, o1, o2, o3, some (.int (w : Int)), p5, o6, some (.ref i), o8, o9, some (.lst [.str s0, .str s1]), o11, o12, some (.int (tn : Int)), p14, p15] R2) _ _ _ _ _
      have geq : gEq R2 (.int (tn : Int)) (.int 7) = some (.bl (decide ((tn : Int) = 7))) := rfl
      have gin (b : Bool) : gInt R2 [.bl b] = some (.int (if b then 1 else 0), R2) := rfl
      have gsb : gSub R2 (.int 1) (.int (w : Int)) = some (.int (1 - (w : Int))) := rfl
      obtain ⟨j, hj, ij⟩ := pick2 (R := R2) hw (decide ((tn : Int) = 7))
      obtain ⟨s, is, ts⟩ := two_texts (R := R2) t0 t1 hj
      refine w_seq (w_set (w_bin (w_var rfl (zv_lst0 _) (w_bin (w_fz (w_sz (w_cons (w_var rfl (zv_int _) (w_cons (w_bin (w_k (w_var rfl (zv_int _) ⟨_, gsb, w_nil ⟨sz2 (by simp), w_call (w_cons (w_bin (w_var rfl (zv_int _) (w_k ⟨_, geq, w_nil ⟨_, _, gin _, _, ij, _, is, ?_⟩⟩))))⟩⟩))))))))))))
      show wS (dSeq _ _ [o0, o1, o2, o3, some (.int (w : Int)), some (.str s), o6, some (.ref i), o8, o9, some (.lst [.str s0, .str s1]), o11, o12, some (.int (tn : Int)), p14, p15] R2) _ _ _ _ _
      obtain ⟨m, hm, gmn⟩ := min3 R2 tn
      refine w_seq (w_for (w_rng1 (w_call (w_cons (w_var rfl (zv_int _) (w_cons (w_k (w_nil ⟨_, _, gmn, m, rfl, by omega, ?_⟩))))))))
      refine w_forI (fun k ρ R' => ∃ p14 s, ρ = [o0, o1, o2, o3, some (.int (w : Int)), some (.str s), o6, some (.ref i), o8, o9, some (.lst [.str s0, .str s1]), o11, o12, some (.int (tn : Int)), p14, p15] ∧ Tx (BB k) (NN k) s ∧ StOK R' i (c2 + 6 * k)) _ (fun _ _ _ _ => trivial) ⟨_, s, rfl, ts, h2⟩ ?_ ?_
      · rintro ρ R3 ⟨p14, s, rfl, ts, h3⟩
        rw [rngD_len] at ts h3
        have be := BB_end hm
        refine w_seq (w_set (w_callF (w_cons (w_var rfl (zv_st h3) (w_nil ⟨rfl, wR_nv (odd_w K h3 (by omega)) ?_⟩)))))
        rintro od R4 ⟨d, hd, rfl, h4, el4⟩
        have ov := odd_all d hd
        show wS (dIfS _ _ _ [o0, o1, o2, o3, some (.int (w : Int)), some (.str s), o6, some (.ref i), o8, o9, some (.lst [.str s0, .str s1]), o11, o12, some (.int (tn : Int)), p14, some (zv R4 d)] R4) _ _ _ _ _
        refine w_ifs (w_or (w_not (w_tst (w_callF (w_cons (w_var rfl (zv_int _) (w_cons (w_var rfl (zv_str s) (w_nil ⟨rfl, wR_nv (right_text_w K cc ce hw ts be.1 be.2) ?_⟩)))))))))
        rintro _ R5 ⟨rfl, x5⟩
        refine ⟨_, rfl, fun _ => ?_, fun h => absurd h (by decide)⟩
        refine w_not (w_tst (w_callF (w_cons (w_var rfl (zv_int _) (w_cons (w_var rfl (zv2 R4 R5 d ov) (w_nil ⟨rfl, wR_nv (right_oddv_w K cc ce hw ov) ?_⟩)))))))
        rintro _ R6 ⟨rfl, x6⟩
        exact ⟨_, rfl, fun h => absurd h (by decide), fun _ => w_next ⟨_, _, _, _, rfl, c2 + 6 * m + 1, (h4.ext x5).ext x6, by omega⟩⟩
      · rintro k y ρ R3 hy3 ⟨p14, s, rfl, ts, h3⟩
        obtain ⟨rfl, hk⟩ := k_of hy3
        refine ⟨_, rfl, ?_⟩
        obtain ⟨b1, b2, b3, b4⟩ := BB_step (show k < 3 by omega)
        refine w_set (w_callF (w_cons (w_var rfl (zv_st h3) (w_cons (w_var rfl (zv_str s) (w_nil ⟨rfl, wR_nv (changed_w K h3 (by omega) ts b1 b2) ?_⟩))))))
        rintro _ R4 ⟨s', rfl, ts', h4, el4⟩
        exact ⟨_, s', rfl, ts'.mono b3 b4, h4.mono (by omega)⟩
end K50
end
end
section
set_option linter.all false
set_option maxRecDepth 100000
set_option maxHeartbeats 1000000
noncomputable section
namespace K50
open PySem PySem.Spec PyProof.Rows L2 Y
open TL (tl joinL len_tl join_eq tl_join)
/-! the law, joined -/
theorem mul401 : MulOk " b" 401 := by unfold MulOk; decide +kernel
theorem mul400 : MulOk " b" 400 := by unfold MulOk; decide +kernel
theorem mT401 : Tx 3000 0 (Txt.mul " b" 401) := ⟨by unfold OkT; decide +kernel, by decide +kernel, by decide +kernel⟩
theorem mT400 : Tx 3000 0 (Txt.mul " b" 400) := ⟨by unfold OkT; decide +kernel, by decide +kernel, by decide +kernel⟩
theorem gMulS_ok {R : Wd} {a : Str} {k : Int} (h : MulOk a k) : gMulS R (.str a) (.int k) = some (.str (Txt.mul a k)) := if_pos h
theorem lits : Tx 5 0 "" ∧ Tx 5 0 ":" ∧ Tx 5 0 "a: " ∧ Tx 5 0 "a:" ∧ Tx 5 0 "a" := by
  refine ⟨⟨?_, ?_, ?_⟩, ⟨?_, ?_, ?_⟩, ⟨?_, ?_, ?_⟩, ⟨?_, ?_, ?_⟩, ⟨?_, ?_, ?_⟩⟩ <;> first | (unfold OkT; decide +kernel) | decide +kernel
/-- the drawn line -/
theorem line_part (K : PySem.W.Frag) {R : Wd} {i c f m : Nat} {P : LP} {ρ : Rho} (h : StOK R i c) (hc : c + 100 < 10 ^ 9) (e : R[f]? = some (.dK (dkP P))) (g : LogsP P) (hP : 1 ≤ P.length) (hm : m ≤ 12) (hlen : ρ.length = 16)
    (h7 : ∀ y, (ρ.set 13 (some y))[7]? = some (some (.ref i))) (h8 : ∀ y, (ρ.set 13 (some y))[8]? = some (some (.ref f))) {Q : List D → Wd → Prop} (q : ∀ (ts : List Str) R', ts.length = m → (∀ t ∈ ts, IsName t) → StOK R' i (c + m) → Else i R R' → Q (ts.map .str) R') :
    ∃ ys R2, lcD (.nm 13) (fun _ => True) dYes (dBin gIx (dFz (dCallG gSorted (dCons (dVar 8) dNil))) (dCallF 2 (g__law_pick K) (dCons (dVar 7) (dCons (dCall gLen (dCons (dVar 8) dNil)) dNil)))) (rngD 0 m) ρ R = some (ys, R2) ∧ Q ys R2 := by
  have num := g.num
  refine w_lcI (fun k acc R' => ∃ ts : List Str, acc = ts.map .str ∧ ts.length = k ∧ (∀ t ∈ ts, IsName t) ∧ StOK R' i (c + k) ∧ Else i R R') ⟨[], rfl, rfl, (fun t ht => nomatch ht), h, Else.refl _ _⟩ (fun _ _ _ _ => trivial) (fun k y acc R' hy hI => ?_) (fun ys R' hI => ?_)
  · obtain ⟨ts, rfl, hl, hts, h', el⟩ := hI
    obtain ⟨rfl, hk⟩ := k_of hy
    have e' := el _ _ (st_neK h e) e
    have sl : (sortStr (P.map (·.1))).length = P.length := by rw [(sortStr_perm _).length_eq, List.length_map]
    have gl : gLen R' [.ref f] = some (.int (P.length : Int), R') := by
      rw [gLen_dK e']
      simp [dkP]
    refine ⟨_, rfl, w_bin (w_fz (w_callG (w_cons (w_var (h8 _) (zv_dK e') (w_nil ⟨_, gSorted_dkP e' (by omega), w_callF (w_cons (w_var (h7 _) (zv_st h') (w_cons (w_call (w_cons (w_var (h8 _) (zv_dK e') (w_nil ⟨_, _, gl, w_nil ⟨rfl, pick_w K h' (by omega) (by omega) (by omega) fun r R2 hr h2 el2 _ => ?_⟩⟩)))))))⟩)))))⟩
    have hr' : r < (sortStr (P.map (·.1))).length := by rw [sl]; omega
    refine ⟨.str (sortStr (P.map (·.1)))[r], gIx_nat (xs := (sortStr (P.map (·.1))).map .str) (d := .str (sortStr (P.map (·.1)))[r]) (by rw [List.getElem?_map, List.getElem?_eq_getElem hr']; rfl), ts ++ [_], by rw [List.map_append]; rfl, by simp [hl], fun t ht => ?_, h2, el.trans el2⟩
    rcases List.mem_append.mp ht with ht | ht
    · exact hts t ht
    · rw [List.mem_singleton.mp ht]
      have := (sortStr_perm (P.map (·.1))).mem_iff.mp (List.getElem_mem hr')
      obtain ⟨p, hp, e1⟩ := List.mem_map.mp this
      rw [← e1]
      exact (g.each p hp).1
  · obtain ⟨ts, rfl, hl, hts, h', el⟩ := hI
    rw [rngD_len] at hl
    rw [rngD_len] at h'
    exact q ts R' hl hts h' el
end K50
end
end
section
set_option linter.all false
set_option maxRecDepth 100000
set_option maxHeartbeats 1000000
noncomputable section
namespace K50
open PySem PySem.Spec PyProof.Rows L2 Y
open TL (tl joinL len_tl join_eq tl_join)
/-! the law (printed by lawgen.py) -/
theorem law_w (K : PySem.W.Frag) (cc : He.SaysD fa fn K) (ce : feB fe K = true) (zs : List Int) (hz : zs.length ≤ 63) : wR (g_law K [.sl (zs.map .int)] []) (fun x _ => x = .bl true) nvr := by
  unfold g_law
  refine w_fn ?_
  show wS (d_law K [some (.sl (zs.map .int)), none, none, none, none, none, none, none, none, none, none, none, none, none, none, none] []) _ _ _ _ _
  unfold d_law
  refine w_seq (w_set (w_fz (w_lc (w_rng1 (w_k ⟨41, rfl, by omega, names_part rfl fun ts htl hts => ?_⟩)))))
  show wS (dSeq _ _ [some (.sl (zs.map .int)), some (.lst (ts.map .str)), none, none, none, none, none, none, none, none, none, none, none, none, none, none] []) _ _ _ _ _
  refine w_seq (w_lockS (x := .lst (ts.map .str)) rfl (lstR_lst _) (w_set (w_fz (w_lc (w_itsL (w_var rfl (zv_lst0 _) ⟨_, lstR_lst _, by rw [List.length_map]; exact sz2 (by omega), ?_⟩))))))
  refine w_map rD (show okAt [] (.lst (ts.map .str)) [] from trivial) (fun y hy => ?_) ?_
  · obtain ⟨t, ht, rfl⟩ := List.mem_map.mp hy
    exact ⟨_, rfl, w_bin (w_var rfl (zv_str t) (w_k ⟨_, addS (hts t ht) lit_T.2.2.2.1 (by omega), rfl, rfl⟩))⟩
  have er : (ts.map D.str).map rD = (ts.map fun t : Str => (t ++ ":" : Str)).map .str := by rw [List.map_map, List.map_map]; rfl
  rw [er]
  obtain ⟨rs, ers, RT⟩ : ∃ rs : List Str, rs = (ts.map fun t : Str => (t ++ ":" : Str)) ∧ RowsT 164 41 rs := ⟨_, rfl, by
    have each : ∀ r ∈ ts.map fun t : Str => (t ++ ":" : Str), Tx 4 0 r := fun r hr => by
      obtain ⟨t, ht, rfl⟩ := List.mem_map.mp hr
      exact (hts t ht).app lit_T.2.2.2.1
    have sm := sum_le (f := fun t : Str => t.length) (k := 4) fun r hr => (each r hr).len
    rw [List.length_map] at sm
    exact ⟨fun r hr => ⟨(each r hr).ok, Nat.le_zero.mp (each r hr).nl⟩, by omega, by rw [List.length_map]; omega⟩⟩
  rw [← ers]
  show wS (dSeq _ _ [some (.sl (zs.map .int)), some (.lst (ts.map .str)), some (.lst (rs.map .str)), none, none, none, none, none, none, none, none, none, none, none, none, none] []) _ _ _ _ _
  have m401 (R : Wd) : gMulX R (.lst [.str "ab"]) (.int 401) = _ := ab_mul 401 (by omega)
  have m400 (R : Wd) : gMulX R (.lst [.str "ab"]) (.int 400) = _ := ab_mul 400 (by omega)
  have j401 := gJoin_ok (R := []) (a := " ") (x := .lst ((List.replicate 401 ("ab" : Str)).map .str)) (ss := List.replicate 401 ("ab" : Str)) (seqOf_lst (lstR_lst _)) (by have := (ab_T 401 (by omega)).2; rw [show (" " : Str).length = 1 from rfl]; omega)
  have j400 := gJoin_ok (R := []) (a := " ") (x := .lst ((List.replicate 400 ("ab" : Str)).map .str)) (ss := List.replicate 400 ("ab" : Str)) (seqOf_lst (lstR_lst _)) (by have := (ab_T 400 (by omega)).2; rw [show (" " : Str).length = 1 from rfl]; omega)
  have jr := RT.jn (R := []) (x := .lst (rs.map .str)) (seqOf_lst (lstR_lst _)) (by omega)
  have RT1 := RT.sub (List.tail_sublist rs)
  have slr : gSl [] (.lst (rs.map .str)) (some 1) none = some (.lst (rs.tail.map .str)) := by
    simp only [gSl, lstR_lst, Option.map_some, cutY_tail, List.map_tail]
  have jr1 := RT1.jn (R := []) (x := .lst (rs.tail.map .str)) (seqOf_lst (lstR_lst _)) (by omega)
  refine w_seq (w_set (w_fz (w_sz (w_cons (w_tup (w_sz (w_cons (w_k (w_cons (w_meth (w_k ⟨rfl, w_cons (w_bin (w_fz (w_sz (w_cons (w_k (w_nil ⟨sz2 (by simp), w_k ⟨_, m401 _, w_nil ⟨_, _, j401, (w_nil ⟨sz2 (by simp), (w_cons (w_tup (w_sz (w_cons (w_k (w_cons (w_meth (w_k ⟨rfl, w_cons (w_bin (w_fz (w_sz (w_cons (w_k (w_nil ⟨sz2 (by simp), w_k ⟨_, m400 _, w_nil ⟨_, _, j400, (w_nil ⟨sz2 (by simp), (w_cons (w_tup (w_sz (w_cons (w_k (w_cons (w_meth (w_k ⟨rfl, w_cons (w_var rfl (zv_lst0 _) (w_nil ⟨_, _, jr, (w_nil ⟨sz2 (by simp), (w_nil ⟨sz2 (by simp), ?_⟩)⟩)⟩))⟩))))))))⟩)⟩⟩⟩))))))⟩))))))))⟩)⟩⟩⟩))))))⟩)))))))))))
  obtain ⟨G3, e3, g3⟩ : ∃ G : List D, G = [.tup [.int 0, .str (Txt.join " " (List.replicate 401 ("ab" : Str)))], .tup [.int 0, .str (Txt.join " " (List.replicate 400 ("ab" : Str)))], .tup [.int 1, .str (Txt.join "\n" rs)]] ∧ ∀ d ∈ G, GI d := ⟨_, rfl, by
    intro d hd
    simp only [List.mem_cons, List.not_mem_nil, or_false] at hd
    rcases hd with rfl | rfl | rfl
    · exact GI.mk (w := 0) (by omega) (ab_T 401 (by omega)).1 (by omega) (by omega)
    · exact GI.mk (w := 0) (by omega) (ab_T 400 (by omega)).1 (by omega) (by omega)
    · exact GI.mk (w := 1) (by omega) (RT.join (B := 300) (N := 40) (by omega) (by omega)) (by omega) (by omega)⟩
  show wS (dSeq _ _ [some (.sl (zs.map .int)), some (.lst (ts.map .str)), some (.lst (rs.map .str)), some (.lst [.tup [.int 0, .str (Txt.join " " (List.replicate 401 ("ab" : Str)))], .tup [.int 0, .str (Txt.join " " (List.replicate 400 ("ab" : Str)))], .tup [.int 1, .str (Txt.join "\n" rs)]]), none, none, none, none, none, none, none, none, none, none, none, none] []) _ _ _ _ _
  rw [← e3]
  have l3 : G3.length = 3 := by rw [e3]; rfl
  refine w_seq (w_set (w_bin (w_var rfl (zv_lst0 _) (w_fz (w_sz (w_cons (w_tup (w_sz (w_cons (w_k (w_cons (w_meth (w_k ⟨rfl, w_cons (w_slice (w_var rfl (zv_lst0 _) (w_partS (w_k ⟨_, rfl, w_partN ⟨_, slr, w_nil ⟨_, _, jr1, (w_nil ⟨sz2 (by simp), (w_cons (w_tup (w_sz (w_cons (w_k (w_cons (w_bin (w_k (w_bin (w_k (w_k ⟨_, gMulS_ok mul401, _, addS lits.2.2.2.1 mT401 (by omega), (w_nil ⟨sz2 (by simp), (w_cons (w_tup (w_sz (w_cons (w_k (w_cons (w_bin (w_k (w_bin (w_k (w_k ⟨_, gMulS_ok mul400, _, addS lits.2.2.2.1 mT400 (by omega), (w_nil ⟨sz2 (by simp), (w_cons (w_tup (w_sz (w_cons (w_k (w_cons (w_k (w_nil ⟨sz2 (by simp), (w_cons (w_tup (w_sz (w_cons (w_k (w_cons (w_k (w_nil ⟨sz2 (by simp), (w_nil ⟨sz2 (by simp), _, gAddX_lst (by rw [l3]; exact sz2 (by simp)), ?_⟩)⟩))))))))⟩))))))))⟩)⟩)))))))))))⟩)⟩)))))))))))⟩)⟩⟩⟩))))⟩)))))))))))))
  obtain ⟨G8, e8, g8⟩ : ∃ G : List D, G = G3 ++ [.tup [.int 1, .str (Txt.join "\n" rs.tail)], .tup [.int 1, .str ("a:" ++ Txt.mul " b" 401)], .tup [.int 1, .str ("a:" ++ Txt.mul " b" 400)], .tup [.int 0, .str ""], .tup [.int 1, .str ""]] ∧ ∀ d ∈ G, GI d := ⟨_, rfl, by
    intro d hd
    rcases List.mem_append.mp hd with hd | hd
    · exact g3 d hd
    simp only [List.mem_cons, List.not_mem_nil, or_false] at hd
    rcases hd with rfl | rfl | rfl | rfl | rfl
    · exact GI.mk (w := 1) (by omega) (RT1.join (B := 300) (N := 40) (by omega) (by omega)) (by omega) (by omega)
    · exact GI.mk (w := 1) (by omega) (lits.2.2.2.1.app mT401) (by omega) (by omega)
    · exact GI.mk (w := 1) (by omega) (lits.2.2.2.1.app mT400) (by omega) (by omega)
    · exact GI.mk (w := 0) (by omega) lits.1 (by omega) (by omega)
    · exact GI.mk (w := 1) (by omega) lits.1 (by omega) (by omega)⟩
  show wS (dSeq _ _ [some (.sl (zs.map .int)), some (.lst (ts.map .str)), some (.lst (rs.map .str)), some (.lst (G3 ++ [.tup [.int 1, .str (Txt.join "\n" rs.tail)], .tup [.int 1, .str ("a:" ++ Txt.mul " b" 401)], .tup [.int 1, .str ("a:" ++ Txt.mul " b" 400)], .tup [.int 0, .str ""], .tup [.int 1, .str ""]])), none, none, none, none, none, none, none, none, none, none, none, none] []) _ _ _ _ _
  rw [← e8]
  have l8 : G8.length = 8 := by rw [e8, List.length_append, l3]; rfl
  refine w_seq (w_for (w_its (w_bin (w_var rfl (zv_lst0 _) (w_fz (w_sz (w_cons (w_tup (w_sz (w_cons (w_k (w_cons (w_k (w_nil ⟨sz2 (by simp), (w_cons (w_tup (w_sz (w_cons (w_k (w_cons (w_k (w_nil ⟨sz2 (by simp), (w_cons (w_tup (w_sz (w_cons (w_k (w_cons (w_k (w_nil ⟨sz2 (by simp), (w_cons (w_tup (w_sz (w_cons (w_k (w_cons (w_k (w_nil ⟨sz2 (by simp), (w_nil ⟨sz2 (by simp), _, gAddX_lst (by rw [l8]; exact sz2 (by simp)), _, itsOf_lst (lstR_lst _), by simp only [List.length_append, l8]; exact sz2 (by simp), ?_⟩)⟩))))))))⟩))))))))⟩))))))))⟩))))))))))))))
  refine w_forD (fun l ρ R => (∀ d ∈ l, GI d) ∧ ∃ p4 p5, ρ = [some (.sl (zs.map .int)), some (.lst (ts.map .str)), some (.lst (rs.map .str)), some (.lst G8), p4, p5, none, none, none, none, none, none, none, none, none, none]) _ (fun _ _ _ _ => trivial) ⟨?_, none, none, rfl⟩ ?_ ?_
  · intro d hd
    rcases List.mem_append.mp hd with hd | hd
    · exact g8 d hd
    simp only [List.mem_cons, List.not_mem_nil, or_false] at hd
    rcases hd with rfl | rfl | rfl | rfl
    · exact GI.mk (w := 1) (by omega) lits.2.1 (by omega) (by omega)
    · exact GI.mk (w := 1) (by omega) lits.2.2.1 (by omega) (by omega)
    · exact GI.mk (w := 0) (by omega) lits.2.2.2.1 (by omega) (by omega)
    · exact GI.mk (w := 1) (by omega) lits.2.2.2.2 (by omega) (by omega)
  · rintro ρ R ⟨_, p4, p5, rfl⟩
    have gln : gLen R [.sl (zs.map .int)] = some (.int (zs.length : Int), R) := by rw [gLen_lst (lstR_sl _), List.length_map]
    have gmx : ∀ (R : Wd) (i j : Int), gMinX R [.int i, .int j] = some (.int (if j < i then j else i), R) := fun _ _ _ => rfl
    refine w_seq (w_for (w_rng1 (w_call (w_cons (w_k (w_cons (w_call (w_cons (w_k (w_cons (w_bin (w_call (w_cons (w_var rfl (zv_sl _) (w_nil ⟨_, _, gln, w_k ⟨_, gAddX_int _ _, w_nil ⟨_, _, gmx _ _ _, w_nil ⟨_, _, gMax_int _ _, ?_⟩⟩⟩⟩)))))))))))))))
    obtain ⟨n, hn, hn8⟩ : ∃ n : Nat, (if (if (zs.length : Int) + 1 < 8 then (zs.length : Int) + 1 else 8) > 1 then (if (zs.length : Int) + 1 < 8 then (zs.length : Int) + 1 else 8) else 1) = (n : Int) ∧ n ≤ 8 := by
      refine ⟨(if (if (zs.length : Int) + 1 < 8 then (zs.length : Int) + 1 else 8) > 1 then (if (zs.length : Int) + 1 < 8 then (zs.length : Int) + 1 else 8) else 1).toNat, ?_, ?_⟩ <;> split <;> split <;> omega
    refine ⟨n, congrArg D.int hn, by omega, ?_⟩
    refine w_forI (fun _ ρ R => ∃ p4 p5 p6 p7 p8 p9 p10 p13 p14 p15, ρ = [some (.sl (zs.map .int)), some (.lst (ts.map .str)), some (.lst (rs.map .str)), some (.lst G8), p4, p5, p6, p7, p8, p9, p10, none, none, p13, p14, p15]) _ (fun _ _ _ _ => trivial) ⟨_, _, _, _, _, _, _, _, _, _, rfl⟩ ?_ ?_
    · rintro ρ R ⟨p4, p5, p6, p7, p8, p9, p10, p13, p14, p15, rfl⟩
      exact w_ret (w_k rfl)
    · rintro k y ρ R hy ⟨p4, p5, p6, p7, p8, p9, p10, p13, p14, p15, rfl⟩
      obtain ⟨rfl, hk⟩ := k_of hy
      refine ⟨_, rfl, ?_⟩
      show wS (dSeq _ _ [some (.sl (zs.map .int)), some (.lst (ts.map .str)), some (.lst (rs.map .str)), some (.lst G8), p4, p5, some (.int (k : Int)), p7, p8, p9, p10, none, none, p13, p14, p15] R) _ _ _ _ _
      refine w_seq (w_set (w_callF (w_cons (w_var rfl (zv_sl _) (w_cons (w_var rfl (zv_int _) (w_nil ⟨rfl, source_w K (by omega) (by omega) fun R1 h1 x1 => ?_⟩)))))))
      generalize R.length = i at h1
      show wS (dSeq _ _ [some (.sl (zs.map .int)), some (.lst (ts.map .str)), some (.lst (rs.map .str)), some (.lst G8), p4, p5, some (.int (k : Int)), some (.ref i), p8, p9, p10, none, none, p13, p14, p15] R1) _ _ _ _ _
      refine w_seq (w_set (w_callF (w_cons (w_var rfl (zv_st h1) (w_cons (w_k (w_cons (w_k (w_nil ⟨rfl, wR_nv (logs_w K h1 (by omega)) ?_⟩)))))))))
      rintro _ R2 ⟨f, P, rfl, cf, gP, hP, h2, el2, _⟩
      show wS (dSeq _ _ [some (.sl (zs.map .int)), some (.lst (ts.map .str)), some (.lst (rs.map .str)), some (.lst G8), p4, p5, some (.int (k : Int)), some (.ref i), some (.ref f), p9, p10, none, none, p13, p14, p15] R2) _ _ _ _ _
      refine w_seq (w_set (w_fz (w_lc (w_rng1 (w_bin (w_k (w_callF (w_cons (w_var rfl (zv_st h2) (w_cons (w_k (w_nil ⟨rfl, pick_w K h2 (by omega) (by omega) (by omega) fun r R3 hr h3 el3 _ => ⟨.int (1 + (r : Int)), rfl, 1 + r, by push_cast; rfl, by omega, ?_⟩⟩))))))))))))
      have cf3 := el3 _ _ (st_neK h2 cf) cf
      refine line_part K h3 (by omega) cf3 gP hP (by omega) rfl (fun _ => rfl) (fun _ => rfl) fun ln R4 hln hnm h4 el4 => ?_
      have cf4 := el4 _ _ (st_neK h3 cf3) cf3
      show wS (dSeq _ _ [some (.sl (zs.map .int)), some (.lst (ts.map .str)), some (.lst (rs.map .str)), some (.lst G8), p4, p5, some (.int (k : Int)), some (.ref i), some (.ref f), some (.lst (ln.map .str)), p10, none, none, p13, p14, p15] R4) _ _ _ _ _
      have nl := name_len hnm
      have jl := gJoin_ok (R := R4) (a := " ") (x := .lst (ln.map .str)) (ss := ln) (seqOf_lst (lstR_lst _)) (by rw [show (" " : Str).length = 1 from rfl]; omega)
      have t0 : Tx 1000 5 (Txt.join " " ln) := by
        have h1 := join_len " " ln
        have h2 := nls_join " " ln
        rw [show (" " : Str).length = 1 from rfl] at h1
        rw [sum_zero fun s hs => (name_T (hnm s hs)).2, show nls " " = 0 by decide +kernel] at h2
        exact ⟨join_okT (by unfold OkT; decide +kernel) fun s hs => name_okT (hnm s hs), by omega, by omega⟩
      refine w_seq (w_set (w_fz (w_sz (w_cons (w_meth (w_k ⟨rfl, w_cons (w_var rfl (zv_lst0 _) (w_nil ⟨_, _, jl, w_cons (w_callF (w_cons (w_var rfl (zv_dK cf4) (w_nil ⟨rfl, wR_nv (logs_text_w K cf4 gP) ?_⟩))))⟩))⟩))))))
      rintro _ R5 ⟨s1, rfl, t1, rfl⟩
      refine w_nil ⟨sz2 (by simp), ?_⟩
      refine wS_imp (ways_w K cc ce h4 (by omega) t0 t1 (o0 := some (.sl (zs.map .int))) (o1 := some (.lst (ts.map .str))) (o2 := some (.lst (rs.map .str))) (o3 := some (.lst G8)) (o4 := p4) (o5 := p5) (o6 := some (.int (k : Int))) (o8 := some (.ref f)) (o9 := some (.lst (ln.map .str))) (o11 := none) (o12 := none) (o13 := p13) (o14 := p14) (o15 := p15)) ?_ (fun _ _ h => h) (fun _ _ h => h) (fun _ _ h => h) (fun _ _ _ h => h)
      rintro ρ R' ⟨q4, q5, q13, q14, q15, rfl⟩
      exact ⟨_, _, _, _, _, _, _, _, _, _, rfl⟩
  · rintro y l ρ R ⟨gl, p4, p5, rfl⟩
    obtain ⟨w, s, rfl, hw, ts'⟩ := gl y List.mem_cons_self
    refine ⟨_, rfl, ?_⟩
    refine w_ifs (w_not (w_tst (w_callF (w_cons (w_var rfl (zv_int _) (w_cons (w_var rfl (zv_str s) (w_nil ⟨rfl, wR_nv (right_text_w K cc ce hw ts' (by omega) (by omega)) ?_⟩))))))))
    rintro _ R2 ⟨rfl, x2⟩
    exact ⟨_, rfl, fun h => absurd h (by decide), fun _ => w_next ⟨fun d hd => gl d (List.mem_cons_of_mem _ hd), _, _, rfl⟩⟩
theorem plain (K : PySem.W.Frag) (cc : He.SaysD fa fn K) (ce : feB fe K = true) (ns : List Int) (hl : ns.length ≤ 63) : ∃ R, g_law K [.sl (ns.map D.int)] [] = .ok (.bl true) R := by
  obtain ⟨x, R, e, rfl⟩ := wR_ex (law_w K cc ce ns hl)
  exact ⟨R, e⟩
end K50
end
end
section
set_option Elab.async false
set_option linter.all false
set_option maxRecDepth 100000
set_option maxHeartbeats 0
namespace K50
open PySem PySem.Spec PyProof.Rows L2 Y
section
abbrev Rw : PySem.W.OpenRow := PySem.W.OpenLaw.row PySem.Challenge.rw_asklines_k50_texts_of_no_line_and_no_log
abbrev hk : PySem.W.Hook := hkX 6 fa fn fe
def ob (s : PySem.W.SharedT) : Bool × Bool × He.AlD := (smB (HandSHeadRun.getT s), feB fe (He.frG (HandSHeadRun.getT s) (He.asD (HandSHeadRun.getT s) 6)), He.obsDG 6 fa fn (HandSHeadRun.getT s))
theorem ob_eq (s : PySem.W.SharedT) : ob s = hk.obs s.abs := by
  have e : HandSHeadRun.getT s = s.abs.heap.get? := funext (HandSHeadRun.getT_eq s)
  show (smB (HandSHeadRun.getT s), feB fe (He.frG (HandSHeadRun.getT s) (He.asD (HandSHeadRun.getT s) 6)), He.obsDG 6 fa fn (HandSHeadRun.getT s)) = (smB s.abs.heap.get?, feB fe (He.frG s.abs.heap.get? (He.asD s.abs.heap.get? 6)), He.obsDG 6 fa fn s.abs.heap.get?)
  rw [e]
theorem runs (w : World) : HandSHeadRun.RunEq Rw (PySem.W.view Rw.prog [48]) hk ob 9000 ((["AskError", "NoTree", "NoName", "NoNode", "Taken", "NoLine", "NoMessage", "NoRequest", "NoLogs", "NoAskers", "NoNumber", "NoOrder", "NoText", "NoCommand", "NoNet", "TooMany", "Unsettled", "Clash", "Blocked", "LETTERS", "MAX_LETTERS", "MAX_NODES", "is_name", "are_ascending", "MAX_ENTRIES", "are_names", "show_line", "read_line", "are_lists_of_names", "show_logs"] : List PySem.Str) ++ (["read_logs", "_law_source", "_law_pick", "_law_names", "_law_odd", "_law_kinds", "_law_own_name", "_law_logs", "_law_logs_text", "_law_line_of", "_law_logs_of", "_law_changed", "_law_told", "_law_right"] : List PySem.Str)) w := by
  intro os
  kernel_rfl
theorem whole (P : Program) (w : World) (K : PySem.W.Frag) (h : Heap) (mg : Str → Option Value) (f : Addr) (X : K.In h) (G : h.Ns mainGlobals mg) (hf : mg ("law" : Str) = some (.ref f)) (cc : He.SaysD fa fn K) :
    ∃ fd : FuncData, (∀ (s : Shared) (u : Value), BindsTo s fd ⟨[u], []⟩ [("script", u)]) ∧ ∀ base : Heap, K.In base → base.Ns mainGlobals mg → SM base → FnG P w K mg base 7 f fd ["script"] (spD K 1 (g_law K)) := by
  have c : Fx fa fn K mg := ⟨⟨h, X, G⟩, cc⟩
  obtain ⟨fd, F⟩ := c.def_ 21 (d := D_law) rfl
  have e := hf.symm.trans (c.glo 21 (x := "law"))
  cases e
  have b := FunD.bindsA (ps := ["script"]) F fun _ _ _ _ _ _ us hl => match us, hl with | [_], _ => rfl
  exact ⟨fd, fun s u => b s [u] rfl, fun base _ _ sm => ok_law c sm F⟩
end
end K50
open PySem PySem.W PySem.Calls PyProof.Rows
theorem PySem.Challenge.cw_asklines_k50_texts_of_no_line_and_no_log_holds : PySem.Challenge.rw_asklines_k50_texts_of_no_line_and_no_log.Holds := by
  w_on; o_law
  refine HandSHeadRun.head_any (r := OpenLaw.row PySem.Challenge.rw_asklines_k50_texts_of_no_line_and_no_log) (q := view (OpenLaw.row PySem.Challenge.rw_asklines_k50_texts_of_no_line_and_no_log).prog [48]) (H := K50.hk) (ob := K50.ob) (M := 9000) (loose := ((["AskError", "NoTree", "NoName", "NoNode", "Taken", "NoLine", "NoMessage", "NoRequest", "NoLogs", "NoAskers", "NoNumber", "NoOrder", "NoText", "NoCommand", "NoNet", "TooMany", "Unsettled", "Clash", "Blocked", "LETTERS", "MAX_LETTERS", "MAX_NODES", "is_name", "are_ascending", "MAX_ENTRIES", "are_names", "show_line", "read_line", "are_lists_of_names", "show_logs"] : List PySem.Str) ++ (["read_logs", "_law_source", "_law_pick", "_law_names", "_law_odd", "_law_kinds", "_law_own_name", "_law_logs", "_law_logs_text", "_law_line_of", "_law_logs_of", "_law_changed", "_law_told", "_law_right"] : List PySem.Str))) (d := HandSHeadRun.topDef (OpenLaw.row PySem.Challenge.rw_asklines_k50_texts_of_no_line_and_no_log).prog 48) (kwd := []) K50.ob_eq
    (by kernel_rfl) (fun s => by kernel_rfl) K50.runs (by kernel_rfl) (by kernel_rfl) (by kernel_rfl) (by rfl) (by first | assumption | decide +kernel) (by decide +kernel) ⟨rfl, rfl, rfl, rfl, rfl, by decide +kernel⟩ ?hw ?hc
  case hw => w_witness2
  case hc =>
    refine Y.law_end (l := PySem.Challenge.rw_asklines_k50_texts_of_no_line_and_no_log) (n := 63) (k := 7) (x := "script") rfl (by decide) (by kernel_rfl) ⟨rfl, by decide, by decide⟩ ?F
    intro w mg fa h Yh G hmg0
    obtain ⟨⟨K, KX, c, ce⟩, sm⟩ := Yh
    have hmg : mg ("law" : PySem.Str) = some (.ref fa) := by
      have e : (HandSHeadRun.topDef (OpenLaw.row PySem.Challenge.rw_asklines_k50_texts_of_no_line_and_no_log).prog 48).name = ("law" : PySem.Str) := by kernel_rfl
      rw [← e]
      exact hmg0
    obtain ⟨fd, hb, hF⟩ := K50.whole (PySem.Challenge.rw_asklines_k50_texts_of_no_line_and_no_log).prog w K h mg fa KX G hmg c
    exact ⟨K, fd, Y.spD K 1 (K50.g_law K), KX, sm, hb, fun H a ns hl hS => Y.law_go (K50.plain K c ce) H a ns hl hS, hF⟩
end
