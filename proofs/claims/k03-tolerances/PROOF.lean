import PyProof.Rows.All
import Wide.All
import OpenK.AllK
import Wide.FinOn
import HandS.ForMost
import HandS.ForExc
import HandS.CallSlots
import HandS.Walk
import HandS.Wide
import HandS.IsInst
import HandS.Flow
import HandS.Zip
import PyProof.ReprRoads
import HandS.TupAny
import HandS.TupLe
import HandS.RaiseMore
import HandS.ExcField
import HandS.ExcInit
import HandS.Style
import HandS.ClsMeth
import HandS.Ends
import PySem.Challenge.RW_countedlights_k03_tolerances
set_option Elab.async false
set_option linter.all false
set_option maxRecDepth 100000
set_option maxHeartbeats 4000000
namespace PV
open PySem L2

/-! data as trees, a store of changing things -/
inductive D where
  | non | bl (b : Bool) | int (i : Int) | str (x : Str)
  | tup (ds : List D) | lst (ds : List D) | dct (ks vs : List D)
  | obj (c : Nat) (fs : List Nat) (vs : List D)
  | scr (ns : List Int)
  | ref (n : Nat)
inductive Cell where
  | lst (ds : List D) | dct (ks vs : List D) | ins (c : Nat) (fs : List Nat) (vs : List D) | dead
abbrev Store := List Cell
abbrev Env := List (Option D)
inductive R (α : Type) where
  | ok (a : α) (S : Store) | ex (c : Nat) (v : D) (S : Store) | stuck
def R.bind {α β : Type} (r : R α) (f : α → Store → R β) : R β := match r with
  | .ok a S => f a S
  | .ex c v S => .ex c v S
  | .stuck => .stuck

/-- what is fixed: the written part, the classes' places, the fields' names -/
structure Tb where
  K : PySem.W.Frag
  cls : Nat → Addr
  fld : Nat → Str
  ef : Nat → Nat
  nc : Nat
structure Wo where
  S : Store
  r : List Addr
  H : Hp
  x : List Addr
def Lv (w : Wo) (a : Addr) : Prop := a ∈ w.x ∨ ∃ (n : Nat) (c : Cell), w.S[n]? = some c ∧ c ≠ .dead ∧ w.r[n]? = some a
def flds (T : Tb) : List Nat → List V → List (Str × V)
  | f :: fs, v :: vs => (T.fld f, v) :: flds T fs vs
  | _, _ => []
def keyD : D → Option Key
  | .int i => some (.inl i)
  | .str x => some (.inr x)
  | _ => none
def pairK : List D → List V → Option (List (Key × V))
  | [], [] => some []
  | k :: ks, v :: vs => match keyD k, pairK ks vs with
    | some q, some r => some ((q, v) :: r)
    | _, _ => none
  | _, _ => none
abbrev H0 : Hp := fun _ => none
/-- a sequence that stands still; the script: of the written part, or tracked -/
def StT (T : Tb) (w : Wo) (a : Addr) (vs : List V) : Prop := w.H a = some (.tup vs) ∧ ¬ Lv w a
def StL (T : Tb) (w : Wo) (a : Addr) (vs : List V) : Prop := w.H a = some (.lst vs) ∧ ¬ Lv w a
def StS (T : Tb) (w : Wo) (a : Addr) (vs : List V) : Prop := SqL T.K H0 a vs ∨ (Rd w.H a (.lst vs) ∧ ¬ Lv w a)

mutual
inductive Rep (T : Tb) (w : Wo) : D → V → Prop where
  | non : Rep T w .non .non
  | bl (b : Bool) : Rep T w (.bl b) (.bl b)
  | int (i : Int) : Rep T w (.int i) (.int i)
  | str (x : Str) : Rep T w (.str x) (.str x)
  | tup {a : Addr} {vs : List V} {ds : List D} : StT T w a vs → Reps T w ds vs → Rep T w (.tup ds) (.ref a)
  | lst {a : Addr} {vs : List V} {ds : List D} : StL T w a vs → Reps T w ds vs → Rep T w (.lst ds) (.ref a)
  | dct {a : Addr} {kvs : List (Key × V)} {ks vs : List D} {us : List V} : w.H a = some (.dK kvs) → ¬ Lv w a → pairK ks us = some kvs → Reps T w vs us → Rep T w (.dct ks vs) (.ref a)
  | obj {a dx : Addr} {us : List V} {c : Nat} {fs : List Nat} {vs : List D} : w.H a = some (.ins (T.cls c) dx (flds T fs us)) → ¬ Lv w a → fs.length = vs.length → Reps T w vs us → Rep T w (.obj c fs vs) (.ref a)
  | scr {a : Addr} {ns : List Int} : StS T w a (ns.map V.int) → Rep T w (.scr ns) (.ref a)
  | ref {n : Nat} {a : Addr} : w.r[n]? = some a → Rep T w (.ref n) (.ref a)
inductive Reps (T : Tb) (w : Wo) : List D → List V → Prop where
  | nil : Reps T w [] []
  | cons {d : D} {v : V} {ds : List D} {vs : List V} : Rep T w d v → Reps T w ds vs → Reps T w (d :: ds) (v :: vs)
end

structure Mon (w w' : Wo) : Prop where
  pre : ∀ (n : Nat) (a : Addr), w.r[n]? = some a → w'.r[n]? = some a
  keep : ∀ a o, w.H a = some o → ¬ Lv w a → w'.H a = some o ∧ ¬ Lv w' a
structure Step (w w' : Wo) : Prop extends Mon w w' where
  ex : w'.x = w.x
  hx : ∀ a, a ∈ w.x → w'.H a = w.H a
theorem Mon.refl (w : Wo) : Mon w w := ⟨fun _ _ h => h, fun _ _ h l => ⟨h, l⟩⟩
theorem Mon.trans {a b c : Wo} (x : Mon a b) (y : Mon b c) : Mon a c :=
  ⟨fun n p h => y.pre n p (x.pre n p h), fun p o h l => let ⟨h1, l1⟩ := x.keep p o h l; y.keep p o h1 l1⟩
theorem Step.refl (w : Wo) : Step w w := ⟨Mon.refl w, rfl, fun _ _ => rfl⟩
theorem Step.trans {a b c : Wo} (x : Step a b) (y : Step b c) : Step a c :=
  ⟨x.toMon.trans y.toMon, y.ex.trans x.ex, fun p hp => (y.hx p (by rw [x.ex]; exact hp)).trans (x.hx p hp)⟩
theorem StT.mono {T : Tb} {w w' : Wo} (st : Mon w w') {a : Addr} {vs : List V} (h : StT T w a vs) : StT T w' a vs := st.keep _ _ h.1 h.2
theorem StL.mono {T : Tb} {w w' : Wo} (st : Mon w w') {a : Addr} {vs : List V} (h : StL T w a vs) : StL T w' a vs := st.keep _ _ h.1 h.2
theorem StS.mono {T : Tb} {w w' : Wo} (st : Mon w w') {a : Addr} {vs : List V} (h : StS T w a vs) : StS T w' a vs := by
  rcases h with h | ⟨h | ⟨o, h⟩, l⟩
  · exact .inl h
  · obtain ⟨h1, l1⟩ := st.keep _ _ h l
    exact .inr ⟨.inl h1, l1⟩
  · obtain ⟨h1, l1⟩ := st.keep _ _ h l
    exact .inr ⟨.inr ⟨o, h1⟩, l1⟩
theorem StT.sq {T : Tb} {w : Wo} {a : Addr} {vs : List V} (h : StT T w a vs) : SqT T.K w.H a vs := SqT.of h.1
theorem StL.sq {T : Tb} {w : Wo} {a : Addr} {vs : List V} (h : StL T w a vs) : SqL T.K w.H a vs := SqL.of h.1
theorem StS.sq {T : Tb} {w : Wo} {a : Addr} {vs : List V} (h : StS T w a vs) : SqL T.K w.H a vs := by
  rcases h with (h | h) | ⟨h, _⟩
  · rcases h with h | ⟨_, h⟩ <;> cases h
  · exact .inr h
  · exact .inl h
mutual
theorem Rep.mono {T : Tb} {w w' : Wo} (st : Mon w w') : ∀ {d : D} {v : V}, Rep T w d v → Rep T w' d v
  | _, _, .non => .non
  | _, _, .bl b => .bl b
  | _, _, .int i => .int i
  | _, _, .str x => .str x
  | _, _, .tup h r => .tup (h.mono st) (Reps.mono st r)
  | _, _, .lst h r => .lst (h.mono st) (Reps.mono st r)
  | _, _, .dct h l p r => .dct (st.keep _ _ h l).1 (st.keep _ _ h l).2 p (Reps.mono st r)
  | _, _, .obj h l p r => .obj (st.keep _ _ h l).1 (st.keep _ _ h l).2 p (Reps.mono st r)
  | _, _, .scr h => .scr (h.mono st)
  | _, _, .ref h => .ref (st.pre _ _ h)
theorem Reps.mono {T : Tb} {w w' : Wo} (st : Mon w w') : ∀ {ds : List D} {vs : List V}, Reps T w ds vs → Reps T w' ds vs
  | _, _, .nil => .nil
  | _, _, .cons h r => .cons (Rep.mono st h) (Reps.mono st r)
end
def CellOk (T : Tb) (w : Wo) (a : Addr) : Cell → Prop
  | .lst ds => ∃ vs, w.H a = some (.lst vs) ∧ Reps T w ds vs
  | .dct ks vs => ∃ kvs us, w.H a = some (.dK kvs) ∧ pairK ks us = some kvs ∧ Reps T w vs us
  | .ins c fs vs => ∃ dx us, w.H a = some (.ins (T.cls c) dx (flds T fs us)) ∧ fs.length = vs.length ∧ Reps T w vs us
  | .dead => ∃ o, w.H a = some o
structure Wd (T : Tb) (w : Wo) : Prop where
  len : w.r.length = w.S.length
  nd : w.r.Nodup
  cell : ∀ (n : Nat) (c : Cell) (a : Addr), w.S[n]? = some c → w.r[n]? = some a → CellOk T w a c
  res : ∀ a, a ∈ w.x → a ∉ w.r ∧ ∃ o, w.H a = some o
theorem CellOk.there {T : Tb} {w : Wo} {a : Addr} {c : Cell} (h : CellOk T w a c) : ∃ o, w.H a = some o := by
  cases c with
  | lst ds => obtain ⟨_, h, _⟩ := h; exact ⟨_, h⟩
  | dct ks vs => obtain ⟨_, _, h, _⟩ := h; exact ⟨_, h⟩
  | ins c fs vs => obtain ⟨_, _, h, _⟩ := h; exact ⟨_, h⟩
  | dead => exact h
theorem Wd.place {T : Tb} {w : Wo} (W : Wd T w) {n : Nat} {c : Cell} (h : w.S[n]? = some c) : ∃ a, w.r[n]? = some a := by
  have : n < w.r.length := by
    rw [W.len]
    exact (List.getElem?_eq_some_iff.mp h).1
  exact ⟨w.r[n], List.getElem?_eq_getElem this⟩
theorem Wd.cellAt {T : Tb} {w : Wo} (W : Wd T w) {n : Nat} {a : Addr} (h : w.r[n]? = some a) : ∃ c, w.S[n]? = some c := by
  have : n < w.S.length := by
    rw [← W.len]
    exact (List.getElem?_eq_some_iff.mp h).1
  exact ⟨w.S[n], List.getElem?_eq_getElem this⟩
theorem Wd.there {T : Tb} {w : Wo} (W : Wd T w) {n : Nat} {a : Addr} (h : w.r[n]? = some a) : ∃ o, w.H a = some o := by
  obtain ⟨c, hc⟩ := W.cellAt h
  exact (W.cell n c a hc h).there
theorem Wd.ne {T : Tb} {w : Wo} (W : Wd T w) {n m : Nat} {a : Addr} (h : w.r[n]? = some a) (h' : w.r[m]? = some a) : n = m := by
  obtain ⟨h1, e1⟩ := List.getElem?_eq_some_iff.mp h
  obtain ⟨h2, e2⟩ := List.getElem?_eq_some_iff.mp h'
  exact (List.getElem_inj W.nd).mp (e1.trans e2.symm)
/-- a cell of the same kind of place whose heap object stands, after a step that leaves its own address -/
theorem CellOk.mono {T : Tb} {w w' : Wo} (st : Mon w w') {a : Addr} {c : Cell} (h : CellOk T w a c) (e : w'.H a = w.H a) : CellOk T w' a c := by
  cases c with
  | lst ds => obtain ⟨vs, h, r⟩ := h; exact ⟨vs, by rw [e]; exact h, r.mono st⟩
  | dct ks vs => obtain ⟨k, u, h, p, r⟩ := h; exact ⟨k, u, by rw [e]; exact h, p, r.mono st⟩
  | ins c fs vs => obtain ⟨k, u, h, p, r⟩ := h; exact ⟨k, u, by rw [e]; exact h, p, r.mono st⟩
  | dead => obtain ⟨o, h⟩ := h; exact ⟨o, by rw [e]; exact h⟩
/-- a new thing that stands still -/
theorem Wd.still {T : Tb} {w : Wo} (W : Wd T w) {p : Addr} (hp : w.H p = none) (o : HO) :
    Wd T ⟨w.S, w.r, upd w.H p o, w.x⟩ ∧ Step w ⟨w.S, w.r, upd w.H p o, w.x⟩ ∧ ¬ Lv (⟨w.S, w.r, upd w.H p o, w.x⟩ : Wo) p := by
  have st : Step w ⟨w.S, w.r, upd w.H p o, w.x⟩ := ⟨⟨fun _ _ h => h, fun a u h l => ⟨by show upd w.H p o a = _; rw [upd_ne (ne_of_none h hp)]; exact h, l⟩⟩, rfl, fun a ha => by
    obtain ⟨_, u, hu⟩ := W.res a ha
    show upd w.H p o a = _
    rw [upd_ne (ne_of_none hu hp)]⟩
  refine ⟨⟨W.len, W.nd, fun n c a h1 h2 => ?_, fun a ha => ?_⟩, st, fun l => ?_⟩
  · have := W.cell n c a h1 h2
    refine this.mono st.toMon ?_
    obtain ⟨u, hu⟩ := this.there
    show upd w.H p o a = _
    rw [upd_ne (ne_of_none hu hp)]
  · obtain ⟨h1, u, hu⟩ := W.res a ha
    exact ⟨h1, u, by show upd w.H p o a = _; rw [upd_ne (ne_of_none hu hp)]; exact hu⟩
  · rcases l with l | ⟨n, c, h1, _, h2⟩
    · obtain ⟨_, u, hu⟩ := W.res p l
      rw [hp] at hu
      cases hu
    · obtain ⟨u, hu⟩ := W.there h2
      rw [hp] at hu
      cases hu
/-- a new cell of the store -/
theorem Wd.alloc {T : Tb} {w : Wo} (W : Wd T w) {p : Addr} (hp : w.H p = none) {o : HO} {c : Cell} (hc : ∀ w', Step w w' → w'.H = upd w.H p o → CellOk T w' p c) :
    Wd T ⟨w.S ++ [c], w.r ++ [p], upd w.H p o, w.x⟩ ∧ Step w ⟨w.S ++ [c], w.r ++ [p], upd w.H p o, w.x⟩ ∧ (w.r ++ [p])[w.S.length]? = some p := by
  have hnp : ∀ a, a ∈ w.r → a ≠ p := fun a ha e => by
    obtain ⟨n, hn, e2⟩ := List.getElem_of_mem ha
    obtain ⟨u, hu⟩ := W.there (n := n) (a := a) (by rw [List.getElem?_eq_getElem hn, e2])
    rw [e, hp] at hu
    cases hu
  have hxp : ∀ a, a ∈ w.x → a ≠ p := fun a ha e => by
    obtain ⟨_, u, hu⟩ := W.res a ha
    rw [e, hp] at hu
    cases hu
  have st : Step w ⟨w.S ++ [c], w.r ++ [p], upd w.H p o, w.x⟩ := by
    refine ⟨⟨fun n a h => ?_, fun a u h l => ⟨by show upd w.H p o a = _; rw [upd_ne (ne_of_none h hp)]; exact h, fun l' => ?_⟩⟩, rfl, fun a ha => by show upd w.H p o a = _; rw [upd_ne (hxp a ha)]⟩
    · show (w.r ++ [p])[n]? = some a
      rw [List.getElem?_append_left (List.getElem?_eq_some_iff.mp h).1]
      exact h
    · rcases l' with l' | ⟨n, c', h1, h2, h3⟩
      · exact l (.inl l')
      change (w.S ++ [c])[n]? = some c' at h1
      change (w.r ++ [p])[n]? = some a at h3
      by_cases hn : n < w.S.length
      · rw [List.getElem?_append_left hn] at h1
        rw [List.getElem?_append_left (by rw [W.len]; exact hn)] at h3
        exact l (.inr ⟨n, c', h1, h2, h3⟩)
      · have : (w.r ++ [p])[n]? = some a := h3
        rw [List.getElem?_append_right (by rw [W.len]; omega)] at this
        have e : a = p := by
          have hm := List.mem_of_getElem? this
          simpa using hm
        rw [e, hp] at h
        cases h
  have last : (w.r ++ [p])[w.S.length]? = some p := by
    rw [← W.len, List.getElem?_append_right (Nat.le_refl _)]
    simp
  refine ⟨⟨by simp [W.len], ?_, fun n c' a h1 h2 => ?_, fun a ha => ?_⟩, st, last⟩
  · rw [List.nodup_append]
    refine ⟨W.nd, by simp, fun a ha b hb => ?_⟩
    have : b = p := by simpa using hb
    rw [this]
    exact hnp a ha
  · change (w.S ++ [c])[n]? = some c' at h1
    change (w.r ++ [p])[n]? = some a at h2
    by_cases hn : n < w.S.length
    · rw [List.getElem?_append_left hn] at h1
      rw [List.getElem?_append_left (by rw [W.len]; exact hn)] at h2
      have := W.cell n c' a h1 h2
      refine this.mono st.toMon ?_
      obtain ⟨u, hu⟩ := this.there
      show upd w.H p o a = _
      rw [upd_ne (ne_of_none hu hp)]
    · rw [List.getElem?_append_right (by omega)] at h1
      rw [List.getElem?_append_right (by rw [W.len]; omega)] at h2
      have e1 : c' = c := by simpa using List.mem_of_getElem? h1
      have e2 : a = p := by simpa using List.mem_of_getElem? h2
      rw [e1, e2]
      exact hc _ st rfl
  · obtain ⟨h1, u, hu⟩ := W.res a ha
    refine ⟨fun hm => ?_, u, by show upd w.H p o a = _; rw [upd_ne (hxp a ha)]; exact hu⟩
    rcases List.mem_append.mp hm with hm | hm
    · exact h1 hm
    · exact hxp a ha (by simpa using hm)
/-- a cell of the store is written -/
theorem Wd.write {T : Tb} {w : Wo} (W : Wd T w) {n : Nat} {c c' : Cell} {a : Addr} {o : HO} (hS : w.S[n]? = some c) (hc : c ≠ .dead) (ha : w.r[n]? = some a) (hc' : ∀ w', Step w w' → w'.H = upd w.H a o → CellOk T w' a c') :
    Wd T ⟨w.S.set n c', w.r, upd w.H a o, w.x⟩ ∧ Step w ⟨w.S.set n c', w.r, upd w.H a o, w.x⟩ := by
  have hn : n < w.S.length := (List.getElem?_eq_some_iff.mp hS).1
  have la : Lv w a := .inr ⟨n, c, hS, hc, ha⟩
  have hxa : ∀ b, b ∈ w.x → b ≠ a := fun b hb e => (W.res b hb).1 (by rw [e]; exact List.mem_of_getElem? ha)
  have st : Step w ⟨w.S.set n c', w.r, upd w.H a o, w.x⟩ := by
    refine ⟨⟨fun _ _ h => h, fun b u h l => ?_⟩, rfl, fun b hb => by show upd w.H a o b = _; rw [upd_ne (hxa b hb)]⟩
    have nb : b ≠ a := fun e => l (by rw [e]; exact la)
    refine ⟨by show upd w.H a o b = _; rw [upd_ne nb]; exact h, fun l' => ?_⟩
    rcases l' with l' | ⟨m, d, h1, h2, h3⟩
    · exact l (.inl l')
    change (w.S.set n c')[m]? = some d at h1
    by_cases e : n = m
    · subst e
      exact nb (Option.some.inj (h3.symm.trans ha))
    · rw [List.getElem?_set_ne e] at h1
      exact l (.inr ⟨m, d, h1, h2, h3⟩)
  refine ⟨⟨by simp [W.len], W.nd, fun m d b h1 h2 => ?_, fun b hb => ?_⟩, st⟩
  · change (w.S.set n c')[m]? = some d at h1
    by_cases e : n = m
    · subst e
      rw [List.getElem?_set_self hn] at h1
      cases h1
      have : b = a := Option.some.inj (h2.symm.trans ha)
      subst this
      exact hc' _ st rfl
    · rw [List.getElem?_set_ne e] at h1
      refine (W.cell m d b h1 h2).mono st.toMon ?_
      show upd w.H a o b = _
      rw [upd_ne (show b ≠ a from fun z => e (W.ne ha (by rw [← z]; exact h2)))]
  · obtain ⟨h1, u, hu⟩ := W.res b hb
    exact ⟨h1, u, by show upd w.H a o b = _; rw [upd_ne (hxa b hb)]; exact hu⟩
/-- a cell of the store is given up -/
theorem Wd.freeze {T : Tb} {w : Wo} (W : Wd T w) {n : Nat} {c : Cell} {a : Addr} (hS : w.S[n]? = some c) (ha : w.r[n]? = some a) :
    Wd T ⟨w.S.set n .dead, w.r, w.H, w.x⟩ ∧ Step w ⟨w.S.set n .dead, w.r, w.H, w.x⟩ ∧ ¬ Lv (⟨w.S.set n .dead, w.r, w.H, w.x⟩ : Wo) a := by
  have hn : n < w.S.length := (List.getElem?_eq_some_iff.mp hS).1
  have st : Step w ⟨w.S.set n .dead, w.r, w.H, w.x⟩ := by
    refine ⟨⟨fun _ _ h => h, fun b u h l => ⟨h, fun l' => ?_⟩⟩, rfl, fun _ _ => rfl⟩
    rcases l' with l' | ⟨m, d, h1, h2, h3⟩
    · exact l (.inl l')
    change (w.S.set n .dead)[m]? = some d at h1
    by_cases e : n = m
    · subst e
      rw [List.getElem?_set_self hn] at h1
      cases h1
      exact h2 rfl
    · rw [List.getElem?_set_ne e] at h1
      exact l (.inr ⟨m, d, h1, h2, h3⟩)
  refine ⟨⟨by simp [W.len], W.nd, fun m d b h1 h2 => ?_, W.res⟩, st, fun l' => ?_⟩
  · change (w.S.set n .dead)[m]? = some d at h1
    by_cases e : n = m
    · subst e
      rw [List.getElem?_set_self hn] at h1
      cases h1
      exact (W.cell n c b hS h2).there
    · rw [List.getElem?_set_ne e] at h1
      exact (W.cell m d b h1 h2).mono st.toMon rfl
  · rcases l' with l' | ⟨m, d, h1, h2, h3⟩
    · exact (W.res a l').1 (List.mem_of_getElem? ha)
    change (w.S.set n .dead)[m]? = some d at h1
    have e : n = m := W.ne ha h3
    subst e
    rw [List.getElem?_set_self hn] at h1
    cases h1
    exact h2 rfl
/-- a new thing is set apart (a list that a comprehension fills) -/
theorem Wd.reserve {T : Tb} {w : Wo} (W : Wd T w) {p : Addr} (hp : w.H p = none) (o : HO) :
    Wd T ⟨w.S, w.r, upd w.H p o, p :: w.x⟩ ∧ Mon w ⟨w.S, w.r, upd w.H p o, p :: w.x⟩ := by
  have mo : Mon w ⟨w.S, w.r, upd w.H p o, p :: w.x⟩ := ⟨fun _ _ h => h, fun a u h l => ⟨by show upd w.H p o a = _; rw [upd_ne (ne_of_none h hp)]; exact h, fun l' => by
    rcases l' with l' | l'
    · rcases List.mem_cons.mp l' with e | l'
      · rw [e, hp] at h
        cases h
      · exact l (.inl l')
    · exact l (.inr l')⟩⟩
  refine ⟨⟨W.len, W.nd, fun n c a h1 h2 => ?_, fun a ha => ?_⟩, mo⟩
  · have := W.cell n c a h1 h2
    refine this.mono mo ?_
    obtain ⟨u, hu⟩ := this.there
    show upd w.H p o a = _
    rw [upd_ne (ne_of_none hu hp)]
  · rcases List.mem_cons.mp ha with e | ha
    · subst e
      refine ⟨fun hm => ?_, o, upd_same⟩
      obtain ⟨n, hn, e2⟩ := List.getElem_of_mem hm
      obtain ⟨u, hu⟩ := W.there (n := n) (a := a) (by rw [List.getElem?_eq_getElem hn, e2])
      rw [hp] at hu
      cases hu
    · obtain ⟨h1, u, hu⟩ := W.res a ha
      exact ⟨h1, u, by show upd w.H p o a = _; rw [upd_ne (ne_of_none hu hp)]; exact hu⟩
/-- what is set apart is filled -/
theorem Wd.fill {T : Tb} {w : Wo} (W : Wd T w) {p : Addr} (hp : p ∈ w.x) (o : HO) : Wd T ⟨w.S, w.r, upd w.H p o, w.x⟩ ∧ Mon w ⟨w.S, w.r, upd w.H p o, w.x⟩ := by
  have mo : Mon w ⟨w.S, w.r, upd w.H p o, w.x⟩ := ⟨fun _ _ h => h, fun a u h l => ⟨by show upd w.H p o a = _; rw [upd_ne (fun e => l (.inl (by rw [e]; exact hp)))]; exact h, l⟩⟩
  refine ⟨⟨W.len, W.nd, fun n c a h1 h2 => ?_, fun a ha => ?_⟩, mo⟩
  · have := W.cell n c a h1 h2
    refine this.mono mo ?_
    show upd w.H p o a = _
    rw [upd_ne (fun e => (W.res p hp).1 (by rw [← e]; exact List.mem_of_getElem? h2))]
  · obtain ⟨h1, u, hu⟩ := W.res a ha
    refine ⟨h1, ?_⟩
    by_cases e : a = p
    · exact ⟨o, by show upd w.H p o a = _; rw [e]; exact upd_same⟩
    · exact ⟨u, by show upd w.H p o a = _; rw [upd_ne e]; exact hu⟩
/-- .. and stands still from then on -/
theorem Wd.release {T : Tb} {w : Wo} {xs : List Addr} {p : Addr} (W : Wd T w) (hx : w.x = p :: xs) (hp : p ∉ xs) : Wd T ⟨w.S, w.r, w.H, xs⟩ ∧ Mon w ⟨w.S, w.r, w.H, xs⟩ ∧ ¬ Lv (⟨w.S, w.r, w.H, xs⟩ : Wo) p := by
  have mo : Mon w ⟨w.S, w.r, w.H, xs⟩ := ⟨fun _ _ h => h, fun a u h l => ⟨h, fun l' => by
    rcases l' with l' | l'
    · exact l (.inl (by rw [hx]; exact List.mem_cons_of_mem _ l'))
    · exact l (.inr l')⟩⟩
  refine ⟨⟨W.len, W.nd, fun n c a h1 h2 => (W.cell n c a h1 h2).mono mo rfl, fun a ha => W.res a (by rw [hx]; exact List.mem_cons_of_mem _ ha)⟩, mo, fun l => ?_⟩
  rcases l with l | ⟨n, c, _, _, h3⟩
  · exact hp l
  · exact (W.res p (by rw [hx]; exact List.mem_cons_self)).1 (List.mem_of_getElem? h3)

/-! the frame's names -/
structure EnvOk (T : Tb) (w : Wo) (δ : Env) (σ : St) : Prop where
  len : δ.length = σ.length
  at_ : ∀ (i : Nat) (d : D), δ[i]? = some (some d) → ∃ v, σ[i]? = some (some v) ∧ Rep T w d v
theorem EnvOk.mono {T : Tb} {w w' : Wo} {δ : Env} {σ : St} (st : Mon w w') (h : EnvOk T w δ σ) : EnvOk T w' δ σ :=
  ⟨h.len, fun i d e => let ⟨v, e1, r⟩ := h.at_ i d e; ⟨v, e1, r.mono st⟩⟩
theorem EnvOk.set {T : Tb} {w : Wo} {δ : Env} {σ : St} (h : EnvOk T w δ σ) (i : Nat) {d : D} {v : V} (r : Rep T w d v) : EnvOk T w (δ.set i (some d)) (σ.set i (some v)) := by
  refine ⟨by simp [h.len], fun j d' e => ?_⟩
  by_cases hj : i = j
  · subst hj
    by_cases hi : i < δ.length
    · rw [List.getElem?_set_self hi] at e
      cases e
      exact ⟨v, List.getElem?_set_self (by rw [← h.len]; exact hi), r⟩
    · rw [List.getElem?_eq_none (by simpa using hi)] at e
      cases e
  · rw [List.getElem?_set_ne hj] at e
    rw [List.getElem?_set_ne hj]
    exact h.at_ j d' e
theorem EnvOk.unset {T : Tb} {w : Wo} {δ : Env} {σ : St} (h : EnvOk T w δ σ) (i : Nat) (x : Option V) : EnvOk T w (δ.set i none) (σ.set i x) := by
  refine ⟨by simp [h.len], fun j d' e => ?_⟩
  by_cases hj : i = j
  · subst hj
    by_cases hi : i < δ.length
    · rw [List.getElem?_set_self hi] at e
      cases e
    · rw [List.getElem?_eq_none (by simpa using hi)] at e
      cases e
  · rw [List.getElem?_set_ne hj] at e
    rw [List.getElem?_set_ne hj]
    exact h.at_ j d' e

/-! readings by functions -/
abbrev F := Env → Store → R D
abbrev Fs := Env → Store → R (List D)
inductive RS where
  | nx (δ : Env) (S : Store) | bk (δ : Env) (S : Store) | ct (δ : Env) (S : Store) | rt (d : D) (S : Store) | ex (c : Nat) (v : D) (δ : Env) (S : Store) | stuck
abbrev FS := Env → Store → RS
/-- an exception of the class c that holds v -/
def RepX (T : Tb) (w : Wo) (c : Nat) (v : D) (cls : Value) (dd : Option Addr) : Prop :=
  ∃ (d : Addr) (u : V), c < T.nc ∧ cls = .ref (T.cls c) ∧ dd = some d ∧ w.H d = some (.xd [(T.fld (T.ef c), u)]) ∧ ¬ Lv w d ∧ Rep T w v u
theorem RepX.mono {T : Tb} {w w' : Wo} {c : Nat} {v : D} {cls : Value} {dd : Option Addr} (st : Mon w w') (h : RepX T w c v cls dd) : RepX T w' c v cls dd := by
  obtain ⟨d, u, h0, h1, h2, h3, h4, h5⟩ := h
  obtain ⟨k1, k2⟩ := st.keep _ _ h3 h4
  exact ⟨d, u, h0, h1, h2, k1, k2, h5.mono st⟩
def Post (T : Tb) (W : WX) (w : Wo) (σ : St) {α β : Type} (Rl : Wo → α → β → Prop) (r : R α) (Q : β → Hp → Prop) : Prop := match r with
  | .ok d S' => ∀ (w' : Wo) (v : β), w'.S = S' → Wd T w' → Step w w' → Rl w' d v → Q v w'.H
  | .ex c v S' => ∀ (w' : Wo) (cls : Value) (dd : Option Addr), w'.S = S' → Wd T w' → Step w w' → RepX T w' c v cls dd → W cls dd σ w'.H
  | .stuck => False
abbrev Xi := Wo → L2.St → Prop
def tEv (T : Tb) (W : WX) (Ξ : Xi) (f : F) : TE := fun σ H Q => ∃ (δ : Env) (w : Wo), w.H = H ∧ Wd T w ∧ EnvOk T w δ σ ∧ Ξ w σ ∧ Post T W w σ (Rep T) (f δ w.S) Q
def tEvs (T : Tb) (W : WX) (Ξ : Xi) (f : Fs) : TA := fun σ H Q => ∃ (δ : Env) (w : Wo), w.H = H ∧ Wd T w ∧ EnvOk T w δ σ ∧ Ξ w σ ∧ Post T W w σ (Reps T) (f δ w.S) Q
def tEvT (T : Tb) (W : WX) (Ξ : Xi) (f : Env → Store → R Bool) : TT := fun σ H Q => ∃ (δ : Env) (w : Wo), w.H = H ∧ Wd T w ∧ EnvOk T w δ σ ∧ Ξ w σ ∧ Post T W w σ (fun _ (a b : Bool) => a = b) (f δ w.S) Q
def PostS (T : Tb) (W : WX) (w : Wo) (r : RS) (E : Ends) : Prop := match r with
  | .nx δ' S' => ∀ (w' : Wo) (σ' : St), w'.S = S' → Wd T w' → Step w w' → EnvOk T w' δ' σ' → E.nx σ' w'.H
  | .bk δ' S' => ∀ (w' : Wo) (σ' : St), w'.S = S' → Wd T w' → Step w w' → EnvOk T w' δ' σ' → E.bk σ' w'.H
  | .ct δ' S' => ∀ (w' : Wo) (σ' : St), w'.S = S' → Wd T w' → Step w w' → EnvOk T w' δ' σ' → E.ct σ' w'.H
  | .rt d S' => ∀ (w' : Wo) (v : V), w'.S = S' → Wd T w' → Step w w' → Rep T w' d v → E.rt v w'.H
  | .ex c v δ' S' => ∀ (w' : Wo) (σ' : St) (cls : Value) (dd : Option Addr), w'.S = S' → Wd T w' → Step w w' → EnvOk T w' δ' σ' → RepX T w' c v cls dd → W cls dd σ' w'.H
  | .stuck => False
def tSt (T : Tb) (W : WX) (g : FS) : TS := fun E σ H => ∃ (δ : Env) (w : Wo), w.H = H ∧ Wd T w ∧ EnvOk T w δ σ ∧ PostS T W w (g δ w.S) E
end PV

namespace PV
open PySem L2

inductive Op2 where | add | sub | mul | fdiv | mod | pow
inductive CO where | eq | ne | lt | le | gt | ge | is_ | isn | in_ | nin
inductive Ty where | int | bool | str | list | tuple | dict | own (c : Nat)
inductive Bi where | len | max | min | abs | all | any | sum | list (m : Bool) | tuple | repr | int
inductive Tg where | one (i : Nat) | tup (is : List Nat)
inductive C where
  | var (i : Nat) | con (d : D) | glob (x : Nat)
  | bin (o : Op2) (a b : C) | neg (a : C) | not (a : C) | and (a b : C) | or (a b : C) | ite (c a b : C)
  | cmp (o : CO) (a b : C) | chain (o p : CO) (a b c : C)
  | nil | cons (a b : C)
  | tup (es : C) | lst (m : Bool) (es : C) | dct (m : Bool) (ks vs : C)
  | call (f : Nat) (es : C) | bi (b : Bi) (es : C) | isi (a : C) (t : Ty)
  | idx (a i : C) | sl (m : Bool) (a lo hi : C) | rev (m : Bool) (a : C)
  | comp (m : Bool) (tg : Tg) (src cnd elt : C) | comp2 (m : Bool) (tg : Tg) (src cnd : C) (tg2 : Tg) (src2 cnd2 elt : C)
  | rng (a b : C) | enum (a : C) | zip (a b : C)
  | eget (f : Nat) | eis (c : Nat) | app (a e : C) | frz (a : C)
  | tst (e : C) | tcmp (o : CO) (a b : C) | tchain (o p : CO) (a b c : C)
  | set (tg : Tg) (e : C) | stI (a i e : C) | expr (e : C) | ret (e : C) | retN | ifs (c a b : C)
  | for_ (tg : Tg) (src b : C) | while_ (c b : C) | raise_ (x : Nat) (e : C) | try_ (b : C) (x i : Nat) (h : C)
  | pass | brk | cnt | frzV (i : Nat)

/-! primitives -/
def fits (n : Nat) : Bool := decide (n ≤ 16777216)
/-- what is to be read where d stands -/
def deref (S : Store) (d : D) : D := match d with
  | .ref n => match S[n]? with
    | some (.lst ds) => .lst ds
    | some (.dct ks vs) => .dct ks vs
    | some (.ins c fs vs) => .obj c fs vs
    | _ => .ref n
  | d => d
def newL (m : Bool) (ds : List D) (S : Store) : R D := if fits ds.length then (if m then .ok (.ref S.length) (S ++ [.lst ds]) else .ok (.lst ds) S) else .stuck
mutual
def toP (S : Store) : D → Option PyData
  | .non => some .none
  | .bl b => some (.bool b)
  | .int i => some (.int i)
  | .str x => some (.str x)
  | .tup ds => (toPs S ds).map .tuple
  | .lst ds => (toPs S ds).map .list
  | .dct ks vs => match toPs S ks, toPs S vs with
    | some a, some b => some (.dict (a.zip b))
    | _, _ => none
  | _ => none
def toPs (S : Store) : List D → Option (List PyData)
  | [] => some []
  | d :: ds => match toP S d, toPs S ds with
    | some a, some b => some (a :: b)
    | _, _ => none
end
def eqD (S : Store) (a b : D) : Option Bool := match a, b with
  | .int i, .int j => some (decide (i = j))
  | .str x, .str y => some (decide (x = y))
  | .bl x, .bl y => some (decide (x = y))
  | _, _ => match toP S (deref S a), toP S (deref S b) with
    | some p, some q => if SeqAt.shaped p && SeqAt.shaped q then some (PyData.eqv p q) else none
    | _, _ => none
def truD (S : Store) (d : D) : Option Bool := match deref S d with
  | .non => some false
  | .bl b => some b
  | .int i => some (i != 0)
  | .str x => if fits x.length then some ((x.length : Int) != 0) else none
  | .tup ds => some (!ds.isEmpty)
  | .lst ds => some (!ds.isEmpty)
  | _ => none
def mulOk (i j : Int) : Bool := decide (i.natAbs.log2 + j.natAbs.log2 < 1000000)
def bin2 (o : Op2) (a b : D) (S : Store) : R D := match o, deref S a, deref S b with
  | .add, .int i, .int j => .ok (.int (i + j)) S
  | .add, .str x, .str y => if fits (x.length + y.length) then .ok (.str (x ++ y)) S else .stuck
  | .add, .tup xs, .tup ys => if fits (xs.length + ys.length) then .ok (.tup (xs ++ ys)) S else .stuck
  | .add, .lst xs, .lst ys => if fits (xs.length + ys.length) then .ok (.lst (xs ++ ys)) S else .stuck
  | .add, .scr ns, .lst ys => if fits (ns.length + ys.length) then .ok (.lst (ns.map .int ++ ys)) S else .stuck
  | .sub, .int i, .int j => .ok (.int (i - j)) S
  | .mul, .int i, .int j => if mulOk i j then .ok (.int (i * j)) S else .stuck
  | .mul, .lst xs, .int j => if decide (0 ≤ j) && decide (j ≤ 1000) && fits (xs.length * j.toNat) then .ok (.lst (List.replicate j.toNat xs).flatten) S else .stuck
  | .fdiv, .int i, .int j => if decide (0 < j) && decide (j.natAbs.log2 < 9000) then .ok (.int (i / j)) S else if decide (j < 0) && decide (j.natAbs < 1073741824) then .ok (.int (i.fdiv j)) S else .stuck
  | .mod, .int i, .int j => if decide (0 < j) then .ok (.int (i % j)) S else .stuck
  | .pow, .int i, .int j => if decide (0 ≤ j) && decide (j ≤ 1000) && decide (i.natAbs < 18446744073709551616) then .ok (.int (i ^ j.toNat)) S else .stuck
  | _, _, _ => .stuck
def flatD : D → Bool
  | .non | .bl _ | .int _ | .str _ => true
  | _ => false
def flatEq (a b : D) : Bool := match a, b with
  | .non, .non => true
  | .bl x, .bl y => x == y
  | .int i, .int j => i == j
  | .str x, .str y => x == y
  | .bl x, .int j => (if x then 1 else 0) == j
  | .int i, .bl y => i == (if y then 1 else 0)
  | _, _ => false
def inD (S : Store) (a b : D) : Option Bool := match deref S b with
  | .lst ds => if flatD a && ds.all flatD then some (ds.any fun y => flatEq y a) else none
  | .tup ds => if flatD a && ds.all flatD then some (ds.any fun y => flatEq y a) else none
  | _ => none
def isNon : D → Bool
  | .non => true
  | _ => false
def cmpD (o : CO) (a b : D) (S : Store) : Option Bool := match o with
  | .eq => eqD S a b
  | .ne => (eqD S a b).map (!·)
  | .lt => match a, b with | .int i, .int j => some (decide (i < j)) | _, _ => none
  | .le => match a, b with | .int i, .int j => some (decide (i ≤ j)) | _, _ => none
  | .gt => match a, b with | .int i, .int j => some (decide (j < i)) | _, _ => none
  | .ge => match a, b with | .int i, .int j => some (decide (j ≤ i)) | _, _ => none
  | .is_ => match a, b with
    | .bl x, .bl y => some (decide (x = y))
    | a, .non => some (isNon a)
    | _, _ => none
  | .isn => match a, b with
    | .bl x, .bl y => some (!decide (x = y))
    | a, .non => some (!isNon a)
    | _, _ => none
  | .in_ => inD S a b
  | .nin => (inD S a b).map (!·)
def optB (o : Option Bool) (S : Store) : R Bool := match o with
  | some b => .ok b S
  | none => .stuck
def optD (o : Option Bool) (S : Store) : R D := match o with
  | some b => .ok (.bl b) S
  | none => .stuck
def ixD {α : Type} (ds : List α) (i : Int) : Option α := atI ds i
def idx2 (a i : D) (S : Store) : R D := match deref S a, i with
  | .lst ds, .int k => match ixD ds k with | some d => .ok d S | none => .stuck
  | .tup ds, .int k => match ixD ds k with | some d => .ok d S | none => .stuck
  | .scr ns, .int k => match ixD ns k with | some i => .ok (.int i) S | none => .stuck
  | .str x, .int k => if fits x.length then (match ixD x.cps.toList k with | some c => .ok (.str ⟨#[c]⟩) S | none => .stuck) else .stuck
  | _, _ => .stuck
def cutD {α : Type} (xs : List α) (lo hi : Option Int) : List α := (xs.drop (HT.sIx xs.length 0 lo)).take (HT.sIx xs.length xs.length hi - HT.sIx xs.length 0 lo)
def asInt? : D → Option Int
  | .int i => some i
  | _ => none
def sl2 (m : Bool) (a : D) (lo hi : Option Int) (S : Store) : R D := match deref S a with
  | .lst ds => newL m (cutD ds lo hi) S
  | .tup ds => .ok (.tup (cutD ds lo hi)) S
  | _ => .stuck
def setI (a i e : D) (S : Store) : R D := match a, i with
  | .ref n, .int k => match S[n]? with
    | some (.lst ds) => match ixN ds.length k with
      | some j => .ok .non (S.set n (.lst (ds.set j e)))
      | none => .stuck
    | _ => .stuck
  | _, _ => .stuck
def appD (a e : D) (S : Store) : R D := match a with
  | .ref n => match S[n]? with
    | some (.lst ds) => if fits (ds.length + 1) then .ok .non (S.set n (.lst (ds ++ [e]))) else .stuck
    | _ => .stuck
  | _ => .stuck
def intsD : List D → Option (List Int)
  | [] => some []
  | .int i :: r => (intsD r).map (i :: ·)
  | _ :: _ => none
def blsD : List D → Option (List Bool)
  | [] => some []
  | .bl i :: r => (blsD r).map (i :: ·)
  | _ :: _ => none
def lenD (S : Store) (d : D) : Option Int := match deref S d with
  | .lst ds => some ds.length
  | .tup ds => some ds.length
  | .scr ns => some ns.length
  | .str x => if fits x.length then some x.length else none
  | _ => none
def maxI : Int → List Int → Int
  | m, [] => m
  | m, x :: xs => maxI (if x > m then x else m) xs
def minI : Int → List Int → Int
  | m, [] => m
  | m, x :: xs => minI (if x < m then x else m) xs
def isL : D → Option (List D)
  | .lst ds => some ds
  | _ => none
def flatDct : D → Bool
  | .dct ks vs => ks.all flatD && vs.all flatD
  | _ => false
def reprD (S : Store) (d : D) : Option Str := match toP S (deref S d) with
  | some p => if p.showable && fits p.shown.length && (!p.hasDict || flatDct (deref S d)) && decide (p.depth ≤ 60) then some p.shown else none
  | none => none
def distinct : List Int → List Int
  | [] => []
  | x :: xs => x :: (distinct xs).filter (· != x)
def biLen (ds : List D) (S : Store) : R D := match ds with
  | [d] => match lenD S d with | some n => .ok (.int n) S | none => .stuck
  | _ => .stuck
def biMax (ds : List D) (S : Store) : R D := match ds with
  | [.int i, .int j] => .ok (.int (if j > i then j else i)) S
  | [d] => match deref S d with
    | .lst (x :: xs) => match intsD (x :: xs) with | some (m :: ms) => .ok (.int (maxI m ms)) S | _ => .stuck
    | _ => .stuck
  | _ => .stuck
def biMin (ds : List D) (S : Store) : R D := match ds with
  | [.int i, .int j] => .ok (.int (if j < i then j else i)) S
  | [d] => match deref S d with
    | .lst (x :: xs) => match intsD (x :: xs) with | some (m :: ms) => .ok (.int (minI m ms)) S | _ => .stuck
    | _ => .stuck
  | _ => .stuck
def biAbs (ds : List D) (S : Store) : R D := match ds with
  | [.int i] => .ok (.int (if i < 0 then -i else i)) S
  | _ => .stuck
def biAll (ds : List D) (S : Store) : R D := match ds with
  | [d] => match (isL (deref S d)).bind blsD with | some bs => .ok (.bl (bs.all id)) S | none => .stuck
  | _ => .stuck
def biAny (ds : List D) (S : Store) : R D := match ds with
  | [d] => match (isL (deref S d)).bind blsD with | some bs => .ok (.bl (bs.any id)) S | none => .stuck
  | _ => .stuck
def biSum (ds : List D) (S : Store) : R D := match ds with
  | [d] => match (isL (deref S d)).bind intsD with | some is => .ok (.int is.sum) S | none => .stuck
  | _ => .stuck
def biList (m : Bool) (ds : List D) (S : Store) : R D := match ds with
  | [d] => match deref S d with
    | .lst ds => newL m ds S
    | .tup ds => newL m ds S
    | _ => .stuck
  | _ => .stuck
def biTuple (ds : List D) (S : Store) : R D := match ds with
  | [d] => match deref S d with
    | .lst ds => if fits ds.length then .ok (.tup ds) S else .stuck
    | .tup ds => .ok (.tup ds) S
    | _ => .stuck
  | _ => .stuck
def biRepr (ds : List D) (S : Store) : R D := match ds with
  | [d] => match reprD S d with | some x => .ok (.str x) S | none => .stuck
  | _ => .stuck
def biInt (ds : List D) (S : Store) : R D := match ds with
  | [.bl k] => .ok (.int (if k then 1 else 0)) S
  | [.int i] => .ok (.int i) S
  | _ => .stuck
def biD (b : Bi) (ds : List D) (S : Store) : R D := match b with
  | .len => biLen ds S
  | .max => biMax ds S
  | .min => biMin ds S
  | .abs => biAbs ds S
  | .all => biAll ds S
  | .any => biAny ds S
  | .sum => biSum ds S
  | .list m => biList m ds S
  | .tuple => biTuple ds S
  | .repr => biRepr ds S
  | .int => biInt ds S

def isiD (S : Store) (d : D) (t : Ty) : Option Bool := match deref S d, t with
  | .ref _, _ => none
  | .scr _, _ => none
  | .obj _ _ _, _ => none
  | .bl _, .bool => some true
  | .bl _, .int => some true
  | .int _, .int => some true
  | .str _, .str => some true
  | .lst _, .list => some true
  | .tup _, .tuple => some true
  | .dct _ _, .dict => some true
  | _, .own _ => none
  | _, _ => some false
def bindT (tg : Tg) (d : D) (δ : Env) : Option Env := match tg, d with
  | .one i, d => some (δ.set i (some d))
  | .tup is, .tup ds => if is.length = ds.length then some ((is.zip ds).foldl (fun δ p => δ.set p.1 (some p.2)) δ) else none
  | _, _ => none
def slots : Tg → List Nat
  | .one i => [i]
  | .tup is => is
def wipeD (δ : Env) : List Nat → Env
  | [] => δ
  | v :: vs => (wipeD δ vs).set v none
def frzD (d : D) (S : Store) : R D := match d with
  | .ref n => match S[n]? with
    | some (.lst ds) => .ok (.lst ds) (S.set n .dead)
    | some (.dct ks vs) => .ok (.dct ks vs) (S.set n .dead)
    | some (.ins c fs vs) => .ok (.obj c fs vs) (S.set n .dead)
    | _ => .stuck
  | _ => .stuck
/-- a comprehension's turns; no error leaves them -/
def compL (tg : Tg) (cnd : Env → Store → R Bool) (elt : F) (δ : Env) : List D → Store → R (List D)
  | [], S => .ok [] S
  | d :: ds, S => match bindT tg d (wipeD δ (slots tg)) with
    | none => .stuck
    | some δ1 => match cnd δ1 S with
      | .ok true S1 => match elt δ1 S1 with
        | .ok e S2 => match compL tg cnd elt δ ds S2 with
          | .ok es S3 => .ok (e :: es) S3
          | _ => .stuck
        | _ => .stuck
      | .ok false S1 => compL tg cnd elt δ ds S1
      | _ => .stuck
def forL (tg : Tg) (body : FS) : List D → Env → Store → RS
  | [], δ, S => .nx δ S
  | d :: ds, δ, S => match bindT tg d δ with
    | none => .stuck
    | some δ1 => match body δ1 S with
      | .nx δ2 S2 => forL tg body ds δ2 S2
      | .ct δ2 S2 => forL tg body ds δ2 S2
      | .bk δ2 S2 => .nx δ2 S2
      | r => r
def whileF (cnd : Env → Store → R Bool) (body : FS) : Nat → Env → Store → RS
  | 0, _, _ => .stuck
  | k + 1, δ, S => match cnd δ S with
    | .ok true S1 => match body δ S1 with
      | .nx δ2 S2 => whileF cnd body k δ2 S2
      | .ct δ2 S2 => whileF cnd body k δ2 S2
      | .bk δ2 S2 => .nx δ2 S2
      | r => r
    | .ok false S1 => .nx δ S1
    | .ex c v S1 => .ex c v δ S1
    | .stuck => .stuck
def RofS (δ : Env) (r : R D) (f : D → Store → RS) : RS := match r with
  | .ok d S => f d S
  | .ex c v S => .ex c v δ S
  | .stuck => .stuck

/-- what the evaluator is given: the defs by number, the module's constants, the turns of a while -/
structure Gv where
  cal : Nat → List D → Store → R D
  gl : Nat → D
  fu : Nat
  sub : Nat → Nat → Bool
  ef : Nat → Nat
  cur : Option (Nat × D)
def itD (S : Store) (d : D) : R (List D) := match d with
  | .lst ds => .ok ds S
  | .tup ds => .ok ds S
  | _ => .stuck
def rangeD (i j : Int) : List D := (List.range (j - i).toNat).map fun (k : Nat) => D.int (i + k)
def enumD (ds : List D) : List D := ds.zipIdx.map fun (d, k) => D.tup [.int (k : Nat), d]
def zipD (a b : D) : Option (List D) := match a, b with
  | .lst xs, .lst ys => some ((xs.zip ys).map fun (x, y) => D.tup [x, y])
  | .tup xs, .tup ys => some ((xs.zip ys).map fun (x, y) => D.tup [x, y])
  | _, _ => none
def inR (i : Int) : Bool := decide (-4611686018427387904 ≤ i) && decide (i < 4611686018427387904)

mutual
def ev (G : Gv) : C → F
  | .var i => fun δ S => match δ[i]? with
    | some (some d) => .ok d S
    | _ => .stuck
  | .con d => fun _ S => .ok d S
  | .glob x => fun _ S => .ok (G.gl x) S
  | .bin o a b => fun δ S => (ev G a δ S).bind fun x S1 => (ev G b δ S1).bind fun y S2 => bin2 o x y S2
  | .neg a => fun δ S => (ev G a δ S).bind fun x S1 => match x with
    | .int i => .ok (.int (-i)) S1
    | _ => .stuck
  | .not a => fun δ S => (ev G a δ S).bind fun x S1 => match truD S1 x with
    | some b => .ok (.bl (!b)) S1
    | none => .stuck
  | .and a b => fun δ S => (ev G a δ S).bind fun x S1 => match truD S1 x with
    | some true => ev G b δ S1
    | some false => .ok x S1
    | none => .stuck
  | .or a b => fun δ S => (ev G a δ S).bind fun x S1 => match truD S1 x with
    | some true => .ok x S1
    | some false => ev G b δ S1
    | none => .stuck
  | .ite c a b => fun δ S => (evT G c δ S).bind fun x S1 => if x then ev G a δ S1 else ev G b δ S1
  | .cmp o a b => fun δ S => (ev G a δ S).bind fun x S1 => (ev G b δ S1).bind fun y S2 => optD (cmpD o x y S2) S2
  | .chain o p a b c => fun δ S => (ev G a δ S).bind fun x S1 => (ev G b δ S1).bind fun y S2 => match cmpD o x y S2 with
    | some true => (ev G c δ S2).bind fun z S3 => optD (cmpD p y z S3) S3
    | some false => .ok (.bl false) S2
    | none => .stuck
  | .tup es => fun δ S => (evs G es δ S).bind fun ds S1 => if fits ds.length then .ok (.tup ds) S1 else .stuck
  | .lst m es => fun δ S => (evs G es δ S).bind fun ds S1 => newL m ds S1
  | .dct _ ks vs => fun _ S => match ks, vs with
    | .nil, .nil => .ok (.dct [] []) S
    | _, _ => .stuck
  | .call f es => fun δ S => (evs G es δ S).bind fun ds S1 => G.cal f ds S1
  | .bi b es => fun δ S => (evs G es δ S).bind fun ds S1 => biD b ds S1
  | .isi a t => fun δ S => (ev G a δ S).bind fun x S1 => optD (isiD S1 x t) S1
  | .idx a i => fun δ S => (ev G a δ S).bind fun x S1 => (ev G i δ S1).bind fun y S2 => idx2 x y S2
  | .sl m a lo hi => fun δ S => (ev G a δ S).bind fun x S1 => (evO G lo δ S1).bind fun l S2 => (evO G hi δ S2).bind fun h S3 => sl2 m x l h S3
  | .rev m a => fun δ S => (ev G a δ S).bind fun x S1 => match deref S1 x with
    | .tup ds => .ok (.tup ds.reverse) S1
    | .lst ds => newL m ds.reverse S1
    | _ => .stuck
  | .comp m tg src cnd elt => fun δ S => (evI G src δ S).bind fun its S1 => (compL tg (evT G cnd) (ev G elt) δ its S1).bind fun ds S2 => newL m ds S2
  | .eget f => fun _ S => match G.cur with
    | some (c, v) => if G.ef c = f then .ok v S else .stuck
    | none => .stuck
  | .eis c => fun _ S => match G.cur with
    | some (k, _) => .ok (.bl (G.sub k c)) S
    | none => .stuck
  | .app a e => fun δ S => (ev G a δ S).bind fun x S1 => if (isL (deref S1 x)).isSome then (ev G e δ S1).bind fun y S2 => appD x y S2 else .stuck
  | .frz a => fun δ S => (ev G a δ S).bind fun x S1 => frzD x S1
  | _ => fun _ _ => .stuck
def evs (G : Gv) : C → Fs
  | .nil => fun _ S => .ok [] S
  | .cons a b => fun δ S => (ev G a δ S).bind fun x S1 => (evs G b δ S1).bind fun xs S2 => .ok (x :: xs) S2
  | _ => fun _ _ => .stuck
def evO (G : Gv) : C → Env → Store → R (Option Int)
  | .nil => fun _ S => .ok none S
  | .cons a _ => fun δ S => (ev G a δ S).bind fun x S1 => match x with
    | .int i => .ok (some i) S1
    | _ => .stuck
  | _ => fun _ _ => .stuck
def evT (G : Gv) : C → Env → Store → R Bool
  | .nil => fun _ S => .ok true S
  | .not a => fun δ S => (evT G a δ S).bind fun b S1 => .ok (!b) S1
  | .and a b => fun δ S => (evT G a δ S).bind fun x S1 => if x then evT G b δ S1 else .ok false S1
  | .or a b => fun δ S => (evT G a δ S).bind fun x S1 => if x then .ok true S1 else evT G b δ S1
  | .tst e => fun δ S => (ev G e δ S).bind fun x S1 => optB (truD S1 x) S1
  | .tcmp o a b => fun δ S => (ev G a δ S).bind fun x S1 => (ev G b δ S1).bind fun y S2 => optB (cmpD o x y S2) S2
  | .tchain o p a b c => fun δ S => (ev G a δ S).bind fun x S1 => (ev G b δ S1).bind fun y S2 => match cmpD o x y S2 with
    | some true => (ev G c δ S2).bind fun z S3 => optB (cmpD p y z S3) S3
    | some false => .ok false S2
    | none => .stuck
  | _ => fun _ _ => .stuck
def evI (G : Gv) : C → Fs
  | .rng a b => fun δ S => (ev G a δ S).bind fun x S1 => (ev G b δ S1).bind fun y S2 => match x, y with
    | .int i, .int j => if inR i && inR j then .ok (rangeD i j) S2 else .stuck
    | _, _ => .stuck
  | .enum a => fun δ S => (ev G a δ S).bind fun x S1 => match x with
    | .lst ds => .ok (enumD ds) S1
    | _ => .stuck
  | .zip a b => fun δ S => (ev G a δ S).bind fun x S1 => (ev G b δ S1).bind fun y S2 => match zipD x y with
    | some ds => .ok ds S2
    | none => .stuck
  | .tst a => fun δ S => (ev G a δ S).bind fun x S1 => itD S1 x
  | _ => fun _ _ => .stuck
def ex (G : Gv) : C → FS
  | .nil => fun δ S => .nx δ S
  | .cons (.frzV i) b => fun δ S => match δ[i]? with
    | some (some d) => match frzD d S with
      | .ok e S1 => ex G b (δ.set i (some e)) S1
      | _ => .stuck
    | _ => .stuck
  | .cons a b => fun δ S => match ex G a δ S with
    | .nx δ1 S1 => ex G b δ1 S1
    | r => r
  | .set tg e => fun δ S => RofS δ (ev G e δ S) fun d S1 => match bindT tg d δ with
    | some δ1 => .nx δ1 S1
    | none => .stuck
  | .stI a i e => fun δ S => RofS δ (ev G e δ S) fun z S1 => RofS δ (ev G a δ S1) fun x S2 => RofS δ (ev G i δ S2) fun y S3 => RofS δ (setI x y z S3) fun _ S4 => .nx δ S4
  | .expr e => fun δ S => RofS δ (ev G e δ S) fun _ S1 => .nx δ S1
  | .ret e => fun δ S => RofS δ (ev G e δ S) fun d S1 => .rt d S1
  | .retN => fun _ S => .rt .non S
  | .ifs c a b => fun δ S => match evT G c δ S with
    | .ok true S1 => ex G a δ S1
    | .ok false S1 => ex G b δ S1
    | .ex c v S1 => .ex c v δ S1
    | .stuck => .stuck
  | .for_ tg src b => fun δ S => match evI G src δ S with
    | .ok its S1 => forL tg (ex G b) its δ S1
    | .ex c v S1 => .ex c v δ S1
    | .stuck => .stuck
  | .while_ c b => fun δ S => whileF (evT G c) (ex G b) G.fu δ S
  | .raise_ x e => fun δ S => RofS δ (ev G e δ S) fun d S1 => .ex x d δ S1
  | .try_ b x i h => fun δ S => match ex G b δ S with
    | .ex c v δ1 S1 => if G.sub c x then (match (if i < δ1.length then ev { G with cur := some (c, v) } h (δ1.set i none) S1 else .stuck) with
      | .ok d S2 => .rt d S2
      | _ => .stuck) else .ex c v δ1 S1
    | r => r
  | .pass => fun δ S => .nx δ S
  | .brk => fun δ S => .bk δ S
  | .cnt => fun δ S => .ct δ S
  | _ => fun _ _ => .stuck
end
end PV

namespace PV
open PySem L2

section
variable {T : Tb} {W : WX} {w : Wo} {σ : St} {α β γ δ' : Type} {Rl : Wo → α → β → Prop} {Rm : Wo → γ → δ' → Prop}
theorem Post.mono {r : R α} {Q Q' : β → Hp → Prop} (h : Post T W w σ Rl r Q) (k : ∀ v H, Q v H → Q' v H) : Post T W w σ Rl r Q' := by
  cases r with
  | ok a S => exact fun w' v e wd st rl => k _ _ (h w' v e wd st rl)
  | ex c v S => exact h
  | stuck => exact h
theorem Post.step {r : R α} {w' : Wo} {Q : β → Hp → Prop} (st : Step w w') (h : Post T W w σ Rl r Q) : Post T W w' σ Rl r Q := by
  cases r with
  | ok a S => exact fun w2 v e wd s2 rl => h w2 v e wd (st.trans s2) rl
  | ex c v S => exact fun w2 cl dd e wd s2 rx => h w2 cl dd e wd (st.trans s2) rx
  | stuck => exact h
theorem Post.split {r : R α} {f : α → Store → R γ} {Q : δ' → Hp → Prop} (h : Post T W w σ Rm (r.bind f) Q) :
    Post T W w σ Rl r fun v1 H1 => ∃ (w1 : Wo) (d1 : α), w1.H = H1 ∧ Wd T w1 ∧ Step w w1 ∧ Rl w1 d1 v1 ∧ Post T W w1 σ Rm (f d1 w1.S) Q := by
  cases r with
  | ok a S =>
    intro w' v e wd st rl
    refine ⟨w', a, rfl, wd, st, rl, Post.step st ?_⟩
    rw [e]
    exact h
  | ex c v S => exact h
  | stuck => exact h
end
/-- the things to be read at a value -/
theorem deref_lst {T : Tb} {w : Wo} (wd : Wd T w) {d : D} {v : V} {ds : List D} (r : Rep T w d v) (e : deref w.S d = .lst ds) : ∃ a vs, v = .ref a ∧ w.H a = some (.lst vs) ∧ Reps T w ds vs := by
  cases r with
  | lst h rs =>
    cases e
    exact ⟨_, _, rfl, h.1, rs⟩
  | @ref n a hn =>
    unfold deref at e
    dsimp only at e
    obtain ⟨c, hc⟩ := wd.cellAt hn
    rw [hc] at e
    have k := wd.cell n c a hc hn
    cases c with
    | lst xs =>
      cases e
      obtain ⟨vs, h, rs⟩ := k
      exact ⟨a, vs, rfl, h, rs⟩
    | dct _ _ => cases e
    | ins _ _ _ => cases e
    | dead => cases e
  | _ => cases e
theorem deref_tup {T : Tb} {w : Wo} (wd : Wd T w) {d : D} {v : V} {ds : List D} (r : Rep T w d v) (e : deref w.S d = .tup ds) : ∃ a vs, v = .ref a ∧ SqT T.K w.H a vs ∧ StT T w a vs ∧ Reps T w ds vs := by
  cases r with
  | tup h rs =>
    cases e
    exact ⟨_, _, rfl, h.sq, h, rs⟩
  | @ref n a hn =>
    unfold deref at e
    dsimp only at e
    obtain ⟨c, hc⟩ := wd.cellAt hn
    rw [hc] at e
    cases c <;> cases e
  | _ => cases e
theorem deref_int {T : Tb} {w : Wo} (wd : Wd T w) {d : D} {v : V} {i : Int} (r : Rep T w d v) (e : deref w.S d = .int i) : v = .int i := by
  cases r with
  | int j =>
    cases e
    rfl
  | @ref n a hn =>
    unfold deref at e
    dsimp only at e
    obtain ⟨c, hc⟩ := wd.cellAt hn
    rw [hc] at e
    cases c <;> cases e
  | _ => cases e
theorem deref_str {T : Tb} {w : Wo} (wd : Wd T w) {d : D} {v : V} {x : Str} (r : Rep T w d v) (e : deref w.S d = .str x) : v = .str x := by
  cases r with
  | str j =>
    cases e
    rfl
  | @ref n a hn =>
    unfold deref at e
    dsimp only at e
    obtain ⟨c, hc⟩ := wd.cellAt hn
    rw [hc] at e
    cases c <;> cases e
  | _ => cases e
theorem deref_bl {T : Tb} {w : Wo} (wd : Wd T w) {d : D} {v : V} {x : Bool} (r : Rep T w d v) (e : deref w.S d = .bl x) : v = .bl x := by
  cases r with
  | bl j =>
    cases e
    rfl
  | @ref n a hn =>
    unfold deref at e
    dsimp only at e
    obtain ⟨c, hc⟩ := wd.cellAt hn
    rw [hc] at e
    cases c <;> cases e
  | _ => cases e
theorem deref_non {T : Tb} {w : Wo} (wd : Wd T w) {d : D} {v : V} (r : Rep T w d v) (e : deref w.S d = .non) : v = .non := by
  cases r with
  | non => rfl
  | @ref n a hn =>
    unfold deref at e
    dsimp only at e
    obtain ⟨c, hc⟩ := wd.cellAt hn
    rw [hc] at e
    cases c <;> cases e
  | _ => cases e
theorem Reps.len {T : Tb} {w : Wo} : ∀ {ds : List D} {vs : List V}, Reps T w ds vs → ds.length = vs.length
  | _, _, .nil => rfl
  | _, _, .cons _ r => by simp [Reps.len r]
theorem Reps.get {T : Tb} {w : Wo} : ∀ {ds : List D} {vs : List V} {i : Nat} {d : D}, Reps T w ds vs → ds[i]? = some d → ∃ v, vs[i]? = some v ∧ Rep T w d v
  | _, _, _, _, .nil, e => by simp at e
  | _, _, 0, _, .cons r _, e => by simp at e; subst e; exact ⟨_, rfl, r⟩
  | _, _, i + 1, d, .cons _ t, e => by
    obtain ⟨v, h1, h2⟩ := Reps.get (i := i) (d := d) t (by simpa using e)
    exact ⟨v, by simpa using h1, h2⟩
theorem Reps.get' {T : Tb} {w : Wo} : ∀ {ds : List D} {vs : List V} {i : Nat} {v : V}, Reps T w ds vs → vs[i]? = some v → ∃ d, ds[i]? = some d ∧ Rep T w d v
  | _, _, _, _, .nil, e => by simp at e
  | _, _, 0, _, .cons r _, e => by simp at e; subst e; exact ⟨_, rfl, r⟩
  | _, _, i + 1, d, .cons _ t, e => by
    obtain ⟨v, h1, h2⟩ := Reps.get' (i := i) t (by simpa using e)
    exact ⟨v, by simpa using h1, h2⟩
theorem Reps.append {T : Tb} {w : Wo} : ∀ {ds es : List D} {vs us : List V}, Reps T w ds vs → Reps T w es us → Reps T w (ds ++ es) (vs ++ us)
  | _, _, _, _, .nil, s => s
  | _, _, _, _, .cons r t, s => .cons r (Reps.append t s)
theorem Reps.take {T : Tb} {w : Wo} : ∀ {ds : List D} {vs : List V} (n : Nat), Reps T w ds vs → Reps T w (ds.take n) (vs.take n)
  | _, _, 0, _ => .nil
  | _, _, _ + 1, .nil => .nil
  | _, _, n + 1, .cons r t => .cons r (Reps.take n t)
theorem Reps.drop {T : Tb} {w : Wo} : ∀ {ds : List D} {vs : List V} (n : Nat), Reps T w ds vs → Reps T w (ds.drop n) (vs.drop n)
  | _, _, 0, r => r
  | _, _, _ + 1, .nil => .nil
  | _, _, n + 1, .cons _ t => Reps.drop n t
theorem Reps.set {T : Tb} {w : Wo} {d : D} {v : V} (r : Rep T w d v) : ∀ {ds : List D} {vs : List V} (i : Nat), Reps T w ds vs → Reps T w (ds.set i d) (vs.set i v)
  | _, _, _, .nil => .nil
  | _, _, 0, .cons _ t => .cons r t
  | _, _, i + 1, .cons q t => .cons q (Reps.set r i t)
theorem Reps.rep {T : Tb} {w : Wo} {ds : List D} {vs : List V} (h : Reps T w ds vs) : ∀ k : Nat, Reps T w (List.replicate k ds).flatten (List.replicate k vs).flatten
  | 0 => .nil
  | k + 1 => by
    rw [List.replicate_succ, List.replicate_succ, List.flatten_cons, List.flatten_cons]
    exact h.append (h.rep k)
theorem Reps.rev {T : Tb} {w : Wo} : ∀ {ds : List D} {vs : List V}, Reps T w ds vs → Reps T w ds.reverse vs.reverse
  | _, _, .nil => .nil
  | _, _, .cons r t => by
    rw [List.reverse_cons, List.reverse_cons]
    exact (Reps.rev t).append (.cons r .nil)
theorem fits_le {n : Nat} (h : fits n = true) : n ≤ sizeLine := by
  rw [sizeLine_eq]
  exact of_decide_eq_true h
/-- a new list, in the store or not -/
theorem newL_ok {T : Tb} {W : WX} {w : Wo} {σ : St} (wd : Wd T w) {m : Bool} {ds : List D} {vs : List V} (rs : Reps T w ds vs) {Q : VK} (h : Post T W w σ (Rep T) (newL m ds w.S) Q) :
    vs.length ≤ sizeLine ∧ ∀ p, w.H p = none → Q (.ref p) (upd w.H p (.lst vs)) := by
  unfold newL at h
  by_cases f : fits ds.length = true
  · rw [if_pos f] at h
    refine ⟨by rw [← rs.len]; exact fits_le f, fun p hp => ?_⟩
    cases m with
    | true =>
      obtain ⟨w1, s1, l1⟩ := wd.alloc (c := .lst ds) (o := .lst vs) hp fun w' st e => ⟨vs, by rw [e]; exact upd_same, rs.mono st.toMon⟩
      exact h ⟨_, _, _, _⟩ _ rfl w1 s1 (.ref l1)
    | false =>
      obtain ⟨w1, s1, l1⟩ := wd.still hp (.lst vs)
      exact h ⟨_, _, _, _⟩ _ rfl w1 s1 (.lst ⟨upd_same, l1⟩ (rs.mono s1.toMon))
  · rw [if_neg f] at h
    exact h.elim
theorem newT_ok {T : Tb} {W : WX} {w : Wo} {σ : St} (wd : Wd T w) {ds : List D} {vs : List V} (rs : Reps T w ds vs) {Q : VK} (h : Post T W w σ (Rep T) (.ok (.tup ds) w.S) Q) :
    ∀ p, w.H p = none → Q (.ref p) (upd w.H p (.tup vs)) := fun p hp => by
  obtain ⟨w1, s1, l1⟩ := wd.still hp (.tup vs)
  exact h ⟨_, _, _, _⟩ _ rfl w1 s1 (.tup ⟨upd_same, l1⟩ (rs.mono s1.toMon))
/-- the answer stands, nothing was made -/
theorem Post.here {T : Tb} {W : WX} {w : Wo} {σ : St} (wd : Wd T w) {d : D} {v : V} (r : Rep T w d v) {Q : VK} (h : Post T W w σ (Rep T) (.ok d w.S) Q) : Q v w.H := h w v rfl wd (Step.refl w) r

/-! data for == and repr -/
mutual
theorem toP_dp {T : Tb} {w : Wo} : ∀ (d : D) (v : V) (p : PyData), Rep T w d v → toP w.S d = some p → p.hasDict = false → Dp T.K w.H v p
  | .non, _, _, .non, e, _ => by cases e; exact .non
  | .bl b, _, _, .bl _, e, _ => by cases e; exact .bl b
  | .int i, _, _, .int _, e, _ => by cases e; exact .int i
  | .str i, _, _, .str _, e, _ => by cases e; exact .str i
  | .tup ds, _, p, .tup h rs, e, hd => by
    unfold toP at e
    cases q : toPs w.S ds with
    | none => rw [q] at e; cases e
    | some ps =>
      rw [q] at e
      cases e
      exact .tup h.sq (toPs_dp ds _ ps rs q hd)
  | .lst ds, _, p, .lst h rs, e, hd => by
    unfold toP at e
    cases q : toPs w.S ds with
    | none => rw [q] at e; cases e
    | some ps =>
      rw [q] at e
      cases e
      exact .lst h.sq (toPs_dp ds _ ps rs q hd)
  | .dct ks vs, _, p, _, e, hd => by
    unfold toP at e
    split at e
    · cases e
      cases hd
    · cases e
  | .obj _ _ _, _, _, _, e, _ => by cases e
  | .scr _, _, _, _, e, _ => by cases e
  | .ref _, _, _, _, e, _ => by cases e
theorem toPs_dp {T : Tb} {w : Wo} : ∀ (ds : List D) (vs : List V) (ps : List PyData), Reps T w ds vs → toPs w.S ds = some ps → PyData.hasDictAll ps = false → DpAll T.K w.H vs ps
  | [], _, _, .nil, e, _ => by cases e; exact .nil
  | d :: ds, _, ps, .cons r rs, e, hd => by
    unfold toPs at e
    cases q1 : toP w.S d with
    | none => rw [q1] at e; cases e
    | some a =>
      cases q2 : toPs w.S ds with
      | none => rw [q1, q2] at e; cases e
      | some b =>
        rw [q1, q2] at e
        cases e
        have hd' : (a.hasDict || PyData.hasDictAll b) = false := hd
        rw [Bool.or_eq_false_iff] at hd'
        exact .cons (toP_dp d _ a r q1 hd'.1) (toPs_dp ds _ b rs q2 hd'.2)
end
/-- .. through the store's first step -/
theorem deref_dp {T : Tb} {w : Wo} (wd : Wd T w) {d : D} {v : V} {p : PyData} (r : Rep T w d v) (e : toP w.S (deref w.S d) = some p) (hd : p.hasDict = false) : Dp T.K w.H v p := by
  cases q : deref w.S d with
  | lst ds =>
    rw [q] at e
    obtain ⟨a, vs, rfl, h, rs⟩ := deref_lst wd r q
    unfold toP at e
    cases q2 : toPs w.S ds with
    | none => rw [q2] at e; cases e
    | some ps =>
      rw [q2] at e
      cases e
      exact .lst (SqL.of h) (toPs_dp ds _ ps rs q2 hd)
  | tup ds =>
    rw [q] at e
    obtain ⟨a, vs, rfl, h, _, rs⟩ := deref_tup wd r q
    unfold toP at e
    cases q2 : toPs w.S ds with
    | none => rw [q2] at e; cases e
    | some ps =>
      rw [q2] at e
      cases e
      exact .tup h (toPs_dp ds _ ps rs q2 hd)
  | int i =>
    rw [q] at e
    cases e
    rw [deref_int wd r q]
    exact .int i
  | str i =>
    rw [q] at e
    cases e
    rw [deref_str wd r q]
    exact .str i
  | bl i =>
    rw [q] at e
    cases e
    rw [deref_bl wd r q]
    exact .bl i
  | non =>
    rw [q] at e
    cases e
    rw [deref_non wd r q]
    exact .non
  | dct ks vs =>
    rw [q] at e
    unfold toP at e
    split at e
    · cases e
      cases hd
    · cases e
  | obj _ _ _ =>
    rw [q] at e
    cases e
  | scr _ =>
    rw [q] at e
    cases e
  | ref _ =>
    rw [q] at e
    cases e
theorem deref_scr {T : Tb} {w : Wo} (wd : Wd T w) {d : D} {v : V} {ns : List Int} (r : Rep T w d v) (e : deref w.S d = .scr ns) : ∃ a, v = .ref a ∧ SqL T.K w.H a (ns.map V.int) := by
  cases r with
  | scr h =>
    cases e
    exact ⟨_, rfl, h.sq⟩
  | @ref n a hn =>
    unfold deref at e
    dsimp only at e
    obtain ⟨c, hc⟩ := wd.cellAt hn
    rw [hc] at e
    cases c <;> cases e
  | _ => cases e
theorem Reps.ints {T : Tb} {w : Wo} : ∀ ns : List Int, Reps T w (ns.map D.int) (ns.map V.int)
  | [] => .nil
  | n :: ns => .cons (.int n) (Reps.ints ns)
end PV

namespace PV
open PySem L2 PyProof.Rows

section
variable {X : Cx} {T : Tb} {W : WX} {σ0 : L2.St}
def opOf : Op2 → Operator
  | .add => .Add | .sub => .Sub | .mul => .Mult | .fdiv => .FloorDiv | .mod => .Mod | .pow => .Pow
/-- two lists joined, wherever they stand -/
theorem op_catL : OpR X (binaryOp .Add) (fun x y H Q => ∃ l b xs zs, x = .ref l ∧ y = .ref b ∧ SqL X.K H l xs ∧ SqL X.K H b zs ∧ xs.length + zs.length ≤ sizeLine ∧ ∀ p, H p = none → Q (.ref p) (upd H p (.lst (xs ++ zs)))) := by
  intro pins s σ H x y v u Q I rx ry h
  obtain ⟨l, b, xs, zs, rfl, rfl, hl, hb, hz, q⟩ := h
  cases rx
  cases ry
  obtain ⟨its, r1, ⟨⟨c1, d1, t1, sl1⟩, n1, e1, ec1, ed1, et1⟩, z1⟩ := I.list hl
  obtain ⟨its2, r2, ⟨⟨c2, d2, t2, sl2⟩, n2, e2, ec2, ed2, et2⟩, z2⟩ := I.list hb
  cases ec1; cases ed1; cases et1; cases ec2; cases ed2; cases et2
  have k1 := r1.length
  have k2 := r2.length
  refine concat_meets ⟨_, e1, rfl⟩ ⟨_, e2, rfl⟩ noFill_list_add seq_list_add F.slot_list_add F.entry_list_add (F.args_list_add_2 _ _) (list_addW l b its.toArray its2.toArray n1 n2 none none sl1 sl2 (by simp; omega)) ⟨e1, e2, ?_⟩
  have ea : its.toArray ++ its2.toArray = (its ++ its2).toArray := by simp
  rw [ea]
  exact ⟨.ref _, _, I.lnew (t' := s.toks) (r1.append r2) (by rw [List.length_append]; omega), rfl, q _ I.fresh⟩
def rBin (T : Tb) (o : Op2) : R2 := fun x y H Q => ∃ (W : WX) (σ0 : L2.St) (a b : D) (w : Wo), w.H = H ∧ Wd T w ∧ Rep T w a x ∧ Rep T w b y ∧ Post T W w σ0 (Rep T) (bin2 o a b w.S) Q
theorem op_bin (hK : X.K = T.K) (o : Op2) : OpR X (binaryOp (opOf o)) (rBin T o) := by
  intro pins s σ H x y v u Q I rx ry h
  obtain ⟨W, σ0, a, b, w, rfl, wd, ra, rb, h⟩ := h
  unfold bin2 at h
  split at h
  · rename_i i j ha hb
    cases deref_int wd ra ha
    cases deref_int wd rb hb
    exact op_add pins s σ _ _ _ v u Q I rx ry ⟨i, j, rfl, rfl, Post.here wd (.int _) h⟩
  · rename_i i j ha hb
    cases deref_str wd ra ha
    cases deref_str wd rb hb
    split at h
    · rename_i f
      exact op_add_str pins s σ _ _ _ v u Q I rx ry ⟨i, j, rfl, rfl, fits_le f, Post.here wd (.str _) h⟩
    · exact h.elim
  · rename_i xs ys ha hb
    obtain ⟨p, vs, rfl, hp, sp, rs⟩ := deref_tup wd ra ha
    obtain ⟨q, us, rfl, hq, sq, rs'⟩ := deref_tup wd rb hb
    split at h
    · rename_i f
      have hl := rs.len
      have hl' := rs'.len
      refine op_catA pins s σ _ _ _ v u Q I rx ry ⟨p, q, vs, us, rfl, rfl, by rw [hK]; exact hp, by rw [hK]; exact hq, by rw [← hl, ← hl']; exact fits_le f, fun e => ?_, fun e e' => ?_, fun e e' => ?_⟩
      · subst e
        cases rs
        exact Post.here wd (.tup sq rs') h
      · subst e'
        cases rs'
        rw [List.append_nil] at h
        exact Post.here wd (.tup sp rs) h
      · exact newT_ok wd (rs.append rs') h
    · exact h.elim
  · rename_i xs ys ha hb
    obtain ⟨p, vs, rfl, hp, rs⟩ := deref_lst wd ra ha
    obtain ⟨q, us, rfl, hq, rs'⟩ := deref_lst wd rb hb
    split at h
    · rename_i f
      have hl := rs.len
      have hl' := rs'.len
      refine op_catL pins s σ _ _ _ v u Q I rx ry ⟨p, q, vs, us, rfl, rfl, SqL.of hp, SqL.of hq, by rw [← hl, ← hl']; exact fits_le f, ?_⟩
      exact (newL_ok (m := false) wd (rs.append rs') (by unfold newL; rw [List.length_append, if_pos f]; exact h)).2
    · exact h.elim
  · rename_i ns ys ha hb
    obtain ⟨p, rfl, hp⟩ := deref_scr wd ra ha
    obtain ⟨q, us, rfl, hq, rs'⟩ := deref_lst wd rb hb
    split at h
    · rename_i f
      have hl' := rs'.len
      refine op_catL pins s σ _ _ _ v u Q I rx ry ⟨p, q, _, us, rfl, rfl, by rw [hK]; exact hp, SqL.of hq, by rw [List.length_map, ← hl']; exact fits_le f, ?_⟩
      exact (newL_ok (m := false) wd ((Reps.ints ns).append rs') (by unfold newL; rw [List.length_append, List.length_map, if_pos f]; exact h)).2
    · exact h.elim
  · rename_i i j ha hb
    cases deref_int wd ra ha
    cases deref_int wd rb hb
    exact op_sub pins s σ _ _ _ v u Q I rx ry ⟨i, j, rfl, rfl, Post.here wd (.int _) h⟩
  · rename_i i j ha hb
    cases deref_int wd ra ha
    cases deref_int wd rb hb
    split at h
    · rename_i f
      exact op_mulW pins s σ _ _ _ v u Q I rx ry ⟨i, j, rfl, rfl, (show i.natAbs.log2 + j.natAbs.log2 < 1000000 from of_decide_eq_true f), Post.here wd (.int _) h⟩
    · exact h.elim
  · rename_i xs j ha hb
    obtain ⟨p, vs, rfl, hp, rs⟩ := deref_lst wd ra ha
    cases deref_int wd rb hb
    split at h
    · rename_i f
      rw [Bool.and_eq_true, Bool.and_eq_true] at f
      have f1 : 0 ≤ j := of_decide_eq_true f.1.1
      have f2 : j ≤ 1000 := of_decide_eq_true f.1.2
      have hl := rs.len
      refine op_rep pins s σ _ _ _ v u Q I rx ry ⟨p, j, vs, rfl, rfl, hp, by omega, by omega, by rw [← hl]; exact fits_le f.2, ?_⟩
      refine (newL_ok (m := false) (W := W) (σ := σ0) wd (rs.rep j.toNat) ?_).2
      unfold newL
      rw [PyProof.Rows.lm_len_rep_flat, Nat.mul_comm, if_pos f.2]
      exact h
    · exact h.elim
  · rename_i i j ha hb
    cases deref_int wd ra ha
    cases deref_int wd rb hb
    split at h
    · rename_i f
      rw [Bool.and_eq_true] at f
      exact op_fdivW pins s σ _ _ _ v u Q I rx ry ⟨i, j, rfl, rfl, ⟨of_decide_eq_true f.1, of_decide_eq_true f.2⟩, Post.here wd (.int _) h⟩
    · split at h
      · rename_i f
        rw [Bool.and_eq_true] at f
        have f1 : j < 0 := of_decide_eq_true f.1
        exact op_fdivN pins s σ _ _ _ v u Q I rx ry ⟨i, j, rfl, rfl, ⟨by omega, of_decide_eq_true f.2⟩, Post.here wd (.int _) h⟩
      · exact h.elim
  · rename_i i j ha hb
    cases deref_int wd ra ha
    cases deref_int wd rb hb
    split at h
    · rename_i f
      exact op_mod pins s σ _ _ _ v u Q I rx ry ⟨i, j, rfl, rfl, of_decide_eq_true f, Post.here wd (.int _) h⟩
    · exact h.elim
  · rename_i i j ha hb
    cases deref_int wd ra ha
    cases deref_int wd rb hb
    split at h
    · rename_i f
      rw [Bool.and_eq_true, Bool.and_eq_true] at f
      have f2 : j ≤ 1000 := of_decide_eq_true f.1.2
      exact op_pow pins s σ _ _ _ v u Q I rx ry ⟨i, j, rfl, rfl, ⟨of_decide_eq_true f.1.1, by omega, of_decide_eq_true f.2⟩, Post.here wd (.int _) h⟩
    · exact h.elim
  · exact h.elim
end
end PV

namespace PV
open PySem L2 PyProof.Rows

section
variable {X : Cx} {T : Tb} {W : WX} {σ0 : L2.St} {w : Wo}
def cmpOf : CO → CmpOp
  | .eq => .Eq | .ne => .NotEq | .lt => .Lt | .le => .LtE | .gt => .Gt | .ge => .GtE | .is_ => .Is | .isn => .IsNot | .in_ => .In | .nin => .NotIn
def rCmp (T : Tb) (o : CO) : R2 := fun x y H Q => ∃ (a b : D) (w : Wo) (k : Bool), w.H = H ∧ Wd T w ∧ Rep T w a x ∧ Rep T w b y ∧ cmpD o a b w.S = some k ∧ Q (.bl k) H
theorem flat_rep {d : D} {v : V} (r : Rep T w d v) (f : flatD d = true) : flatV v = true := by
  cases r <;> first | rfl | cases f
theorem flat_reps : ∀ {ds : List D} {vs : List V}, Reps T w ds vs → ds.all flatD = true → vs.all flatV = true
  | _, _, .nil, _ => rfl
  | _, _, .cons r t, f => by
    rw [List.all_cons, Bool.and_eq_true] at f ⊢
    exact ⟨flat_rep r f.1, flat_reps t f.2⟩
theorem flat_eq {a b : D} {x y : V} (ra : Rep T w a x) (rb : Rep T w b y) (fa : flatD a = true) (fb : flatD b = true) : eqV x y = flatEq a b := by
  cases ra <;> first | (cases rb <;> first | rfl | (exact absurd fb (by simp [flatD]))) | (exact absurd fa (by simp [flatD]))
theorem flat_any {b : D} {y : V} (rb : Rep T w b y) (fb : flatD b = true) : ∀ {ds : List D} {vs : List V}, Reps T w ds vs → ds.all flatD = true → (vs.any fun z => eqV z y) = ds.any fun z => flatEq z b
  | _, _, .nil, _ => rfl
  | _, _, .cons r t, f => by
    rw [List.all_cons, Bool.and_eq_true] at f
    rw [List.any_cons, List.any_cons, flat_eq r rb f.1 fb, flat_any rb fb t f.2]
theorem in_ok (hK : X.K = T.K) (wd : Wd T w) {a b : D} {x y : V} (ra : Rep T w a x) (rb : Rep T w b y) {k : Bool} (h : inD w.S a b = some k) : ∃ p xs, y = .ref p ∧ (SqL X.K w.H p xs ∨ SqT X.K w.H p xs) ∧ flatV x = true ∧ xs.all flatV = true ∧ inV x xs = k := by
  unfold inD at h
  split at h
  · rename_i ds e
    split at h
    · rename_i f
      rw [Bool.and_eq_true] at f
      obtain ⟨p, vs, rfl, hp, rs⟩ := deref_lst wd rb e
      cases h
      exact ⟨p, vs, rfl, .inl (SqL.of hp), flat_rep ra f.1, flat_reps rs f.2, flat_any ra f.1 rs f.2⟩
    · cases h
  · rename_i ds e
    split at h
    · rename_i f
      rw [Bool.and_eq_true] at f
      obtain ⟨p, vs, rfl, hp, _, rs⟩ := deref_tup wd rb e
      cases h
      exact ⟨p, vs, rfl, .inr (by rw [hK]; exact hp), flat_rep ra f.1, flat_reps rs f.2, flat_any ra f.1 rs f.2⟩
    · cases h
  · cases h
theorem non_is {d : D} {v : V} (r : Rep T w d v) : decide (v = .non) = isNon d := by
  cases r <;> rfl
theorem eq_ok (wd : Wd T w) {a b : D} {x y : V} (ra : Rep T w a x) (rb : Rep T w b y) {k : Bool} (h : eqD w.S a b = some k) :
    (scal x y = true ∧ decide (x = y) = k) ∨ ∃ d e, Dp T.K w.H x d ∧ Dp T.K w.H y e ∧ SeqAt.shaped d = true ∧ SeqAt.shaped e = true ∧ PyData.eqv d e = k := by
  unfold eqD at h
  split at h
  · cases ra
    cases rb
    cases h
    exact .inl ⟨rfl, by simp⟩
  · cases ra
    cases rb
    cases h
    exact .inl ⟨rfl, by simp⟩
  · cases ra
    cases rb
    cases h
    exact .inl ⟨rfl, by simp⟩
  · split at h
    · rename_i p q ep eq
      split at h
      · rename_i f
        rw [Bool.and_eq_true] at f
        cases h
        have dp : p.hasDict = false := PyData.hasDict_of_canLay p (SeqAt.canLay_of_shaped f.1)
        have dq : q.hasDict = false := PyData.hasDict_of_canLay q (SeqAt.canLay_of_shaped f.2)
        exact .inr ⟨p, q, deref_dp wd ra ep dp, deref_dp wd rb eq dq, f.1, f.2, rfl⟩
      · cases h
    · cases h
theorem op_cmp (hK : X.K = T.K) (hu : X.A.units + 64 < cLine) (o : CO) : OpR X (compareOp (cmpOf o)) (rCmp T o) := by
  intro pins s σ H x y v u Q I rx ry h
  obtain ⟨a, b, w, k, rfl, wd, ra, rb, e, q⟩ := h
  cases o with
  | eq =>
    rcases eq_ok wd ra rb e with ⟨h1, h2⟩ | ⟨d, f, h1, h2, h3, h4, h5⟩
    · exact op_eq pins s σ _ _ _ v u Q I rx ry ⟨h1, by rw [h2]; exact q⟩
    · exact op_eqD hu pins s σ _ _ _ v u Q I rx ry ⟨d, f, by rw [hK]; exact h1, by rw [hK]; exact h2, h3, h4, by rw [h5]; exact q⟩
  | ne =>
    have e' : (eqD w.S a b).map (!·) = some k := e
    cases ee : eqD w.S a b with
    | none => rw [ee] at e'; cases e'
    | some k0 =>
      rw [ee] at e'
      cases e'
      rcases eq_ok wd ra rb ee with ⟨h1, h2⟩ | ⟨d, f, h1, h2, h3, h4, h5⟩
      · exact op_ne pins s σ _ _ _ v u Q I rx ry ⟨h1, by rw [h2]; exact q⟩
      · exact op_neD hu pins s σ _ _ _ v u Q I rx ry ⟨d, f, by rw [hK]; exact h1, by rw [hK]; exact h2, h3, h4, by rw [h5]; exact q⟩
  | lt =>
    cases ra <;> first | (cases e; done) | (cases rb <;> first | (cases e; done) | (cases e; exact op_lt pins s σ _ _ _ v u Q I rx ry ⟨_, _, rfl, rfl, q⟩))
  | le =>
    cases ra <;> first | (cases e; done) | (cases rb <;> first | (cases e; done) | (cases e; exact op_le pins s σ _ _ _ v u Q I rx ry ⟨_, _, rfl, rfl, q⟩))
  | gt =>
    cases ra <;> first | (cases e; done) | (cases rb <;> first | (cases e; done) | (cases e; exact op_gt pins s σ _ _ _ v u Q I rx ry ⟨_, _, rfl, rfl, q⟩))
  | ge =>
    cases ra <;> first | (cases e; done) | (cases rb <;> first | (cases e; done) | (cases e; exact op_ge pins s σ _ _ _ v u Q I rx ry ⟨_, _, rfl, rfl, q⟩))
  | is_ =>
    unfold cmpD at e
    dsimp only at e
    split at e
    · cases ra
      cases rb
      cases e
      exact op_is_bl pins s σ _ _ _ v u Q I rx ry ⟨_, _, rfl, rfl, q⟩
    · cases rb
      cases e
      exact op_isN pins s σ _ _ _ v u Q I rx ry ⟨rfl, by rw [non_is ra]; exact q⟩
    · cases e
  | isn =>
    unfold cmpD at e
    dsimp only at e
    split at e
    · cases ra
      cases rb
      cases e
      exact op_isnot_bl pins s σ _ _ _ v u Q I rx ry ⟨_, _, rfl, rfl, q⟩
    · cases rb
      cases e
      refine op_notN pins s σ _ _ _ v u Q I rx ry ⟨rfl, ?_⟩
      rw [non_is ra]
      exact q
    · cases e
  | in_ =>
    obtain ⟨p, xs, rfl, h1, h2, h3, h4⟩ := in_ok hK wd ra rb e
    exact op_in_seq pins s σ _ _ _ v u Q I rx ry ⟨p, xs, rfl, h1, h2, h3, by rw [h4]; exact q⟩
  | nin =>
    have e' : (inD w.S a b).map (!·) = some k := e
    cases ee : inD w.S a b with
    | none => rw [ee] at e'; cases e'
    | some k0 =>
      rw [ee] at e'
      cases e'
      obtain ⟨p, xs, rfl, h1, h2, h3, h4⟩ := in_ok hK wd ra rb ee
      exact op_notIn_seq pins s σ _ _ _ v u Q I rx ry ⟨p, xs, rfl, h1, h2, h3, by rw [h4]; exact q⟩
/-- truth -/
theorem tru_v (hK : X.K = T.K) (wd : Wd T w) {d : D} {v : V} (r : Rep T w d v) {k : Bool} (h : truD w.S d = some k) : TruV X.K v w.H k := by
  have em : ∀ {ds : List D} {vs : List V}, Reps T w ds vs → (!ds.isEmpty) = !vs.isEmpty := fun rs => by cases rs <;> rfl
  unfold truD at h
  split at h
  · rename_i e
    cases deref_non wd r e
    cases h
    rfl
  · rename_i b e
    cases deref_bl wd r e
    cases h
    rfl
  · rename_i i e
    cases deref_int wd r e
    cases h
    rfl
  · rename_i x e
    cases deref_str wd r e
    split at h
    · rename_i f
      cases h
      exact ⟨fits_le f, rfl⟩
    · cases h
  · rename_i ds e
    obtain ⟨a, vs, rfl, ha, _, rs⟩ := deref_tup wd r e
    cases h
    exact .inr (.inl ⟨vs, by rw [hK]; exact ha, em rs⟩)
  · rename_i ds e
    obtain ⟨a, vs, rfl, ha, rs⟩ := deref_lst wd r e
    cases h
    exact .inl ⟨vs, SqL.of ha, em rs⟩
  · cases h
theorem ix_get {ds : List D} {vs : List V} (rs : Reps T w ds vs) {i : Int} {d : D} (h : atI ds i = some d) : ∃ v, atI vs i = some v ∧ Rep T w d v := by
  unfold atI at h ⊢
  rw [← rs.len]
  cases e : ixN ds.length i with
  | none => rw [e] at h; cases h
  | some j =>
    rw [e] at h
    exact rs.get h
def rIdx (T : Tb) : R2 := fun x y H Q => ∃ (W : WX) (σ0 : L2.St) (a b : D) (w : Wo), w.H = H ∧ Wd T w ∧ Rep T w a x ∧ Rep T w b y ∧ Post T W w σ0 (Rep T) (idx2 a b w.S) Q
theorem ix_idx (hK : X.K = T.K) : IxR X (rIdx T) := by
  intro value slice pins s σ H x y v u Q I rx ry h hs
  obtain ⟨W, σ0, a, b, w, rfl, wd, ra, rb, h⟩ := h
  unfold idx2 at h
  split at h
  · rename_i ds k e
    obtain ⟨p, vs, rfl, hp, rs⟩ := deref_lst wd ra e
    cases rb
    split at h
    · rename_i d ed
      obtain ⟨z, hz, rz⟩ := ix_get rs ed
      exact ix_list value slice pins s σ _ _ _ v u Q I rx ry ⟨p, vs, k, z, rfl, rfl, SqL.of hp, hz, Post.here wd rz h⟩ hs
    · exact h.elim
  · rename_i ds k e
    obtain ⟨p, vs, rfl, hp, _, rs⟩ := deref_tup wd ra e
    cases rb
    split at h
    · rename_i d ed
      obtain ⟨z, hz, rz⟩ := ix_get rs ed
      exact ix_tup value slice pins s σ _ _ _ v u Q I rx ry ⟨p, vs, k, z, rfl, rfl, by rw [hK]; exact hp, hz, Post.here wd rz h⟩ hs
    · exact h.elim
  · rename_i ns k e
    obtain ⟨p, rfl, hp⟩ := deref_scr wd ra e
    cases rb
    split at h
    · rename_i i ed
      have hz : atI (ns.map V.int) k = some (.int i) := by
        have ed' : atI ns k = some i := ed
        unfold atI at ed' ⊢
        rw [List.length_map]
        cases e : ixN ns.length k with
        | none => rw [e] at ed'; cases ed'
        | some j =>
          rw [e] at ed'
          show (ns.map V.int)[j]? = _
          rw [List.getElem?_map]
          have : ns[j]? = some i := ed'
          rw [this]
          rfl
      exact ix_list value slice pins s σ _ _ _ v u Q I rx ry ⟨p, _, k, .int i, rfl, rfl, by rw [hK]; exact hp, hz, Post.here wd (.int i) h⟩ hs
    · exact h.elim
  · rename_i z k e
    cases deref_str wd ra e
    cases rb
    split at h
    · rename_i f
      split at h
      · rename_i c ec
        exact ix_str value slice pins s σ _ _ _ v u Q I rx ry ⟨z, k, c, rfl, rfl, fits_le f, ec, Post.here wd (.str _) h⟩ hs
      · exact h.elim
    · exact h.elim
  · exact h.elim
theorem cut_reps {ds : List D} {vs : List V} (rs : Reps T w ds vs) (lo hi : Option Int) : Reps T w (cutD ds lo hi) (cutV vs lo hi) := by
  unfold cutD cutV
  rw [rs.len]
  exact (rs.drop _).take _
def rSl2 (T : Tb) (m : Bool) : V → Option Int → Option Int → Hp → VK → Prop := fun x lo hi H Q => ∃ (W : WX) (σ0 : L2.St) (a : D) (w : Wo), w.H = H ∧ Wd T w ∧ Rep T w a x ∧ Post T W w σ0 (Rep T) (sl2 m a lo hi w.S) Q
theorem sl_sl2 (hK : X.K = T.K) (m : Bool) : SlR X (rSl2 T m) := by
  intro pins s σ H x v vl vu lo hi sl Q I rx hs pl pu h
  obtain ⟨W, σ0, a, w, rfl, wd, ra, h⟩ := h
  unfold sl2 at h
  split at h
  · rename_i ds e
    obtain ⟨p, vs, rfl, hp, rs⟩ := deref_lst wd ra e
    exact sl_list pins s σ _ _ v vl vu lo hi sl Q I rx hs pl pu ⟨p, vs, rfl, SqL.of hp, (newL_ok wd (cut_reps rs lo hi) h).2⟩
  · rename_i ds e
    obtain ⟨p, vs, rfl, hp, st, rs⟩ := deref_tup wd ra e
    refine sl_tupA pins s σ _ _ v vl vu lo hi sl Q I rx hs pl pu ⟨p, vs, rfl, by rw [hK]; exact hp, fun z => ?_, fun _ => newT_ok wd (cut_reps rs lo hi) h⟩
    have hc : cutD ds lo hi = ds := by
      unfold cutD
      rw [rs.len, z.1, z.2, ← rs.len]
      simp
    rw [hc] at h
    exact Post.here wd (.tup st rs) h
  · exact h.elim
/-- a[i] = e -/
theorem set_setI {o i v : V} {a b e : D} {w : Wo} {Q : Hp → Prop} (wd : Wd T w) (ra : Rep T w a o) (rb : Rep T w b i) (re : Rep T w e v)
    (h : Post T W w σ0 (Rep T) (setI a b e w.S) fun _ H => Q H) : rSetL o i v w.H Q := by
  unfold setI at h
  split at h
  · rename_i n k
    cases rb
    cases ra with
    | @ref _ p hn =>
      split at h
      · rename_i ds hS
        split at h
        · rename_i j hj
          obtain ⟨vs, hp, rs⟩ := wd.cell n _ p hS hn
          obtain ⟨w1, s1⟩ := wd.write (c' := .lst (ds.set j e)) (o := .lst (vs.set j v)) hS (fun z => nomatch z) hn fun w' st ee => ⟨_, by rw [ee]; exact upd_same, (rs.mono st.toMon).set (re.mono st.toMon) j⟩
          exact ⟨p, vs, k, j, rfl, rfl, hp, by rw [← rs.len]; exact hj, h ⟨_, _, _, _⟩ .non rfl w1 s1 .non⟩
        · exact h.elim
      · exact h.elim
  · exact h.elim
/-- xs.append(e) -/
theorem app_ok {x y : V} {a e : D} {w : Wo} {Q : VK} (wd : Wd T w) (ra : Rep T w a x) (re : Rep T w e y) (h : Post T W w σ0 (Rep T) (appD a e w.S) Q) : rAppend x [y] w.H Q := by
  unfold appD at h
  split at h
  · rename_i n
    cases ra with
    | @ref _ p hn =>
      split at h
      · rename_i ds hS
        split at h
        · rename_i f
          obtain ⟨vs, hp, rs⟩ := wd.cell n _ p hS hn
          obtain ⟨w1, s1⟩ := wd.write (c' := .lst (ds ++ [e])) (o := .lst (vs ++ [y])) hS (fun z => nomatch z) hn fun w' st ee => ⟨_, by rw [ee]; exact upd_same, (rs.mono st.toMon).append (.cons (re.mono st.toMon) .nil)⟩
          have := fits_le f
          exact ⟨p, vs, y, rfl, rfl, hp, by rw [← rs.len]; omega, h ⟨_, _, _, _⟩ .non rfl w1 s1 .non⟩
        · exact h.elim
      · exact h.elim
  · exact h.elim
/-- freezing: the same value, another reading of it -/
theorem frz_ok {d e : D} {S' : Store} {v : V} {w : Wo} (wd : Wd T w) (r : Rep T w d v) (h : frzD d w.S = .ok e S') : ∃ w' : Wo, w'.S = S' ∧ w'.H = w.H ∧ Wd T w' ∧ Step w w' ∧ Rep T w' e v := by
  unfold frzD at h
  split at h
  · rename_i n
    cases r with
    | @ref _ a hn =>
      split at h
      · rename_i ds hS
        cases h
        obtain ⟨vs, hp, rs⟩ := wd.cell n _ a hS hn
        obtain ⟨w1, s1, l1⟩ := wd.freeze hS hn
        exact ⟨⟨w.S.set n .dead, w.r, w.H, w.x⟩, rfl, rfl, w1, s1, .lst ⟨hp, l1⟩ (rs.mono s1.toMon)⟩
      · rename_i ks vs hS
        cases h
        obtain ⟨kvs, us, hp, pk, rs⟩ := wd.cell n _ a hS hn
        obtain ⟨w1, s1, l1⟩ := wd.freeze hS hn
        exact ⟨⟨w.S.set n .dead, w.r, w.H, w.x⟩, rfl, rfl, w1, s1, .dct hp l1 pk (rs.mono s1.toMon)⟩
      · rename_i c fs vs hS
        cases h
        obtain ⟨dx, us, hp, pk, rs⟩ := wd.cell n _ a hS hn
        obtain ⟨w1, s1, l1⟩ := wd.freeze hS hn
        exact ⟨⟨w.S.set n .dead, w.r, w.H, w.x⟩, rfl, rfl, w1, s1, .obj hp l1 pk (rs.mono s1.toMon)⟩
      · cases h
  · cases h
end
end PV

namespace PV
open PySem L2 PyProof.Rows

section
variable {X : Cx} {T : Tb} {W : WX} {σ0 : L2.St} {w : Wo}
theorem ints_vals : ∀ {ds : List D} {vs : List V} {is : List Int}, Reps T w ds vs → intsD ds = some is → vs = is.map V.int
  | _, _, _, .nil, e => by cases e; rfl
  | d :: ds, v :: vs, is, .cons r t, e => by
    cases r <;> first | (cases e; done) | skip
    rename_i i
    unfold intsD at e
    cases q : intsD ds with
    | none => rw [q] at e; cases e
    | some js =>
      rw [q] at e
      cases e
      rw [ints_vals t q]
      rfl
theorem bls_vals : ∀ {ds : List D} {vs : List V} {is : List Bool}, Reps T w ds vs → blsD ds = some is → vs = is.map V.bl
  | _, _, _, .nil, e => by cases e; rfl
  | d :: ds, v :: vs, is, .cons r t, e => by
    cases r <;> first | (cases e; done) | skip
    rename_i i
    unfold blsD at e
    cases q : blsD ds with
    | none => rw [q] at e; cases e
    | some js =>
      rw [q] at e
      cases e
      rw [bls_vals t q]
      rfl
theorem maxI_ge : ∀ (ms : List Int) (m : Int), m ≤ maxI m ms ∧ ∀ y ∈ ms, y ≤ maxI m ms
  | [], m => ⟨Int.le_refl _, fun y h => by cases h⟩
  | x :: xs, m => by
    obtain ⟨h1, h2⟩ := maxI_ge xs (if x > m then x else m)
    have e : maxI m (x :: xs) = maxI (if x > m then x else m) xs := rfl
    rw [e]
    have k : m ≤ (if x > m then x else m) ∧ x ≤ (if x > m then x else m) := by split <;> omega
    refine ⟨Int.le_trans k.1 h1, fun y hy => ?_⟩
    rcases List.mem_cons.mp hy with rfl | hy
    · exact Int.le_trans k.2 h1
    · exact h2 y hy
theorem maxI_mem : ∀ (ms : List Int) (m : Int), maxI m ms ∈ m :: ms
  | [], m => by simp [maxI]
  | x :: xs, m => by
    have h := maxI_mem xs (if x > m then x else m)
    have e : maxI m (x :: xs) = maxI (if x > m then x else m) xs := rfl
    rw [e]
    rcases List.mem_cons.mp h with h | h
    · rw [h]
      split <;> simp
    · exact List.mem_cons_of_mem _ (List.mem_cons_of_mem _ h)
theorem minI_le : ∀ (ms : List Int) (m : Int), minI m ms ≤ m ∧ ∀ y ∈ ms, minI m ms ≤ y
  | [], m => ⟨Int.le_refl _, fun y h => by cases h⟩
  | x :: xs, m => by
    obtain ⟨h1, h2⟩ := minI_le xs (if x < m then x else m)
    have e : minI m (x :: xs) = minI (if x < m then x else m) xs := rfl
    rw [e]
    have k : (if x < m then x else m) ≤ m ∧ (if x < m then x else m) ≤ x := by split <;> omega
    refine ⟨Int.le_trans h1 k.1, fun y hy => ?_⟩
    rcases List.mem_cons.mp hy with rfl | hy
    · exact Int.le_trans h1 k.2
    · exact h2 y hy
theorem minI_mem : ∀ (ms : List Int) (m : Int), minI m ms ∈ m :: ms
  | [], m => by simp [minI]
  | x :: xs, m => by
    have h := minI_mem xs (if x < m then x else m)
    have e : minI m (x :: xs) = minI (if x < m then x else m) xs := rfl
    rw [e]
    rcases List.mem_cons.mp h with h | h
    · rw [h]
      split <;> simp
    · exact List.mem_cons_of_mem _ (List.mem_cons_of_mem _ h)
theorem reps1 {d : D} {vs : List V} (r : Reps T w [d] vs) : ∃ v, vs = [v] ∧ Rep T w d v := by
  cases r with
  | cons r t =>
    cases t
    exact ⟨_, rfl, r⟩
theorem reps2 {d e : D} {vs : List V} (r : Reps T w [d, e] vs) : ∃ v u, vs = [v, u] ∧ Rep T w d v ∧ Rep T w e u := by
  cases r with
  | cons r t =>
    obtain ⟨u, rfl, q⟩ := reps1 t
    exact ⟨_, u, rfl, r, q⟩
theorem isL_some {d : D} {ds : List D} (h : isL d = some ds) : d = .lst ds := by
  cases d <;> first | (cases h; done) | (cases h; rfl)
def rBi (T : Tb) (b : Bi) : List V → Hp → VK → Prop := fun xs H Q => ∃ (W : WX) (σ0 : L2.St) (ds : List D) (w : Wo), w.H = H ∧ Wd T w ∧ Reps T w ds xs ∧ Post T W w σ0 (Rep T) (biD b ds w.S) Q
theorem call_len' (hK : X.K = T.K) : CallR X (.builtin "len") (rBi T .len) := by
  intro pins s σ H xs us Q I r h
  obtain ⟨W, σ0, ds, w, rfl, wd, rs, h⟩ := h
  cases rs with
  | nil => exact h.elim
  | @cons d v ds' vs' rd rs =>
    cases rs with
    | cons _ _ => exact h.elim
    | nil =>
      have h' : Post T W w σ0 (Rep T) (match lenD w.S d with | some n => .ok (.int n) w.S | none => .stuck) Q := h
      split at h'
      · rename_i n e
        unfold lenD at e
        split at e
        · rename_i ds e2
          obtain ⟨a, vs, rfl, ha, rs⟩ := deref_lst wd rd e2
          cases e
          exact call_len pins s σ _ _ us Q I r ⟨_, _, rfl, .inl ⟨vs, SqL.of ha, rfl⟩, by rw [← rs.len]; exact Post.here wd (.int _) h'⟩
        · rename_i ds e2
          obtain ⟨a, vs, rfl, ha, _, rs⟩ := deref_tup wd rd e2
          cases e
          exact call_len pins s σ _ _ us Q I r ⟨_, _, rfl, .inr ⟨vs, by rw [hK]; exact ha, rfl⟩, by rw [← rs.len]; exact Post.here wd (.int _) h'⟩
        · rename_i ns e2
          obtain ⟨a, rfl, ha⟩ := deref_scr wd rd e2
          cases e
          exact call_len pins s σ _ _ us Q I r ⟨_, _, rfl, .inl ⟨_, by rw [hK]; exact ha, rfl⟩, by rw [List.length_map]; exact Post.here wd (.int _) h'⟩
        · rename_i x e2
          cases deref_str wd rd e2
          split at e
          · rename_i f
            cases e
            exact call_len pins s σ _ _ us Q I r ⟨_, _, rfl, ⟨fits_le f, rfl⟩, Post.here wd (.int _) h'⟩
          · cases e
        · cases e
      · exact h'.elim
theorem call_max' (hc : X.calm = true) : CallR X (.builtin "max") (rBi T .max) := by
  intro pins s σ H xs us Q I r h
  obtain ⟨W, σ0, ds, w, rfl, wd, rs, h⟩ := h
  replace h : Post T W w σ0 (Rep T) (biMax ds w.S) Q := h
  unfold biMax at h
  split at h
  · rename_i i j
    obtain ⟨v, u, rfl, r1, r2⟩ := reps2 rs
    cases r1
    cases r2
    exact call_max2 hc pins s σ _ _ us Q I r ⟨i, j, rfl, Post.here wd (.int _) h⟩
  · rename_i d
    obtain ⟨v, rfl, r1⟩ := reps1 rs
    split at h
    · rename_i x xs e
      split at h
      · rename_i m ms ei
        obtain ⟨a, vs, rfl, ha, rs⟩ := deref_lst wd r1 e
        have ev := ints_vals rs ei
        subst ev
        refine cr_max hc pins s σ _ _ us Q I r ⟨a, m :: ms, rfl, SqL.of ha, by simp, fun k hk hle => ?_⟩
        have h1 := maxI_mem ms m
        have h2 := hle _ h1
        obtain ⟨h3, h4⟩ := maxI_ge ms m
        have h5 : k ≤ maxI m ms := by
          rcases List.mem_cons.mp hk with rfl | hk
          · exact h3
          · exact h4 k hk
        have ek : k = maxI m ms := by omega
        rw [ek]
        exact Post.here wd (.int _) h
      · exact h.elim
    · exact h.elim
  · exact h.elim
theorem call_min' (hc : X.calm = true) : CallR X (.builtin "min") (rBi T .min) := by
  intro pins s σ H xs us Q I r h
  obtain ⟨W, σ0, ds, w, rfl, wd, rs, h⟩ := h
  replace h : Post T W w σ0 (Rep T) (biMin ds w.S) Q := h
  unfold biMin at h
  split at h
  · rename_i i j
    obtain ⟨v, u, rfl, r1, r2⟩ := reps2 rs
    cases r1
    cases r2
    exact call_min2 hc pins s σ _ _ us Q I r ⟨i, j, rfl, Post.here wd (.int _) h⟩
  · rename_i d
    obtain ⟨v, rfl, r1⟩ := reps1 rs
    split at h
    · rename_i x xs e
      split at h
      · rename_i m ms ei
        obtain ⟨a, vs, rfl, ha, rs⟩ := deref_lst wd r1 e
        have ev := ints_vals rs ei
        subst ev
        refine cr_min hc pins s σ _ _ us Q I r ⟨a, m :: ms, rfl, SqL.of ha, by simp, fun k hk hle => ?_⟩
        have h1 := minI_mem ms m
        have h2 := hle _ h1
        obtain ⟨h3, h4⟩ := minI_le ms m
        have h5 : minI m ms ≤ k := by
          rcases List.mem_cons.mp hk with rfl | hk
          · exact h3
          · exact h4 k hk
        have ek : k = minI m ms := by omega
        rw [ek]
        exact Post.here wd (.int _) h
      · exact h.elim
    · exact h.elim
  · exact h.elim
theorem call_abs' : CallR X (.builtin "abs") (rBi T .abs) := by
  intro pins s σ H xs us Q I r h
  obtain ⟨W, σ0, ds, w, rfl, wd, rs, h⟩ := h
  replace h : Post T W w σ0 (Rep T) (biAbs ds w.S) Q := h
  unfold biAbs at h
  split at h
  · rename_i i
    obtain ⟨v, rfl, r1⟩ := reps1 rs
    cases r1
    exact call_abs pins s σ _ _ us Q I r ⟨i, rfl, Post.here wd (.int _) h⟩
  · exact h.elim
theorem call_all' (hc : X.calm = true) : CallR X (.builtin "all") (rBi T .all) := by
  intro pins s σ H xs us Q I r h
  obtain ⟨W, σ0, ds, w, rfl, wd, rs, h⟩ := h
  replace h : Post T W w σ0 (Rep T) (biAll ds w.S) Q := h
  unfold biAll at h
  split at h
  · rename_i d
    obtain ⟨v, rfl, r1⟩ := reps1 rs
    split at h
    · rename_i bs e
      cases q : isL (deref w.S d) with
      | none => rw [q] at e; cases e
      | some ds =>
        rw [q] at e
        obtain ⟨a, vs, rfl, ha, rs⟩ := deref_lst wd r1 (isL_some q)
        have ev := bls_vals rs e
        subst ev
        exact cr_all hc pins s σ _ _ us Q I r ⟨a, bs, rfl, SqL.of ha, Post.here wd (.bl _) h⟩
    · exact h.elim
  · exact h.elim
theorem call_any' (hc : X.calm = true) : CallR X (.builtin "any") (rBi T .any) := by
  intro pins s σ H xs us Q I r h
  obtain ⟨W, σ0, ds, w, rfl, wd, rs, h⟩ := h
  replace h : Post T W w σ0 (Rep T) (biAny ds w.S) Q := h
  unfold biAny at h
  split at h
  · rename_i d
    obtain ⟨v, rfl, r1⟩ := reps1 rs
    split at h
    · rename_i bs e
      cases q : isL (deref w.S d) with
      | none => rw [q] at e; cases e
      | some ds =>
        rw [q] at e
        obtain ⟨a, vs, rfl, ha, rs⟩ := deref_lst wd r1 (isL_some q)
        have ev := bls_vals rs e
        subst ev
        exact cr_any hc pins s σ _ _ us Q I r ⟨a, bs, rfl, SqL.of ha, Post.here wd (.bl _) h⟩
    · exact h.elim
  · exact h.elim
theorem call_sum' (hc : X.calm = true) : CallR X (.builtin "sum") (rBi T .sum) := by
  intro pins s σ H xs us Q I r h
  obtain ⟨W, σ0, ds, w, rfl, wd, rs, h⟩ := h
  replace h : Post T W w σ0 (Rep T) (biSum ds w.S) Q := h
  unfold biSum at h
  split at h
  · rename_i d
    obtain ⟨v, rfl, r1⟩ := reps1 rs
    split at h
    · rename_i bs e
      cases q : isL (deref w.S d) with
      | none => rw [q] at e; cases e
      | some ds =>
        rw [q] at e
        obtain ⟨a, vs, rfl, ha, rs⟩ := deref_lst wd r1 (isL_some q)
        have ev := ints_vals rs e
        subst ev
        exact cr_sum hc pins s σ _ _ us Q I r ⟨a, bs, rfl, SqL.of ha, Post.here wd (.int _) h⟩
    · exact h.elim
  · exact h.elim
theorem call_list' (hK : X.K = T.K) (m : Bool) : CallR X (.type "list") (rBi T (.list m)) := by
  intro pins s σ H xs us Q I r h
  obtain ⟨W, σ0, ds, w, rfl, wd, rs, h⟩ := h
  replace h : Post T W w σ0 (Rep T) (biList m ds w.S) Q := h
  unfold biList at h
  split at h
  · rename_i d
    obtain ⟨v, rfl, r1⟩ := reps1 rs
    split at h
    · rename_i ds e
      obtain ⟨a, vs, rfl, ha, rs⟩ := deref_lst wd r1 e
      exact call_list_of pins s σ _ _ us Q I r ⟨a, vs, rfl, .inl (SqL.of ha), (newL_ok wd rs h).2⟩
    · rename_i ds e
      obtain ⟨a, vs, rfl, ha, _, rs⟩ := deref_tup wd r1 e
      exact call_list_of pins s σ _ _ us Q I r ⟨a, vs, rfl, .inr (by rw [hK]; exact ha), (newL_ok wd rs h).2⟩
    · exact h.elim
  · exact h.elim
theorem call_tuple' (hK : X.K = T.K) : CallR X (.type "tuple") (rBi T .tuple) := by
  intro pins s σ H xs us Q I r h
  obtain ⟨W, σ0, ds, w, rfl, wd, rs, h⟩ := h
  replace h : Post T W w σ0 (Rep T) (biTuple ds w.S) Q := h
  unfold biTuple at h
  split at h
  · rename_i d
    obtain ⟨v, rfl, r1⟩ := reps1 rs
    split at h
    · rename_i ds e
      obtain ⟨a, vs, rfl, ha, rs⟩ := deref_lst wd r1 e
      split at h
      · exact call_tuple_of pins s σ _ _ us Q I r ⟨a, vs, rfl, .inl ⟨SqL.of ha, newT_ok wd rs h⟩⟩
      · exact h.elim
    · rename_i ds e
      obtain ⟨a, vs, rfl, ha, st, rs⟩ := deref_tup wd r1 e
      exact call_tuple_of pins s σ _ _ us Q I r ⟨a, vs, rfl, .inr ⟨by rw [hK]; exact ha, Post.here wd (.tup st rs) h⟩⟩
    · exact h.elim
  · exact h.elim
theorem call_int' : CallR X (.type "int") (rBi T .int) := by
  intro pins s σ H xs us Q I r h
  obtain ⟨W, σ0, ds, w, rfl, wd, rs, h⟩ := h
  replace h : Post T W w σ0 (Rep T) (biInt ds w.S) Q := h
  unfold biInt at h
  split at h
  · rename_i k
    obtain ⟨v, rfl, r1⟩ := reps1 rs
    cases r1
    exact call_int1 pins s σ _ _ us Q I r (.inr ⟨k, rfl, Post.here wd (.int _) h⟩)
  · rename_i i
    obtain ⟨v, rfl, r1⟩ := reps1 rs
    cases r1
    exact call_int1 pins s σ _ _ us Q I r (.inl ⟨i, rfl, Post.here wd (.int _) h⟩)
  · exact h.elim
/-- a dict of flat things, read -/
theorem flat_reads {h : Heap} {d : D} {v : V} {u : Value} {p : PyData} {S : Store} (r : Rep T w d v) (rv : RelV v u) (f : flatD d = true) (e : toP S d = some p) : Reads h u p [] := by
  cases r with
  | non => cases rv; cases e; exact .none
  | bl b => cases rv; cases e; exact .bool b
  | int i => obtain ⟨t, rfl⟩ := rv; cases e; exact .int i t
  | str i => obtain ⟨t, rfl⟩ := rv; cases e; exact .str i t
  | _ => cases f
theorem toPs_cons {S : Store} {d : D} {ds : List D} {ps : List PyData} (e : toPs S (d :: ds) = some ps) : ∃ p q, toP S d = some p ∧ toPs S ds = some q ∧ ps = p :: q := by
  unfold toPs at e
  cases q1 : toP S d with
  | none => rw [q1] at e; cases e
  | some a =>
    cases q2 : toPs S ds with
    | none => rw [q1, q2] at e; cases e
    | some b =>
      rw [q1, q2] at e
      cases e
      exact ⟨a, b, rfl, rfl, rfl⟩
theorem key_reads {S : Store} {h : Heap} {d : D} {k : Key} {u : Value} {p : PyData} (e : keyD d = some k) (ku : keyIs k u = true) (ep : toP S d = some p) : Reads h u p [] := by
  cases d with
  | int i =>
    cases e
    cases ep
    rcases keyIs_shape ku with ⟨j, t, e1, rfl⟩ | ⟨x, t, e1, rfl⟩
    · cases e1
      exact .int _ _
    · cases e1
  | str i =>
    cases e
    cases ep
    rcases keyIs_shape ku with ⟨j, t, e1, rfl⟩ | ⟨x, t, e1, rfl⟩
    · cases e1
    · cases e1
      exact .str _ _
  | _ => cases e
theorem dict_reads {P : Program} {wl : World} {S : Store} {h : Heap} : ∀ {ks vs : List D} {us : List V} {kvs : List (Key × V)} {zs : List (Key × Value)} {es : List DictEntry} {pk pv : List PyData},
    pairK ks us = some kvs → Reps T w vs us → KV kvs zs → Pairs (mixKind P wl) es zs → ks.all flatD = true → vs.all flatD = true → toPs S ks = some pk → toPs S vs = some pv →
    ReadsAll h (es.map (·.key)) pk [] ∧ ReadsAll h (es.map (·.val)) pv [] ∧ pk.length = pv.length
  | [], _, _, _, _, _, _, _, e, .nil, kv, pr, _, _, e1, e2 => by
    cases e
    cases e1
    cases e2
    cases kv
    cases pr
    exact ⟨.nil, .nil, rfl⟩
  | k :: ks, _, v :: us, kvs, _, _, _, _, e, .cons rv rs, kv, pr, f1, f2, e1, e2 => by
    unfold pairK at e
    cases qk : keyD k with
    | none => rw [qk] at e; cases e
    | some kk =>
      cases qp : pairK ks us with
      | none => rw [qk, qp] at e; cases e
      | some kp =>
        rw [qk, qp] at e
        cases e
        cases kv with
        | @cons p0 kv0 _ _ c1 c2 =>
          cases pr with
          | @cons e0 _ es0 kvs0 i1 i2 i3 =>
            obtain ⟨p1, q1, a1, a2, rfl⟩ := toPs_cons e1
            obtain ⟨p2, q2, b1, b2, rfl⟩ := toPs_cons e2
            rw [List.all_cons, Bool.and_eq_true] at f1 f2
            obtain ⟨g1, g2, g3⟩ := dict_reads (P := P) (wl := wl) (S := S) (h := h) qp rs c2 i3 f1.2 f2.2 a2 b2
            obtain ⟨c3, c4⟩ := c1
            refine ⟨?_, ?_, by simp [g3]⟩
            · have := key_reads (h := h) (u := e0.key) qk (show keyIs kk e0.key = true from by rw [show kk = kv0.1 from c3]; exact i1) a1
              exact ReadsAll.cons (as := []) (bs := []) this g1
            · have := flat_reads (h := h) (u := e0.val) rv (show RelV v e0.val from by rw [i2]; exact c4) f2.1 b1
              exact ReadsAll.cons (as := []) (bs := []) this g2
  | [], _, _ :: _, _, _, _, _, _, e, .cons _ _, _, _, _, _, _, _ => by cases e
  | _ :: _, _, [], _, _, _, _, _, e, .nil, _, _, _, _, _, _ => by cases e
theorem zip_fst : ∀ {a b : List PyData}, a.length = b.length → (a.zip b).map (·.1) = a ∧ (a.zip b).map (·.2) = b
  | [], [], _ => ⟨rfl, rfl⟩
  | x :: a, y :: b, h => by
    obtain ⟨h1, h2⟩ := zip_fst (a := a) (b := b) (by simpa using h)
    exact ⟨by simp [h1], by simp [h2]⟩
/-- repr of data -/
theorem call_repr' (hK : X.K = T.K) (hg : X.A.guards = some []) (hu : X.A.units + 64 < cLine) : CallR X (.builtin "repr") (rBi T .repr) := by
  intro pins s σ H xs us Q I r h
  obtain ⟨W, σ0, ds, w, rfl, wd, rs, h⟩ := h
  replace h : Post T W w σ0 (Rep T) (biRepr ds w.S) Q := h
  unfold biRepr at h
  split at h
  · rename_i d
    obtain ⟨v, rfl, rd⟩ := reps1 rs
    obtain ⟨u, rfl, rv⟩ := vals1 r
    split at h
    · rename_i x e
      unfold reprD at e
      split at e
      · rename_i p ep
        split at e
        · rename_i f
          cases e
          rw [Bool.and_eq_true, Bool.and_eq_true, Bool.and_eq_true] at f
          obtain ⟨⟨⟨f1, f2⟩, f3⟩, f4⟩ := f
          have f4 : p.depth ≤ 60 := of_decide_eq_true f4
          have q := Post.here wd (.str p.shown) h
          have sz := fits_le f2
          have fin : ∀ (h' : Heap) (t : Tok) (tk : Nat), (∀ b o, s.heap.get? b = some o → h'.get? b = some o) → EP X pins σ Q (.str p.shown t) { s with heap := h', toks := tk } := fun h' t tk k => ⟨.str p.shown, w.H, I.kept (t' := tk) k, ⟨t, rfl⟩, q⟩
          have byRef : ∀ (a : Addr) (as : List Addr), Reads s.heap (.ref a) p as → (p.hasDict = true → sysModules ∉ as) → wpAny (model X.prog X.w) X.A (call (.builtin "repr") [.ref a]) (EP X pins σ Q) X.xe s := fun a as rr hsm =>
            repr_of_reads' rr f1 hsm hg (by omega) (fun _ _ z => z) fin sz
          by_cases hd : p.hasDict = false
          · have dp := deref_dp wd rd ep hd
            rw [← hK] at dp
            obtain ⟨as, rr⟩ := Dp.reads I p v u dp rv
            cases rr with
            | none => exact PySem.P.repr_of_none (fin s.heap _ _ fun _ _ z => z)
            | bool b => exact PySem.P.repr_of_bool (fin s.heap _ _ fun _ _ z => z)
            | int i t => exact PySem.P.repr_of_int (of_decide_eq_true f1) (fin s.heap _ _ fun _ _ z => z)
            | str y t => exact PySem.P.repr_of_str (fin s.heap _ _ fun _ _ z => z) sz
            | list a1 a2 a3 a4 => exact byRef _ _ (.list a1 a2 a3 a4) fun z => by rw [hd] at z; cases z
            | tuple a1 a2 a3 a4 => exact byRef _ _ (.tuple a1 a2 a3 a4) fun z => by rw [hd] at z; cases z
            | dict a1 a2 a3 a4 a5 => cases hd
          · rw [Bool.or_eq_true] at f3
            rcases f3 with f3 | f3
            · exact absurd (by simpa using f3) hd
            · unfold flatDct at f3
              split at f3
              · rename_i ks vs e2
                rw [Bool.and_eq_true] at f3
                rw [e2] at ep
                unfold toP at ep
                split at ep
                · rename_i pk pv e3 e4
                  cases ep
                  have key : ∃ a kvs us', v = .ref a ∧ w.H a = some (.dK kvs) ∧ pairK ks us' = some kvs ∧ Reps T w vs us' := by
                    cases rd with
                    | dct h1 h2 h3 h4 =>
                      cases e2
                      exact ⟨_, _, _, rfl, h1, h3, h4⟩
                    | @ref n a hn =>
                      unfold deref at e2
                      dsimp only at e2
                      obtain ⟨c, hc⟩ := wd.cellAt hn
                      rw [hc] at e2
                      have k := wd.cell n c a hc hn
                      cases c with
                      | dct _ _ =>
                        cases e2
                        obtain ⟨kvs, us', h1, h3, h4⟩ := k
                        exact ⟨_, _, _, rfl, h1, h3, h4⟩
                      | lst _ => cases e2
                      | ins _ _ _ => cases e2
                      | dead => cases e2
                    | _ => cases e2
                  obtain ⟨a, kvs, us', rfl, h1, h3, h4⟩ := key
                  obtain rfl : u = Value.ref a := rv
                  obtain ⟨_, hns, zs, kz, o, es, en, ho, hx, hdt, _, pr, _⟩ := (show ObjOk X.prog X.w w.H s.heap a (.dK kvs) from I.hok a _ h1)
                  obtain ⟨g1, g2, g3⟩ := dict_reads (h := s.heap) h3 h4 kz pr f3.1 f3.2 e3 e4
                  obtain ⟨z1, z2⟩ := zip_fst g3
                  refine byRef a _ (.dict (as := []) (bs := []) ho hx.1 hdt (by rw [z1]; exact g1) (by rw [z2]; exact g2)) fun _ hm => ?_
                  have : sysModules = a := by simpa using hm
                  rw [← this] at hns
                  simp at hns
                · cases ep
              · cases f3
        · cases e
      · cases e
    · exact h.elim
  · exact h.elim
end
end PV

namespace PV
open PySem L2 PyProof.Rows

/-- what is kept beside the names: it stands through every step -/
def Kept (Ξ : Xi) : Prop := ∀ (w w' : Wo) (σ : L2.St), Step w w' → Ξ w σ → Ξ w' σ
section
variable {X : Cx} {T : Tb} {W : WX} {Ξ : Xi} {G : Gv} {a b c : Expr} {pos : Pos} {fa fb fc : F}
/-- one part, then what follows -/
theorem tEv.bind (kp : Kept Ξ) {g : Env → D → Store → R D} {σ : L2.St} {H : Hp} {Q : VK} (h : tEv T W Ξ (fun δ S => (fa δ S).bind (g δ)) σ H Q) :
    tEv T W Ξ fa σ H fun v H1 => ∃ (δ : Env) (w : Wo) (d : D), w.H = H1 ∧ Wd T w ∧ EnvOk T w δ σ ∧ Ξ w σ ∧ Rep T w d v ∧ Post T W w σ (Rep T) (g δ d w.S) Q := by
  obtain ⟨δ, w, e, wd, en, xi, h⟩ := h
  exact ⟨δ, w, e, wd, en, xi, (Post.split h).mono fun v H1 ⟨w1, d1, e1, wd1, st1, r1, h1⟩ => ⟨δ, w1, d1, e1, wd1, en.mono st1.toMon, kp _ _ _ st1 xi, r1, h1⟩⟩
theorem tEv.bindB (kp : Kept Ξ) {g : Env → D → Store → R Bool} {σ : L2.St} {H : Hp} {Q : Bool → Hp → Prop} (h : tEvT T W Ξ (fun δ S => (fa δ S).bind (g δ)) σ H Q) :
    tEv T W Ξ fa σ H fun v H1 => ∃ (δ : Env) (w : Wo) (d : D), w.H = H1 ∧ Wd T w ∧ EnvOk T w δ σ ∧ Ξ w σ ∧ Rep T w d v ∧ Post T W w σ (fun _ (a b : Bool) => a = b) (g δ d w.S) Q := by
  obtain ⟨δ, w, e, wd, en, xi, h⟩ := h
  exact ⟨δ, w, e, wd, en, xi, (Post.split h).mono fun v H1 ⟨w1, d1, e1, wd1, st1, r1, h1⟩ => ⟨δ, w1, d1, e1, wd1, en.mono st1.toMon, kp _ _ _ st1 xi, r1, h1⟩⟩
theorem tEvs.bind (kp : Kept Ξ) {fs : Fs} {g : Env → List D → Store → R D} {σ : L2.St} {H : Hp} {Q : VK} (h : tEv T W Ξ (fun δ S => (fs δ S).bind (g δ)) σ H Q) :
    tEvs T W Ξ fs σ H fun vs H1 => ∃ (δ : Env) (w : Wo) (ds : List D), w.H = H1 ∧ Wd T w ∧ EnvOk T w δ σ ∧ Ξ w σ ∧ Reps T w ds vs ∧ Post T W w σ (Rep T) (g δ ds w.S) Q := by
  obtain ⟨δ, w, e, wd, en, xi, h⟩ := h
  exact ⟨δ, w, e, wd, en, xi, (Post.split h).mono fun v H1 ⟨w1, d1, e1, wd1, st1, r1, h1⟩ => ⟨δ, w1, d1, e1, wd1, en.mono st1.toMon, kp _ _ _ st1 xi, r1, h1⟩⟩
theorem tEvT.bind (kp : Kept Ξ) {ft : Env → Store → R Bool} {g : Env → Bool → Store → R D} {σ : L2.St} {H : Hp} {Q : VK} (h : tEv T W Ξ (fun δ S => (ft δ S).bind (g δ)) σ H Q) :
    tEvT T W Ξ ft σ H fun k H1 => ∃ (δ : Env) (w : Wo), w.H = H1 ∧ Wd T w ∧ EnvOk T w δ σ ∧ Ξ w σ ∧ Post T W w σ (Rep T) (g δ k w.S) Q := by
  obtain ⟨δ, w, e, wd, en, xi, h⟩ := h
  refine ⟨δ, w, e, wd, en, xi, (Post.split (Rl := fun _ (a b : Bool) => a = b) h).mono fun v H1 ⟨w1, d1, e1, wd1, st1, r1, h1⟩ => ?_⟩
  subst r1
  exact ⟨δ, w1, e1, wd1, en.mono st1.toMon, kp _ _ _ st1 xi, h1⟩
theorem tEvT.bindB (kp : Kept Ξ) {ft : Env → Store → R Bool} {g : Env → Bool → Store → R Bool} {σ : L2.St} {H : Hp} {Q : Bool → Hp → Prop} (h : tEvT T W Ξ (fun δ S => (ft δ S).bind (g δ)) σ H Q) :
    tEvT T W Ξ ft σ H fun k H1 => ∃ (δ : Env) (w : Wo), w.H = H1 ∧ Wd T w ∧ EnvOk T w δ σ ∧ Ξ w σ ∧ Post T W w σ (fun _ (a b : Bool) => a = b) (g δ k w.S) Q := by
  obtain ⟨δ, w, e, wd, en, xi, h⟩ := h
  refine ⟨δ, w, e, wd, en, xi, (Post.split (Rl := fun _ (a b : Bool) => a = b) h).mono fun v H1 ⟨w1, d1, e1, wd1, st1, r1, h1⟩ => ?_⟩
  subst r1
  exact ⟨δ, w1, e1, wd1, en.mono st1.toMon, kp _ _ _ st1 xi, h1⟩
/-- a reading is weakened -/
theorem toPE {e : Expr} {t t' : TE} (h : PE X e t) (k : ∀ σ H Q, t' σ H Q → t σ H Q) : PE X e t' := ⟨fun pins s σ H Q I q => h.run pins s σ H Q I (k σ H Q q)⟩
theorem toPT {e : Expr} {t t' : TT} (h : PT X e t) (k : ∀ σ H Q, t' σ H Q → t σ H Q) : PT X e t' := ⟨fun pins s σ H Q I q => h.run pins s σ H Q I (k σ H Q q)⟩
theorem toPW {e : Expr} {t t' : TT} (h : PW X e t) (k : ∀ σ H Q, t' σ H Q → t σ H Q) : PW X e t' := ⟨fun wh pins s σ H Q I q => h.run wh pins s σ H Q I (k σ H Q q)⟩
theorem toPA {e : List Expr} {t t' : TA} (h : PA X e t) (k : ∀ σ H Q, t' σ H Q → t σ H Q) : PA X e t' := ⟨fun p pins s σ H Q I q => h.run p pins s σ H Q I (k σ H Q q)⟩
theorem toPS {e : Stmt} {t t' : TS} (h : PS X e t) (k : ∀ D σ H, t' D σ H → t D σ H) : PS X e t' := ⟨fun pins s σ H D I q => h.run pins s σ H D I (k D σ H q)⟩
theorem toPSs {e : List Stmt} {t t' : TS} (h : PSs X e t) (k : ∀ D σ H, t' D σ H → t D σ H) : PSs X e t' := ⟨fun pins s σ H D I q => h.run pins s σ H D I (k D σ H q)⟩
theorem tEv.imp {σ : L2.St} {H : Hp} {Q Q' : VK} (h : tEv T W Ξ fa σ H Q) (k : ∀ v H, Q v H → Q' v H) : tEv T W Ξ fa σ H Q' := by
  obtain ⟨δ, w, e, wd, en, xi, h⟩ := h
  exact ⟨δ, w, e, wd, en, xi, h.mono k⟩
theorem tEvT.imp {ft : Env → Store → R Bool} {σ : L2.St} {H : Hp} {Q Q' : Bool → Hp → Prop} (h : tEvT T W Ξ ft σ H Q) (k : ∀ v H, Q v H → Q' v H) : tEvT T W Ξ ft σ H Q' := by
  obtain ⟨δ, w, e, wd, en, xi, h⟩ := h
  exact ⟨δ, w, e, wd, en, xi, h.mono k⟩
theorem tEvs.imp {fs : Fs} {σ : L2.St} {H : Hp} {Q Q' : List V → Hp → Prop} (h : tEvs T W Ξ fs σ H Q) (k : ∀ v H, Q v H → Q' v H) : tEvs T W Ξ fs σ H Q' := by
  obtain ⟨δ, w, e, wd, en, xi, h⟩ := h
  exact ⟨δ, w, e, wd, en, xi, h.mono k⟩

/-- two parts, then what follows -/
theorem tEv.bind2 (kp : Kept Ξ) {α β : Type} {Rl : Wo → α → β → Prop} {g : D → D → Store → R α} {σ : L2.St} {δ : Env} {w : Wo} {Q : β → Hp → Prop} (wd : Wd T w) (en : EnvOk T w δ σ) (xi : Ξ w σ)
    (h : Post T W w σ Rl ((fa δ w.S).bind fun x S1 => (fb δ S1).bind fun y S2 => g x y S2) Q) :
    tEv T W Ξ fa σ w.H fun v H1 => tEv T W Ξ fb σ H1 fun u H2 => ∃ (w2 : Wo) (x y : D), w2.H = H2 ∧ Wd T w2 ∧ EnvOk T w2 δ σ ∧ Ξ w2 σ ∧ Rep T w2 x v ∧ Rep T w2 y u ∧ Post T W w2 σ Rl (g x y w2.S) Q := by
  refine ⟨δ, w, rfl, wd, en, xi, (Post.split h).mono fun v H1 ⟨w1, d1, e1, wd1, st1, r1, h1⟩ => ?_⟩
  subst e1
  refine ⟨δ, w1, rfl, wd1, en.mono st1.toMon, kp _ _ _ st1 xi, (Post.split h1).mono fun u H2 ⟨w2, d2, e2, wd2, st2, r2, h2⟩ => ?_⟩
  have st := st1.trans st2
  exact ⟨w2, d1, d2, e2, wd2, en.mono st.toMon, kp _ _ _ st xi, r1.mono st2.toMon, r2, h2⟩
/-- one part, then what follows -/
theorem tEv.bind1 (kp : Kept Ξ) {α β : Type} {Rl : Wo → α → β → Prop} {g : D → Store → R α} {σ : L2.St} {δ : Env} {w : Wo} {Q : β → Hp → Prop} (wd : Wd T w) (en : EnvOk T w δ σ) (xi : Ξ w σ)
    (h : Post T W w σ Rl ((fa δ w.S).bind g) Q) :
    tEv T W Ξ fa σ w.H fun v H1 => ∃ (w1 : Wo) (x : D), w1.H = H1 ∧ Wd T w1 ∧ EnvOk T w1 δ σ ∧ Ξ w1 σ ∧ Rep T w1 x v ∧ Post T W w1 σ Rl (g x w1.S) Q :=
  ⟨δ, w, rfl, wd, en, xi, (Post.split h).mono fun v H1 ⟨w1, d1, e1, wd1, st1, r1, h1⟩ => ⟨w1, d1, e1, wd1, en.mono st1.toMon, kp _ _ _ st1 xi, r1, h1⟩⟩
theorem tEvT.bind1 (kp : Kept Ξ) {α β : Type} {Rl : Wo → α → β → Prop} {ft : Env → Store → R Bool} {g : Bool → Store → R α} {σ : L2.St} {δ : Env} {w : Wo} {Q : β → Hp → Prop} (wd : Wd T w) (en : EnvOk T w δ σ) (xi : Ξ w σ)
    (h : Post T W w σ Rl ((ft δ w.S).bind g) Q) :
    tEvT T W Ξ ft σ w.H fun k H1 => ∃ (w1 : Wo), w1.H = H1 ∧ Wd T w1 ∧ EnvOk T w1 δ σ ∧ Ξ w1 σ ∧ Post T W w1 σ Rl (g k w1.S) Q := by
  refine ⟨δ, w, rfl, wd, en, xi, (Post.split (Rl := fun _ (a b : Bool) => a = b) h).mono fun v H1 ⟨w1, d1, e1, wd1, st1, r1, h1⟩ => ?_⟩
  subst r1
  exact ⟨w1, e1, wd1, en.mono st1.toMon, kp _ _ _ st1 xi, h1⟩
theorem tEvs.bind1 (kp : Kept Ξ) {α β : Type} {Rl : Wo → α → β → Prop} {fs : Fs} {g : List D → Store → R α} {σ : L2.St} {δ : Env} {w : Wo} {Q : β → Hp → Prop} (wd : Wd T w) (en : EnvOk T w δ σ) (xi : Ξ w σ)
    (h : Post T W w σ Rl ((fs δ w.S).bind g) Q) :
    tEvs T W Ξ fs σ w.H fun vs H1 => ∃ (w1 : Wo) (xs : List D), w1.H = H1 ∧ Wd T w1 ∧ EnvOk T w1 δ σ ∧ Ξ w1 σ ∧ Reps T w1 xs vs ∧ Post T W w1 σ Rl (g xs w1.S) Q :=
  ⟨δ, w, rfl, wd, en, xi, (Post.split h).mono fun v H1 ⟨w1, d1, e1, wd1, st1, r1, h1⟩ => ⟨w1, d1, e1, wd1, en.mono st1.toMon, kp _ _ _ st1 xi, r1, h1⟩⟩
theorem Post.hereB {w : Wo} {σ : L2.St} {k : Bool} (wd : Wd T w) {Q : Bool → Hp → Prop} (h : Post T W w σ (fun _ (a b : Bool) => a = b) (.ok k w.S) Q) : Q k w.H := h w k rfl wd (Step.refl w) rfl

theorem ok_var {i : Nat} {x : Str} (hN : X.N[i]? = some x) (hv : Vis X.env.scope x) (hd : (x == ("__debug__" : Str)) = false) (hcd : (x == ("__classdict__" : Str)) = false) : PE X (.Name x pos) (tEv T W Ξ (ev G (.var i))) := by
  refine toPE (pe_var hN hv hd hcd) fun σ H Q h => ?_
  obtain ⟨δ, w, rfl, wd, en, xi, h⟩ := h
  change Post T W w σ (Rep T) (match δ[i]? with | some (some d) => .ok d w.S | _ => .stuck) Q at h
  split at h
  · rename_i d e
    obtain ⟨v, e1, r⟩ := en.at_ i d e
    exact ⟨v, e1, Post.here wd r h⟩
  · exact h.elim
theorem ok_con {e : Expr} {d : D} {v : V} (he : PE X e (tC v)) (r : ∀ w, Rep T w d v) : PE X e (tEv T W Ξ (ev G (.con d))) := by
  refine toPE he fun σ H Q h => ?_
  obtain ⟨δ, w, rfl, wd, en, xi, h⟩ := h
  exact Post.here wd (r w) h
theorem ok_glob {e : Expr} {x : Nat} {v : V} (he : PE X e (tC v)) (r : ∀ w, Rep T w (G.gl x) v) : PE X e (tEv T W Ξ (ev G (.glob x))) := by
  refine toPE he fun σ H Q h => ?_
  obtain ⟨δ, w, rfl, wd, en, xi, h⟩ := h
  exact Post.here wd (r w) h
theorem ok_bin (hK : X.K = T.K) (kp : Kept Ξ) {o : Op2} {x y : C} (ha : PE X a (tEv T W Ξ (ev G x))) (hb : PE X b (tEv T W Ξ (ev G y))) : PE X (.BinOp a (opOf o) b pos) (tEv T W Ξ (ev G (.bin o x y))) := by
  refine toPE (pe_op (op_bin hK o) ha hb) fun σ H Q h => ?_
  obtain ⟨δ, w, rfl, wd, en, xi, h⟩ := h
  exact (tEv.bind2 kp wd en xi h).imp fun v H1 h1 => h1.imp fun u H2 ⟨w2, d, e, q1, q2, _, _, q3, q4, q5⟩ => ⟨W, σ, d, e, w2, q1, q2, q3, q4, q5⟩
theorem ok_neg (kp : Kept Ξ) {x : C} (ha : PE X a (tEv T W Ξ (ev G x))) : PE X (.UnaryOp .USub a pos) (tEv T W Ξ (ev G (.neg x))) := by
  refine toPE (pe_un un_neg ha) fun σ H Q h => ?_
  obtain ⟨δ, w, rfl, wd, en, xi, h⟩ := h
  refine (tEv.bind1 kp wd en xi h).imp fun v H1 ⟨w1, d, e1, wd1, _, _, r, q⟩ => ?_
  subst e1
  cases r <;> first | (exact q.elim) | (exact ⟨_, rfl, Post.here wd1 (.int _) q⟩)
theorem ok_not (hK : X.K = T.K) (kp : Kept Ξ) {x : C} (ha : PE X a (tEv T W Ξ (ev G x))) : PE X (.UnaryOp .Not a pos) (tEv T W Ξ (ev G (.not x))) := by
  refine toPE (pe_notT ha) fun σ H Q h => ?_
  obtain ⟨δ, w, rfl, wd, en, xi, h⟩ := h
  refine (tEv.bind1 kp wd en xi h).imp fun v H1 ⟨w1, d, e1, wd1, _, _, r, q⟩ => ?_
  subst e1
  split at q
  · rename_i k e
    exact ⟨k, tru_v hK wd1 r e, Post.here wd1 (.bl _) q⟩
  · exact q.elim
theorem ok_and (hK : X.K = T.K) (kp : Kept Ξ) {x y : C} {rest : List Expr} (ha : PE X a (tEv T W Ξ (ev G x))) (hb : PE X (.BoolOp .And (b :: rest) pos) (tEv T W Ξ (ev G y))) : PE X (.BoolOp .And (a :: b :: rest) pos) (tEv T W Ξ (ev G (.and x y))) := by
  refine toPE (pe_andT ha hb) fun σ H Q h => ?_
  obtain ⟨δ, w, rfl, wd, en, xi, h⟩ := h
  refine (tEv.bind1 kp wd en xi h).imp fun v H1 ⟨w1, d, e1, wd1, en1, xi1, r, q⟩ => ?_
  subst e1
  split at q
  · rename_i e
    exact ⟨true, tru_v hK wd1 r e, iteT ⟨δ, w1, rfl, wd1, en1, xi1, q⟩⟩
  · rename_i e
    exact ⟨false, tru_v hK wd1 r e, iteF (Post.here wd1 r q)⟩
  · exact q.elim
theorem ok_or (hK : X.K = T.K) (kp : Kept Ξ) {x y : C} {rest : List Expr} (ha : PE X a (tEv T W Ξ (ev G x))) (hb : PE X (.BoolOp .Or (b :: rest) pos) (tEv T W Ξ (ev G y))) : PE X (.BoolOp .Or (a :: b :: rest) pos) (tEv T W Ξ (ev G (.or x y))) := by
  refine toPE (pe_orT ha hb) fun σ H Q h => ?_
  obtain ⟨δ, w, rfl, wd, en, xi, h⟩ := h
  refine (tEv.bind1 kp wd en xi h).imp fun v H1 ⟨w1, d, e1, wd1, en1, xi1, r, q⟩ => ?_
  subst e1
  split at q
  · rename_i e
    exact ⟨true, tru_v hK wd1 r e, iteT (Post.here wd1 r q)⟩
  · rename_i e
    exact ⟨false, tru_v hK wd1 r e, iteF ⟨δ, w1, rfl, wd1, en1, xi1, q⟩⟩
  · exact q.elim
theorem ok_ite (kp : Kept Ξ) {x y z : C} (hc : PT X c (tEvT T W Ξ (evT G x))) (ha : PE X a (tEv T W Ξ (ev G y))) (hb : PE X b (tEv T W Ξ (ev G z))) : PE X (.IfExp c a b pos) (tEv T W Ξ (ev G (.ite x y z))) := by
  refine toPE (pe_ifExp hc ha hb) fun σ H Q h => ?_
  obtain ⟨δ, w, rfl, wd, en, xi, h⟩ := h
  refine (tEvT.bind1 kp wd en xi h).imp fun k H1 ⟨w1, e1, wd1, en1, xi1, q⟩ => ?_
  subst e1
  cases k with
  | true => exact iteT ⟨δ, w1, rfl, wd1, en1, xi1, q⟩
  | false => exact iteF ⟨δ, w1, rfl, wd1, en1, xi1, q⟩
theorem ok_cmp (hK : X.K = T.K) (hu : X.A.units + 64 < cLine) (kp : Kept Ξ) {o : CO} {x y : C} (ha : PE X a (tEv T W Ξ (ev G x))) (hb : PE X b (tEv T W Ξ (ev G y))) (hm : behindInMarks (cmpOf o) b = false) :
    PE X (.Compare a [cmpOf o] [b] pos) (tEv T W Ξ (ev G (.cmp o x y))) := by
  refine toPE (pe_cmpR (op_cmp hK hu o) ha hb hm) fun σ H Q h => ?_
  obtain ⟨δ, w, rfl, wd, en, xi, h⟩ := h
  refine (tEv.bind2 kp wd en xi h).imp fun v H1 h1 => h1.imp fun u H2 ⟨w2, d, e, q1, q2, _, _, q3, q4, q5⟩ => ?_
  subst q1
  unfold optD at q5
  split at q5
  · rename_i k ek
    exact ⟨d, e, w2, k, rfl, q2, q3, q4, ek, Post.here q2 (.bl _) q5⟩
  · exact q5.elim
theorem ok_tcmp (hK : X.K = T.K) (hu : X.A.units + 64 < cLine) (kp : Kept Ξ) {o : CO} {x y : C} (ha : PE X a (tEv T W Ξ (ev G x))) (hb : PE X b (tEv T W Ξ (ev G y))) (hm : behindInMarks (cmpOf o) b = false) :
    PT X (.Compare a [cmpOf o] [b] pos) (tEvT T W Ξ (evT G (.tcmp o x y))) := by
  refine toPT (pt_cmpR (op_cmp hK hu o) ha hb hm) fun σ H Q h => ?_
  obtain ⟨δ, w, rfl, wd, en, xi, h⟩ := h
  refine (tEv.bind2 kp wd en xi h).imp fun v H1 h1 => h1.imp fun u H2 ⟨w2, d, e, q1, q2, _, _, q3, q4, q5⟩ => ?_
  subst q1
  unfold optB at q5
  split at q5
  · rename_i k ek
    exact ⟨d, e, w2, k, rfl, q2, q3, q4, ek, k, rfl, Post.hereB q2 q5⟩
  · exact q5.elim
theorem ok_chain (hK : X.K = T.K) (hu : X.A.units + 64 < cLine) (kp : Kept Ξ) {o p : CO} {x y z : C} (ha : PE X a (tEv T W Ξ (ev G x))) (hb : PE X b (tEv T W Ξ (ev G y))) (hc : PE X c (tEv T W Ξ (ev G z))) (hm : lastMarks [cmpOf o, cmpOf p] [b, c] = false) :
    PE X (.Compare a [cmpOf o, cmpOf p] [b, c] pos) (tEv T W Ξ (ev G (.chain o p x y z))) := by
  refine toPE (pe_chain (op_cmp hK hu o) (op_cmp hK hu p) ha hb hc hm) fun σ H Q h => ?_
  obtain ⟨δ, w, rfl, wd, en, xi, h⟩ := h
  refine (tEv.bind2 kp wd en xi h).imp fun v H1 h1 => h1.imp fun u H2 ⟨w2, d, e, q1, q2, en2, xi2, q3, q4, q5⟩ => ?_
  subst q1
  split at q5
  · rename_i ek
    refine ⟨d, e, w2, true, rfl, q2, q3, q4, ek, true, rfl, iteT ?_⟩
    refine ⟨δ, w2, rfl, q2, en2, xi2, (Post.split q5).mono fun v3 H3 ⟨w3, d3, e3, wd3, st3, r3, h3⟩ => ?_⟩
    subst e3
    unfold optD at h3
    split at h3
    · rename_i k ek
      exact ⟨e, d3, w3, k, rfl, wd3, q4.mono st3.toMon, r3, ek, Post.here wd3 (.bl _) h3⟩
    · exact h3.elim
  · rename_i ek
    exact ⟨d, e, w2, false, rfl, q2, q3, q4, ek, false, rfl, iteF (Post.here q2 (.bl _) q5)⟩
  · exact q5.elim
theorem ok_tchain (hK : X.K = T.K) (hu : X.A.units + 64 < cLine) (kp : Kept Ξ) {o p : CO} {x y z : C} (ha : PE X a (tEv T W Ξ (ev G x))) (hb : PE X b (tEv T W Ξ (ev G y))) (hc : PE X c (tEv T W Ξ (ev G z))) (hm : lastMarks [cmpOf o, cmpOf p] [b, c] = false) :
    PT X (.Compare a [cmpOf o, cmpOf p] [b, c] pos) (tEvT T W Ξ (evT G (.tchain o p x y z))) := by
  refine toPT (pt_chain (op_cmp hK hu o) (op_cmp hK hu p) ha hb hc hm) fun σ H Q h => ?_
  obtain ⟨δ, w, rfl, wd, en, xi, h⟩ := h
  refine (tEv.bind2 kp wd en xi h).imp fun v H1 h1 => h1.imp fun u H2 ⟨w2, d, e, q1, q2, en2, xi2, q3, q4, q5⟩ => ?_
  subst q1
  split at q5
  · rename_i ek
    refine ⟨d, e, w2, true, rfl, q2, q3, q4, ek, true, rfl, iteT ?_⟩
    refine ⟨δ, w2, rfl, q2, en2, xi2, (Post.split q5).mono fun v3 H3 ⟨w3, d3, e3, wd3, st3, r3, h3⟩ => ?_⟩
    subst e3
    unfold optB at h3
    split at h3
    · rename_i k ek
      exact ⟨e, d3, w3, k, rfl, wd3, q4.mono st3.toMon, r3, ek, k, rfl, Post.hereB wd3 h3⟩
    · exact h3.elim
  · rename_i ek
    exact ⟨d, e, w2, false, rfl, q2, q3, q4, ek, false, rfl, iteF ⟨false, rfl, Post.hereB q2 q5⟩⟩
  · exact q5.elim
/-! tests -/
theorem ok_tst (hK : X.K = T.K) (kp : Kept Ξ) {x : C} (ha : PE X a (tEv T W Ξ (ev G x))) (he : ∀ whole, isTrue a X.env whole = (do let v ← whole; standAt a.pos; holding [v] (truthy v))) : PT X a (tEvT T W Ξ (evT G (.tst x))) := by
  refine toPT (pt_truth ha he) fun σ H Q h => ?_
  obtain ⟨δ, w, rfl, wd, en, xi, h⟩ := h
  refine (tEv.bind1 kp wd en xi h).imp fun v H1 ⟨w1, d, e1, wd1, _, _, r, q⟩ => ?_
  subst e1
  unfold optB at q
  split at q
  · rename_i k ek
    exact ⟨k, tru_v hK wd1 r ek, Post.hereB wd1 q⟩
  · exact q.elim
theorem ok_tnot (kp : Kept Ξ) {x : C} (ha : PT X a (tEvT T W Ξ (evT G x))) : PT X (.UnaryOp .Not a pos) (tEvT T W Ξ (evT G (.not x))) := by
  refine toPT (pt_not ha) fun σ H Q h => ?_
  obtain ⟨δ, w, rfl, wd, en, xi, h⟩ := h
  refine (tEvT.bind1 kp wd en xi h).imp fun k H1 ⟨w1, e1, wd1, _, _, q⟩ => ?_
  subst e1
  exact Post.hereB wd1 q
theorem ok_tand (kp : Kept Ξ) {x y : C} {rest : List Expr} (ha : PT X a (tEvT T W Ξ (evT G x))) (hb : PW X (.BoolOp .And (b :: rest) pos) (tEvT T W Ξ (evT G y))) : PW X (.BoolOp .And (a :: b :: rest) pos) (tEvT T W Ξ (evT G (.and x y))) := by
  refine toPW (pw_and ha hb) fun σ H Q h => ?_
  obtain ⟨δ, w, rfl, wd, en, xi, h⟩ := h
  refine (tEvT.bind1 kp wd en xi h).imp fun k H1 ⟨w1, e1, wd1, en1, xi1, q⟩ => ?_
  subst e1
  cases k with
  | true => exact iteT ⟨δ, w1, rfl, wd1, en1, xi1, q⟩
  | false => exact iteF (Post.hereB wd1 q)
theorem ok_tor (kp : Kept Ξ) {x y : C} {rest : List Expr} (ha : PT X a (tEvT T W Ξ (evT G x))) (hb : PW X (.BoolOp .Or (b :: rest) pos) (tEvT T W Ξ (evT G y))) : PW X (.BoolOp .Or (a :: b :: rest) pos) (tEvT T W Ξ (evT G (.or x y))) := by
  refine toPW (pw_or ha hb) fun σ H Q h => ?_
  obtain ⟨δ, w, rfl, wd, en, xi, h⟩ := h
  refine (tEvT.bind1 kp wd en xi h).imp fun k H1 ⟨w1, e1, wd1, en1, xi1, q⟩ => ?_
  subst e1
  cases k with
  | true => exact iteT (Post.hereB wd1 q)
  | false => exact iteF ⟨δ, w1, rfl, wd1, en1, xi1, q⟩
/-! arguments, displays -/
theorem ok_nil : PA X [] (tEvs T W Ξ (evs G .nil)) := by
  refine toPA pa_nil fun σ H Q h => ?_
  obtain ⟨δ, w, rfl, wd, en, xi, h⟩ := h
  exact h w [] rfl wd (Step.refl w) .nil
def plainE : Expr → Bool
  | .Starred _ _ => false
  | _ => true
theorem star_plain {e : Expr} {es : List Expr} {env : PySem.Env} (h : plainE e = true) : starEach (e :: es) env = (false, eval e env) :: starEach es env := by
  cases e <;> first | rfl | cases h
theorem ok_cons (kp : Kept Ξ) {x y : C} {es : List Expr} (ha : PE X a (tEv T W Ξ (ev G x))) (hb : PA X es (tEvs T W Ξ (evs G y))) (hs : plainE a = true) : PA X (a :: es) (tEvs T W Ξ (evs G (.cons x y))) := by
  refine toPA (pa_cons ha hb (star_plain hs)) fun σ H Q h => ?_
  obtain ⟨δ, w, rfl, wd, en, xi, h⟩ := h
  refine ⟨δ, w, rfl, wd, en, xi, (Post.split h).mono fun v H1 ⟨w1, d1, e1, wd1, st1, r1, h1⟩ => ?_⟩
  subst e1
  refine ⟨δ, w1, rfl, wd1, en.mono st1.toMon, kp _ _ _ st1 xi, (Post.split h1).mono fun vs H2 ⟨w2, ds, e2, wd2, st2, r2, h2⟩ => ?_⟩
  subst e2
  exact h2 w2 _ rfl wd2 (Step.refl w2) (.cons (r1.mono st2.toMon) r2)
theorem ok_tup (kp : Kept Ξ) {x : C} {es : List Expr} {k : Nat} (ha : PA X es (tEvs T W Ξ (evs G x))) : PE X (.Tuple es k pos) (tEv T W Ξ (ev G (.tup x))) := by
  refine toPE (pe_tup ha) fun σ H Q h => ?_
  obtain ⟨δ, w, rfl, wd, en, xi, h⟩ := h
  refine (tEvs.bind1 kp wd en xi h).imp fun vs H1 ⟨w1, ds, e1, wd1, _, _, rs, q⟩ => ?_
  subst e1
  split at q
  · rename_i f
    exact ⟨by rw [← rs.len]; exact fits_le f, newT_ok wd1 rs q⟩
  · exact q.elim
theorem ok_lst (kp : Kept Ξ) {x : C} {m : Bool} {es : List Expr} (ha : PA X es (tEvs T W Ξ (evs G x))) : PE X (.List es pos) (tEv T W Ξ (ev G (.lst m x))) := by
  refine toPE (pe_lst ha) fun σ H Q h => ?_
  obtain ⟨δ, w, rfl, wd, en, xi, h⟩ := h
  refine (tEvs.bind1 kp wd en xi h).imp fun vs H1 ⟨w1, ds, e1, wd1, _, _, rs, q⟩ => ?_
  subst e1
  exact newL_ok wd1 rs q
theorem ok_bi (kp : Kept Ξ) {x : C} {bb : Bi} {e : Expr} {t : TA → TE} {es : List Expr} (hb : ∀ t, PA X es t → PE X e (tCB (rBi T bb) t)) (ha : PA X es (tEvs T W Ξ (evs G x))) : PE X e (tEv T W Ξ (ev G (.bi bb x))) := by
  refine toPE (hb _ ha) fun σ H Q h => ?_
  obtain ⟨δ, w, rfl, wd, en, xi, h⟩ := h
  exact (tEvs.bind1 kp wd en xi h).imp fun vs H1 ⟨w1, ds, e1, wd1, _, _, rs, q⟩ => ⟨W, σ, ds, w1, e1, wd1, rs, q⟩
theorem ok_idx (hK : X.K = T.K) (kp : Kept Ξ) {x y : C} (ha : PE X a (tEv T W Ξ (ev G x))) (hb : PE X b (tEv T W Ξ (ev G y))) (hs : PlainIx b) : PE X (.Subscript a b pos) (tEv T W Ξ (ev G (.idx x y))) := by
  refine toPE (pe_ix (ix_idx hK) ha hb hs) fun σ H Q h => ?_
  obtain ⟨δ, w, rfl, wd, en, xi, h⟩ := h
  exact (tEv.bind2 kp wd en xi h).imp fun v H1 h1 => h1.imp fun u H2 ⟨w2, d, e, q1, q2, _, _, q3, q4, q5⟩ => ⟨W, σ, d, e, w2, q1, q2, q3, q4, q5⟩
end
end PV

namespace PV
open PySem L2 PyProof.Rows

section
variable {X : Cx} {T : Tb} {W : WX} {Ξ : Xi} {G : Gv} {a b c : Expr} {pos p2 : Pos}
/-! slices -/
def tEvO (T : Tb) (W : WX) (Ξ : Xi) (f : Env → Store → R (Option Int)) : TO := fun σ H Q => ∃ (δ : Env) (w : Wo), w.H = H ∧ Wd T w ∧ EnvOk T w δ σ ∧ Ξ w σ ∧ Post T W w σ (fun _ (a b : Option Int) => a = b) (f δ w.S) Q
theorem ok_onone : PO X none (tEvO T W Ξ (evO G .nil)) := ⟨fun pins s σ H Q I h => po_none.run pins s σ H Q I (by
  obtain ⟨δ, w, rfl, wd, en, xi, h⟩ := h
  exact h w none rfl wd (Step.refl w) rfl)⟩
theorem ok_osome (kp : Kept Ξ) {x y : C} (ha : PE X a (tEv T W Ξ (ev G x))) : PO X (some a) (tEvO T W Ξ (evO G (.cons x y))) := ⟨fun pins s σ H Q I h => (po_some ha).run pins s σ H Q I (by
  obtain ⟨δ, w, rfl, wd, en, xi, h⟩ := h
  refine (tEv.bind1 kp wd en xi h).imp fun v H1 ⟨w1, d, e1, wd1, _, _, r, q⟩ => ?_
  subst e1
  cases r <;> first | (exact q.elim) | (exact ⟨_, rfl, q w1 _ rfl wd1 (Step.refl w1) rfl⟩))⟩
theorem ok_sl (hK : X.K = T.K) (kp : Kept Ξ) {x y z : C} {m : Bool} {lo hi : Option Expr} (ha : PE X a (tEv T W Ξ (ev G x))) (hl : PO X lo (tEvO T W Ξ (evO G y))) (hh : PO X hi (tEvO T W Ξ (evO G z))) :
    PE X (.Subscript a (.Slice lo hi none p2) pos) (tEv T W Ξ (ev G (.sl m x y z))) := by
  refine toPE (pe_slice (sl_sl2 hK m) ha hl hh) fun σ H Q h => ?_
  obtain ⟨δ, w, rfl, wd, en, xi, h⟩ := h
  refine ⟨δ, w, rfl, wd, en, xi, (Post.split h).mono fun v H1 ⟨w1, d1, e1, wd1, st1, r1, h1⟩ => ?_⟩
  subst e1
  refine ⟨δ, w1, rfl, wd1, en.mono st1.toMon, kp _ _ _ st1 xi, (Post.split (Rl := fun _ (a b : Option Int) => a = b) h1).mono fun l H2 ⟨w2, l', e2, wd2, st2, r2, h2⟩ => ?_⟩
  subst e2 r2
  have st := st1.trans st2
  refine ⟨δ, w2, rfl, wd2, en.mono st.toMon, kp _ _ _ st xi, (Post.split (Rl := fun _ (a b : Option Int) => a = b) h2).mono fun u H3 ⟨w3, u', e3, wd3, st3, r3, h3⟩ => ?_⟩
  subst e3 r3
  exact ⟨W, σ, d1, w3, rfl, wd3, r1.mono (st2.trans st3).toMon, h3⟩
/-! isinstance -/
def tyName : Ty → String
  | .int => "int" | .bool => "bool" | .str => "str" | .list => "list" | .tuple => "tuple" | .dict => "dict" | .own _ => ""
def dName : D → String
  | .non => "NoneType" | .bl _ => "bool" | .int _ => "int" | .str _ => "str" | .tup _ => "tuple" | .lst _ => "list" | .dct _ _ => "dict" | _ => ""
theorem ty_dct {w : Wo} (wd : Wd T w) {d : D} {v : V} {ks vs : List D} (r : Rep T w d v) (e : deref w.S d = .dct ks vs) : ∃ a kvs, v = .ref a ∧ w.H a = some (.dK kvs) := by
  cases r with
  | dct h1 _ _ _ => exact ⟨_, _, rfl, h1⟩
  | @ref n a hn =>
    unfold deref at e
    dsimp only at e
    obtain ⟨c, hc⟩ := wd.cellAt hn
    rw [hc] at e
    have k := wd.cell n c a hc hn
    cases c with
    | dct _ _ =>
      obtain ⟨kvs, us', h1, h3, h4⟩ := k
      exact ⟨_, _, rfl, h1⟩
    | lst _ => cases e
    | ins _ _ _ => cases e
    | dead => cases e
  | _ => cases e
theorem isi_ok {w : Wo} (wd : Wd T w) {d : D} {v : V} (r : Rep T w d v) {t : Ty} {k : Bool} (h : isiD w.S d t = some k) (ht : ∀ c, t ≠ .own c) (K : PySem.W.Frag) :
    ∃ tv, TyX K w.H v tv ∧ PySem.W.kitOne K tv (.type (tyName t)) = some k := by
  unfold isiD at h
  cases e : deref w.S d with
  | ref n => rw [e] at h; cases h
  | scr n => rw [e] at h; cases h
  | obj _ _ _ => rw [e] at h; cases h
  | non =>
    cases deref_non wd r e
    refine ⟨_, .base .non, ?_⟩
    rw [e] at h
    cases t <;> first | exact absurd rfl (ht _) | (cases h; exact kit_ty (by decide +kernel))
  | bl x =>
    cases deref_bl wd r e
    refine ⟨_, .base (.bl x), ?_⟩
    rw [e] at h
    cases t <;> first | exact absurd rfl (ht _) | (cases h; exact kit_ty (by decide +kernel))
  | int x =>
    cases deref_int wd r e
    refine ⟨_, .base (.int x), ?_⟩
    rw [e] at h
    cases t <;> first | exact absurd rfl (ht _) | (cases h; exact kit_ty (by decide +kernel))
  | str x =>
    cases deref_str wd r e
    refine ⟨_, .base (.str x), ?_⟩
    rw [e] at h
    cases t <;> first | exact absurd rfl (ht _) | (cases h; exact kit_ty (by decide +kernel))
  | lst ds =>
    obtain ⟨a, vs, rfl, ha, _⟩ := deref_lst wd r e
    refine ⟨_, .base (.lst ha), ?_⟩
    rw [e] at h
    cases t <;> first | exact absurd rfl (ht _) | (cases h; exact kit_ty (by decide +kernel))
  | tup ds =>
    obtain ⟨a, vs, rfl, _, ha, _⟩ := deref_tup wd r e
    refine ⟨_, .base (.tup ha.1), ?_⟩
    rw [e] at h
    cases t <;> first | exact absurd rfl (ht _) | (cases h; exact kit_ty (by decide +kernel))
  | dct ks vs =>
    obtain ⟨a, kvs, rfl, ha⟩ := ty_dct wd r e
    refine ⟨_, .base (.dK ha), ?_⟩
    rw [e] at h
    cases t <;> first | exact absurd rfl (ht _) | (cases h; exact kit_ty (by decide +kernel))
theorem ok_isi (kp : Kept Ξ) {x : C} {t : Ty} {p p3 : Pos} {n : Str} (hg : Gl X "isinstance") (hm : X.mg "isinstance" = none) (hgn : Gl X n) (hmn : X.mg n = none) (hv : bootBuiltins n = some (.type (tyName t))) (hn : n ≠ "__name__") (hdn : (n == ("__debug__" : Str)) = false)
    (ht : ∀ c, t ≠ .own c) (ha : PE X a (tEv T W Ξ (ev G x))) (hs : plainE a = true) : PE X (.Call (.Name "isinstance" p) [a, .Name n p3] [] pos) (tEv T W Ξ (ev G (.isi x t))) := by
  have hT : PE X (.Name n p3) (tC (.ty (tyName t))) := ⟨fun pins s σ H Q I h => ld_blt I hgn hmn hv ⟨.ty _, H, I, rfl, h⟩ hn hdn⟩
  have e1 : starEach [a, .Name n p3] X.env = (false, eval a X.env) :: starEach [.Name n p3] X.env := star_plain hs
  refine toPE (pe_callB call_isi hg hm (by decide +kernel) (pa_cons ha (pa_cons hT pa_nil) e1) (by decide) (by decide) e1 rfl) fun σ H Q h => ?_
  obtain ⟨δ, w, rfl, wd, en, xi, h⟩ := h
  refine (tEv.bind1 kp wd en xi h).imp fun v H1 ⟨w1, d, e1, wd1, _, _, r, q⟩ => ?_
  subst e1
  unfold optD at q
  split at q
  · rename_i k ek
    obtain ⟨tv, h1, h2⟩ := isi_ok wd1 r ek ht X.K
    exact ⟨v, .ty _, tv, _, k, rfl, .ty _, h1, h2, Post.here wd1 (.bl _) q⟩
  · exact q.elim
/-! xs.append(e) -/
theorem ok_app (kp : Kept Ξ) {x y : C} {ap : Pos} {e : Expr} (ha : PE X a (tEv T W Ξ (ev G x))) (he : PE X e (tEv T W Ξ (ev G y))) (hs : plainE e = true) (hb : attributeBase a "append" X.env (eval a X.env) = eval a X.env)
    (hl : (ap.endLine == pos.line) = true) : PE X (.Call (.Attribute a "append" ap) [e] [] pos) (tEv T W Ξ (ev G (.app x y))) := by
  have e1 : starEach [e] X.env = (false, eval e X.env) :: starEach [] X.env := star_plain hs
  refine toPE (pe_bm (r := rAppend) PySem.F.plainAttrs_list PySem.F.slot_list_append PySem.F.type_list_append mt_append ha (pa_cons he pa_nil e1) hb (by rw [e1]; rfl) hl e1 rfl) fun σ H Q h => ?_
  obtain ⟨δ, w, rfl, wd, en, xi, h⟩ := h
  refine ⟨δ, w, rfl, wd, en, xi, (Post.split h).mono fun v H1 ⟨w1, d1, e1, wd1, st1, r1, h1⟩ => ?_⟩
  subst e1
  split at h1
  · rename_i f
    cases q : isL (deref w1.S d1) with
    | none => rw [q] at f; cases f
    | some ds =>
      obtain ⟨p, vs, rfl, hp, _⟩ := deref_lst wd1 r1 (isL_some q)
      refine ⟨.inl ⟨rfl, vs, SqL.of hp⟩, δ, w1, rfl, wd1, en.mono st1.toMon, kp _ _ _ st1 xi, (Post.split h1).mono fun u H2 ⟨w2, d2, e2, wd2, st2, r2, h2⟩ => ?_⟩
      subst e2
      exact app_ok wd2 (r1.mono st2.toMon) r2 h2
  · exact h1.elim
theorem ok_frz (kp : Kept Ξ) {x : C} (ha : PE X a (tEv T W Ξ (ev G x))) : PE X a (tEv T W Ξ (ev G (.frz x))) := by
  refine toPE ha fun σ H Q h => ?_
  obtain ⟨δ, w, rfl, wd, en, xi, h⟩ := h
  refine (tEv.bind1 kp wd en xi h).imp fun v H1 ⟨w1, d, e1, wd1, _, _, r, q⟩ => ?_
  subst e1
  cases hf : frzD d w1.S with
  | stuck => rw [hf] at q; exact q.elim
  | ex c u S2 =>
    exfalso
    unfold frzD at hf
    split at hf
    · split at hf <;> cases hf
    · cases hf
  | ok e S2 =>
    rw [hf] at q
    obtain ⟨w2, e2, eh, wd2, st2, r2⟩ := frz_ok wd1 r hf
    rw [← eh]
    exact q w2 v e2 wd2 st2 r2
end
end PV

namespace PV
open PySem L2 PyProof.Rows RZ

section
variable {X : Cx} {T : Tb} {W : WX} {Ξ : Xi} {G : Gv} {a b c : Expr} {pos : Pos}
/-! targets -/
def tTg (T : Tb) (tg : Tg) : TG := fun v σ H Q => ∃ (w : Wo) (d : D) (δ δ' : Env), w.H = H ∧ Wd T w ∧ Rep T w d v ∧ EnvOk T w δ σ ∧ bindT tg d δ = some δ' ∧
  ∀ σ', wipe σ' (slots tg) = wipe σ (slots tg) → EnvOk T w δ' σ' → Q σ' H
theorem toPG {e : Expr} {t t' : TG} (h : PG X e t) (k : ∀ v σ H Q, t' v σ H Q → t v σ H Q) : PG X e t' := ⟨fun pins s σ H v u Q I r q => h.run pins s σ H v u Q I r (k v σ H Q q)⟩
theorem wipe_set_in {σ : L2.St} {i : Nat} {x : Option V} : ∀ {is : List Nat}, i ∈ is → wipe (σ.set i x) is = wipe σ is
  | j :: is, h => by
    show (wipe (σ.set i x) is).set j none = (wipe σ is).set j none
    by_cases e : i ∈ is
    · rw [wipe_set_in e]
    · have ej : i = j := by
        rcases List.mem_cons.mp h with h | h
        · exact h
        · exact absurd h e
      subst ej
      have key : ∀ (l : List Nat) (σ : L2.St), i ∉ l → wipe (σ.set i x) l = (wipe σ l).set i x := by
        intro l
        induction l with
        | nil => intro σ _; rfl
        | cons k l ih =>
          intro σ hn
          show (wipe (σ.set i x) l).set k none = ((wipe σ l).set k none).set i x
          rw [ih σ (fun z => hn (List.mem_cons_of_mem _ z)), List.set_comm _ _ (fun z => hn (by rw [z]; exact List.mem_cons_self))]
      rw [key is σ e, List.set_set]
theorem ok_tg1 {i : Nat} {x : Str} (hN : X.N.Nodup) (hi : X.N[i]? = some x) (hx : Loc X.env.scope x) (hf : X.fn x = true ∨ X.env.scope.names.lookup x = some .local) : PG X (.Name x pos) (tTg T (.one i)) := by
  refine toPG (pg_name hN hi hx hf) fun v σ H Q h => ?_
  obtain ⟨w, d, δ, δ', rfl, wd, r, en, e, k⟩ := h
  cases e
  exact k _ (wipe_set_in (by simp [slots])) (en.set i r)
/-- the names of a tuple target, one after another -/
theorem ok_tgs (hN : X.N.Nodup) : ∀ {es : List Expr} {is : List Nat}, (∀ (j : Nat) (e : Expr) (i : Nat), es[j]? = some e → is[j]? = some i → ∃ x p, e = .Name x p ∧ X.N[i]? = some x ∧ Loc X.env.scope x ∧ (X.fn x = true ∨ X.env.scope.names.lookup x = some .local)) → es.length = is.length →
    PGs X es (fun vs σ H Q => ∃ (w : Wo) (ds : List D) (δ : Env) (all : List Nat), w.H = H ∧ Wd T w ∧ Reps T w ds vs ∧ EnvOk T w δ σ ∧ is.length = ds.length ∧ (∀ i ∈ is, i ∈ all) ∧
      ∀ σ', wipe σ' all = wipe σ all → EnvOk T w ((is.zip ds).foldl (fun δ p => δ.set p.1 (some p.2)) δ) σ' → Q σ' H)
  | [], [], _, _ => ⟨fun pins s σ H vs us Q I r h => pgs_nil.run pins s σ H vs us Q I r (by
      obtain ⟨w, ds, δ, all, rfl, wd, rs, en, hl, ha, k⟩ := h
      cases ds with
      | cons _ _ => cases hl
      | nil =>
        cases rs
        exact ⟨rfl, k σ rfl en⟩)⟩
  | e :: es, i :: is, h, hl => by
    obtain ⟨x, p, ex, h1, h2, h3⟩ := h 0 e i rfl rfl
    subst ex
    have ih := ok_tgs hN (es := es) (is := is) (fun j e i h1 h2 => h (j + 1) e i (by simpa using h1) (by simpa using h2)) (by simpa using hl)
    refine ⟨fun pins s σ H vs us Q I r h => (pgs_cons (pg_name hN h1 h2 h3) ih (by rfl)).run pins s σ H vs us Q I r ?_⟩
    obtain ⟨w, ds, δ, all, rfl, wd, rs, en, hl, ha, k⟩ := h
    cases rs with
    | nil => cases hl
    | @cons d v ds vs rd rs =>
      refine ⟨v, vs, rfl, w, ds, δ.set i (some d), all, rfl, wd, rs, en.set i rd, by simpa using hl, fun j hj => ha j (List.mem_cons_of_mem _ hj), fun σ' e' en' => k σ' ?_ en'⟩
      rw [e', wipe_set_in (ha i List.mem_cons_self)]
theorem ok_tgt (hK : X.K = T.K) (hc : X.calm = true) (hN : X.N.Nodup) {es : List Expr} {is : List Nat} {k : Nat} (h : ∀ (j : Nat) (e : Expr) (i : Nat), es[j]? = some e → is[j]? = some i → ∃ x p, e = .Name x p ∧ X.N[i]? = some x ∧ Loc X.env.scope x ∧ (X.fn x = true ∨ X.env.scope.names.lookup x = some .local)) (hl : es.length = is.length)
    (hn : (assignEach es X.env).length = is.length) (hst : (assignEach es X.env).findIdx? (·.1) = none) : PG X (.Tuple es k pos) (tTg T (.tup is)) := by
  refine toPG (pg_tup hc (ok_tgs (T := T) hN h hl) hn hst) fun v σ H Q q => ?_
  obtain ⟨w, d, δ, δ', rfl, wd, r, en, e, kk⟩ := q
  unfold bindT at e
  split at e
  · rename_i heq
    cases heq
  · rename_i is' ds heq
    cases heq
    split at e
    · rename_i hlen
      cases e
      cases r with
      | @tup p vs _ hp rs =>
        refine ⟨p, vs, rfl, by rw [hK]; exact hp.sq, by rw [← rs.len]; exact hlen.symm, w, ds, δ, is, rfl, wd, rs, en, hlen, fun i hi => hi, kk⟩
    · cases e
  · cases e
/-! what is walked -/
def ItOk (T : Tb) (w0 : Wo) (J : It) (its : List D) : Prop := ∀ (w : Wo) (i : Nat), Mon w0 w → Wd T w →
  (its.length ≤ i → J.stop i w.H) ∧ ∀ d, its[i]? = some d → J.go i w.H ∧ ∀ x H', J.yld i w.H x H' → ∃ w' : Wo, w'.H = H' ∧ w'.S = w.S ∧ Wd T w' ∧ Step w w' ∧ Rep T w' d x
def PostI (T : Tb) (W : WX) (w : Wo) (σ : L2.St) (r : R (List D)) (Q : It → Hp → Prop) : Prop := match r with
  | .ok its S' => ∀ (w' : Wo) (J : It), w'.S = S' → Wd T w' → Step w w' → ItOk T w' J its → Q J w'.H
  | .ex c v S' => ∀ (w' : Wo) (cls : Value) (dd : Option Addr), w'.S = S' → Wd T w' → Step w w' → RepX T w' c v cls dd → W cls dd σ w'.H
  | .stuck => False
def tEvI (T : Tb) (W : WX) (Ξ : Xi) (f : Fs) : TI := fun σ H R => ∃ (δ : Env) (w : Wo), w.H = H ∧ Wd T w ∧ EnvOk T w δ σ ∧ Ξ w σ ∧ PostI T W w σ (f δ w.S) R
theorem PostI.step {w w' : Wo} {σ : L2.St} {r : R (List D)} {Q : It → Hp → Prop} (st : Step w w') (h : PostI T W w σ r Q) : PostI T W w' σ r Q := by
  cases r with
  | ok a S => exact fun w2 v e wd s2 rl => h w2 v e wd (st.trans s2) rl
  | ex c v S => exact fun w2 cl dd e wd s2 rx => h w2 cl dd e wd (st.trans s2) rx
  | stuck => exact h
theorem PostI.split {w : Wo} {σ : L2.St} {r : R D} {f : D → Store → R (List D)} {Q : It → Hp → Prop} (h : PostI T W w σ (r.bind f) Q) :
    Post T W w σ (Rep T) r fun v1 H1 => ∃ (w1 : Wo) (d1 : D), w1.H = H1 ∧ Wd T w1 ∧ Step w w1 ∧ Rep T w1 d1 v1 ∧ PostI T W w1 σ (f d1 w1.S) Q := by
  cases r with
  | ok a S =>
    intro w' v e wd st rl
    refine ⟨w', a, rfl, wd, st, rl, PostI.step st ?_⟩
    rw [e]
    exact h
  | ex c v S => exact h
  | stuck => exact h
theorem it_lst {w0 : Wo} {p : Addr} {vs : List V} {ds : List D} (h : StL T w0 p vs) (rs : Reps T w0 ds vs) : ItOk T w0 (Itl T.K p) ds := by
  intro w i mo wd
  have h1 := h.mono mo
  have rs1 := rs.mono mo
  refine ⟨fun hl => ⟨vs, SqL.of h1.1, by rw [← rs.len]; exact hl⟩, fun d hd => ?_⟩
  obtain ⟨v, hv, rv⟩ := rs1.get hd
  refine ⟨⟨vs, v, SqL.of h1.1, hv⟩, fun x H' y => ?_⟩
  obtain ⟨e, y⟩ := y
  have ex := y vs (SqL.of h1.1)
  rw [hv] at ex
  cases ex
  exact ⟨w, e.symm, rfl, wd, Step.refl w, rv⟩
theorem it_tup {w0 : Wo} {p : Addr} {vs : List V} {ds : List D} (h : StT T w0 p vs) (rs : Reps T w0 ds vs) : ItOk T w0 (Itt T.K p) ds := by
  intro w i mo wd
  have h1 := h.mono mo
  have rs1 := rs.mono mo
  refine ⟨fun hl => ⟨vs, h1.sq, by rw [← rs.len]; exact hl⟩, fun d hd => ?_⟩
  obtain ⟨v, hv, rv⟩ := rs1.get hd
  refine ⟨⟨vs, v, h1.sq, hv⟩, fun x H' y => ?_⟩
  obtain ⟨e, y⟩ := y
  have ex := y vs h1.sq
  rw [hv] at ex
  cases ex
  exact ⟨w, e.symm, rfl, wd, Step.refl w, rv⟩
theorem it_rng {w0 : Wo} (lo hi : Int) : ItOk T w0 (Itr lo (hi - lo).toNat) (rangeD lo hi) := by
  intro w i mo wd
  unfold rangeD
  refine ⟨fun hl => ?_, fun d hd => ?_⟩
  · show (hi - lo).toNat ≤ i
    simpa using hl
  · rw [List.getElem?_map] at hd
    by_cases hi' : i < (hi - lo).toNat
    · rw [List.getElem?_range hi'] at hd
      cases hd
      refine ⟨hi', fun x H' y => ?_⟩
      obtain ⟨e, ex⟩ := y
      subst ex
      exact ⟨w, e.symm, rfl, wd, Step.refl w, .int _⟩
    · rw [List.getElem?_eq_none (by simpa using hi')] at hd
      cases hd
theorem it_pair {w : Wo} (wd : Wd T w) {t : Addr} (ht : w.H t = none) {x y : V} {d e : D} (r1 : Rep T w d x) (r2 : Rep T w e y) : ∃ w' : Wo, w'.H = upd w.H t (.tup [x, y]) ∧ w'.S = w.S ∧ Wd T w' ∧ Step w w' ∧ Rep T w' (.tup [d, e]) (.ref t) := by
  obtain ⟨w1, s1, l1⟩ := wd.still ht (.tup [x, y])
  exact ⟨⟨w.S, w.r, upd w.H t (.tup [x, y]), w.x⟩, rfl, rfl, w1, s1, .tup ⟨upd_same, l1⟩ (.cons (r1.mono s1.toMon) (.cons (r2.mono s1.toMon) .nil))⟩
theorem it_enum {w0 : Wo} {p : Addr} {vs : List V} {ds : List D} (h : StL T w0 p vs) (rs : Reps T w0 ds vs) : ItOk T w0 (Ite T.K p) (enumD ds) := by
  intro w i mo wd
  have h1 := h.mono mo
  have rs1 := rs.mono mo
  unfold enumD
  refine ⟨fun hl => ⟨vs, SqL.of h1.1, by rw [← rs.len]; simpa using hl⟩, fun d hd => ?_⟩
  rw [List.getElem?_map, List.getElem?_zipIdx] at hd
  cases hq : ds[i]? with
  | none => rw [hq] at hd; cases hd
  | some q =>
    rw [hq] at hd
    cases hd
    obtain ⟨v, hv, rv⟩ := rs1.get hq
    refine ⟨⟨vs, v, SqL.of h1.1, hv⟩, fun x H' y => ?_⟩
    obtain ⟨t, z, rfl, ht, rfl, y⟩ := y
    have ex := y vs (SqL.of h1.1)
    rw [hv] at ex
    cases ex
    rw [Nat.zero_add]
    exact it_pair wd ht (.int _) rv
theorem zip_get : ∀ {xs ys : List D} {i : Nat} {d : D}, ((xs.zip ys).map fun (x, y) => D.tup [x, y])[i]? = some d → ∃ x y, xs[i]? = some x ∧ ys[i]? = some y ∧ d = .tup [x, y]
  | [], _, _, _, h => by simp at h
  | _ :: _, [], _, _, h => by simp at h
  | x :: xs, y :: ys, 0, d, h => by
    simp at h
    exact ⟨x, y, rfl, rfl, h.symm⟩
  | x :: xs, y :: ys, i + 1, d, h => by
    have h' : ((xs.zip ys).map fun (x, y) => D.tup [x, y])[i]? = some d := by simpa using h
    obtain ⟨p, q, h1, h2, h3⟩ := zip_get h'
    exact ⟨p, q, by simpa using h1, by simpa using h2, h3⟩
theorem it_zipL {w0 : Wo} {p q : Addr} {vs us : List V} {ds es : List D} (h : StL T w0 p vs) (rs : Reps T w0 ds vs) (h' : StL T w0 q us) (rs' : Reps T w0 es us) : ItOk T w0 (Itz T.K p q) ((ds.zip es).map fun (x, y) => D.tup [x, y]) := by
  intro w i mo wd
  have h1 := h.mono mo
  have rs1 := rs.mono mo
  have h2 := h'.mono mo
  have rs2 := rs'.mono mo
  refine ⟨fun hl => ⟨vs, us, SqL.of h1.1, SqL.of h2.1, ?_⟩, fun d hd => ?_⟩
  · rw [← rs.len, ← rs'.len]
    rw [List.length_map, List.length_zip] at hl
    omega
  · obtain ⟨x, y, hx, hy, rfl⟩ := zip_get hd
    obtain ⟨v, hv, rv⟩ := rs1.get hx
    obtain ⟨u, hu, ru⟩ := rs2.get hy
    refine ⟨⟨vs, us, v, u, SqL.of h1.1, SqL.of h2.1, hv, hu⟩, fun z H' yy => ?_⟩
    obtain ⟨t, a, b, rfl, ht, rfl, y1, y2⟩ := yy
    have e1 := y1 vs (SqL.of h1.1)
    have e2 := y2 us (SqL.of h2.1)
    rw [hv] at e1
    rw [hu] at e2
    cases e1
    cases e2
    exact it_pair wd ht rv ru
theorem it_zipT {w0 : Wo} {p q : Addr} {vs us : List V} {ds es : List D} (h : StT T w0 p vs) (rs : Reps T w0 ds vs) (h' : StT T w0 q us) (rs' : Reps T w0 es us) : ItOk T w0 (ItzT T.K p q) ((ds.zip es).map fun (x, y) => D.tup [x, y]) := by
  intro w i mo wd
  have h1 := h.mono mo
  have rs1 := rs.mono mo
  have h2 := h'.mono mo
  have rs2 := rs'.mono mo
  refine ⟨fun hl => ⟨vs, us, h1.sq, h2.sq, ?_⟩, fun d hd => ?_⟩
  · rw [← rs.len, ← rs'.len]
    rw [List.length_map, List.length_zip] at hl
    omega
  · obtain ⟨x, y, hx, hy, rfl⟩ := zip_get hd
    obtain ⟨v, hv, rv⟩ := rs1.get hx
    obtain ⟨u, hu, ru⟩ := rs2.get hy
    refine ⟨⟨vs, us, v, u, h1.sq, h2.sq, hv, hu⟩, fun z H' yy => ?_⟩
    obtain ⟨t, a, b, rfl, ht, rfl, y1, y2⟩ := yy
    have e1 := y1 vs h1.sq
    have e2 := y2 us h2.sq
    rw [hv] at e1
    rw [hu] at e2
    cases e1
    cases e2
    exact it_pair wd ht rv ru
theorem toPI {tg e : Expr} {t t' : TI} (h : PI X tg e t) (k : ∀ σ H R, t' σ H R → t σ H R) : PI X tg e t' := ⟨fun pins s σ H R I q => h.run pins s σ H R I (k σ H R q)⟩
theorem ok_it (hK : X.K = T.K) {tg : Expr} {x : C} (ha : PE X a (tEv T W Ξ (ev G x))) : PI X tg a (tEvI T W Ξ (evI G (.tst x))) := by
  refine ⟨fun pins s σ H R I h => ?_⟩
  obtain ⟨δ, w, rfl, wd, en, xi, h⟩ := h
  change PostI T W w σ ((ev G x δ w.S).bind fun d S1 => itD S1 d) R at h
  cases hf : ev G x δ w.S with
  | stuck => rw [hf] at h; exact h.elim
  | ex c v S1 =>
    rw [hf] at h
    refine (pi_list ha).run pins s σ w.H R I ⟨δ, w, rfl, wd, en, xi, ?_⟩
    rw [hf]
    exact h
  | ok d S1 =>
    rw [hf] at h
    cases d with
    | lst ds =>
      refine (pi_list ha).run pins s σ w.H R I ⟨δ, w, rfl, wd, en, xi, ?_⟩
      rw [hf]
      intro w' v e wd' st r
      cases r with
      | @lst p vs _ hp rs => exact ⟨p, rfl, ⟨vs, SqL.of hp.1⟩, by rw [hK]; exact h w' _ e wd' st (it_lst hp rs)⟩
    | tup ds =>
      refine (pi_tup ha).run pins s σ w.H R I ⟨δ, w, rfl, wd, en, xi, ?_⟩
      rw [hf]
      intro w' v e wd' st r
      cases r with
      | @tup p vs _ hp rs => exact ⟨p, rfl, ⟨vs, SqT.of hp.1⟩, by rw [hK]; exact h w' _ e wd' st (it_tup hp rs)⟩
    | _ => exact h.elim
theorem inR_lt {i : Int} (h : inR i = true) : -4611686018427387904 ≤ i ∧ i < 4611686018427387904 := by
  unfold inR at h
  rw [Bool.and_eq_true] at h
  exact ⟨of_decide_eq_true h.1, of_decide_eq_true h.2⟩
theorem ok_rng1 (kp : Kept Ξ) {tg : Expr} {y : C} {p : Pos} (hg : Gl X "range") (hm : X.mg "range" = none) (ha : PE X a (tEv T W Ξ (ev G y))) (hs : plainE a = true) : PI X tg (.Call (.Name "range" p) [a] [] pos) (tEvI T W Ξ (evI G (.rng (.con (.int 0)) y))) := by
  have e1 : starEach [a] X.env = [(false, eval a X.env)] := star_plain hs
  refine toPI (pi_range1 hg hm (pa_cons ha pa_nil e1) e1) fun σ H R h => ?_
  obtain ⟨δ, w, rfl, wd, en, xi, h⟩ := h
  refine ⟨δ, w, rfl, wd, en, xi, (PostI.split (r := ev G y δ w.S) (f := fun y S2 => match D.int 0, y with | .int i, .int j => if inR i && inR j then .ok (rangeD i j) S2 else .stuck | _, _ => .stuck) h).mono fun v H1 ⟨w1, d1, e1, wd1, st1, r1, h1⟩ => ?_⟩
  subst e1
  obtain ⟨j, rfl, rfl⟩ : ∃ j, d1 = .int j ∧ v = .int j := by
    cases r1 with
    | int j => exact ⟨j, rfl, rfl⟩
    | _ => exact h1.elim
  change PostI T W w1 σ (if inR 0 && inR j then PV.R.ok (rangeD 0 j) w1.S else .stuck) R at h1
  by_cases f : (inR 0 && inR j) = true
  · rw [if_pos f] at h1
    rw [Bool.and_eq_true] at f
    have g := inR_lt f.2
    have q := h1 w1 (Itr 0 (j - 0).toNat) rfl wd1 (Step.refl _) (it_rng 0 j)
    rw [Int.sub_zero] at q
    exact ⟨j, rfl, by omega, by omega, q⟩
  · rw [if_neg f] at h1
    exact h1.elim
theorem ok_rng2 (kp : Kept Ξ) {tg : Expr} {x y : C} {p : Pos} (hg : Gl X "range") (hm : X.mg "range" = none) (ha : PE X a (tEv T W Ξ (ev G x))) (hb : PE X b (tEv T W Ξ (ev G y))) (hs : plainE a = true) (hs2 : plainE b = true) :
    PI X tg (.Call (.Name "range" p) [a, b] [] pos) (tEvI T W Ξ (evI G (.rng x y))) := by
  have e2 : starEach [b] X.env = [(false, eval b X.env)] := star_plain hs2
  have e1 : starEach [a, b] X.env = (false, eval a X.env) :: starEach [b] X.env := star_plain hs
  refine toPI (pi_range2 hg hm (pa_cons ha (pa_cons hb pa_nil e2) e1) (by rw [e1, e2]) e2) fun σ H R h => ?_
  obtain ⟨δ, w, rfl, wd, en, xi, h⟩ := h
  refine ⟨δ, w, rfl, wd, en, xi, (PostI.split h).mono fun v H1 ⟨w1, d1, e1, wd1, st1, r1, h1⟩ => ?_⟩
  subst e1
  refine ⟨δ, w1, rfl, wd1, en.mono st1.toMon, kp _ _ _ st1 xi, (PostI.split h1).mono fun u H2 ⟨w2, d2, e2, wd2, st2, r2, h2⟩ => ?_⟩
  subst e2
  obtain ⟨i, rfl, rfl⟩ : ∃ j, d1 = .int j ∧ v = .int j := by
    cases r1 with
    | int j => exact ⟨j, rfl, rfl⟩
    | _ => exact h2.elim
  obtain ⟨j, rfl, rfl⟩ : ∃ j, d2 = .int j ∧ u = .int j := by
    cases r2 with
    | int j => exact ⟨j, rfl, rfl⟩
    | _ => exact h2.elim
  change PostI T W w2 σ (if inR i && inR j then PV.R.ok (rangeD i j) w2.S else .stuck) R at h2
  by_cases f : (inR i && inR j) = true
  · rw [if_pos f] at h2
    rw [Bool.and_eq_true] at f
    have g := inR_lt f.2
    have g' := inR_lt f.1
    exact ⟨i, j, rfl, ⟨by omega, by omega, by omega, by omega⟩, h2 w2 _ rfl wd2 (Step.refl _) (it_rng i j)⟩
  · rw [if_neg f] at h2
    exact h2.elim
theorem ok_enum (hK : X.K = T.K) {elts : List Expr} {kk : Nat} {tpos : Pos} {x : C} {p : Pos} (hg : Gl X "enumerate") (hm : X.mg "enumerate" = none) (ha : PE X a (tEv T W Ξ (ev G x))) (hs : plainE a = true) :
    PI X (.Tuple elts kk tpos) (.Call (.Name "enumerate" p) [a] [] pos) (tEvI T W Ξ (evI G (.enum x))) := by
  have e1 : starEach [a] X.env = [(false, eval a X.env)] := star_plain hs
  refine toPI (pi_enum hg hm (pa_cons ha pa_nil e1) e1) fun σ H R h => ?_
  obtain ⟨δ, w, rfl, wd, en, xi, h⟩ := h
  refine ⟨δ, w, rfl, wd, en, xi, (PostI.split h).mono fun v H1 ⟨w1, d1, e1, wd1, st1, r1, h1⟩ => ?_⟩
  subst e1
  cases r1 with
  | @lst q vs ds hp rs => exact ⟨q, vs, rfl, SqL.of hp.1, by rw [hK]; exact h1 w1 _ rfl wd1 (Step.refl _) (it_enum hp rs)⟩
  | _ => exact h1.elim
theorem ok_zip (hK : X.K = T.K) (kp : Kept Ξ) {elts : List Expr} {kk : Nat} {tpos : Pos} {x y : C} {p : Pos} (hg : Gl X "zip") (hm : X.mg "zip" = none) (ha : PE X a (tEv T W Ξ (ev G x))) (hb : PE X b (tEv T W Ξ (ev G y))) (hs : plainE a = true) (hs2 : plainE b = true) :
    PI X (.Tuple elts kk tpos) (.Call (.Name "zip" p) [a, b] [] pos) (tEvI T W Ξ (evI G (.zip x y))) := by
  have e2 : starEach [b] X.env = [(false, eval b X.env)] := star_plain hs2
  have e1 : starEach [a, b] X.env = (false, eval a X.env) :: starEach [b] X.env := star_plain hs
  refine toPI (pi_zipA hg hm (pa_cons ha (pa_cons hb pa_nil e2) e1) e1 (by rw [e2]; rfl)) fun σ H R h => ?_
  obtain ⟨δ, w, rfl, wd, en, xi, h⟩ := h
  refine ⟨δ, w, rfl, wd, en, xi, (PostI.split h).mono fun v H1 ⟨w1, d1, e1, wd1, st1, r1, h1⟩ => ?_⟩
  subst e1
  refine ⟨δ, w1, rfl, wd1, en.mono st1.toMon, kp _ _ _ st1 xi, (PostI.split h1).mono fun u H2 ⟨w2, d2, e2, wd2, st2, r2, h2⟩ => ?_⟩
  subst e2
  have r1 := r1.mono st2.toMon
  cases r1 with
  | @lst q vs ds hp rs =>
    cases r2 with
    | @lst q' us es hp' rs' => exact ⟨q, q', vs, us, rfl, .inl ⟨SqL.of hp.1, SqL.of hp'.1, by rw [hK]; exact h2 w2 _ rfl wd2 (Step.refl _) (it_zipL hp rs hp' rs')⟩⟩
    | _ => exact h2.elim
  | @tup q vs ds hp rs =>
    cases r2 with
    | @tup q' us es hp' rs' => exact ⟨q, q', vs, us, rfl, .inr ⟨SqT.of hp.1, SqT.of hp'.1, by rw [hK]; exact h2 w2 _ rfl wd2 (Step.refl _) (it_zipT hp rs hp' rs')⟩⟩
    | _ => exact h2.elim
  | _ => exact h2.elim
end
end PV

namespace PV
open PySem L2 PyProof.Rows RZ

theorem Wd.adopt {T : Tb} {w : Wo} {xs : List Addr} {p : Addr} {c : Cell} (W : Wd T w) (hx : w.x = p :: xs) (hp : p ∉ xs) (hc : ∀ w', Mon w w' → w'.H = w.H → CellOk T w' p c) :
    Wd T ⟨w.S ++ [c], w.r ++ [p], w.H, xs⟩ ∧ Mon w ⟨w.S ++ [c], w.r ++ [p], w.H, xs⟩ ∧ (w.r ++ [p])[w.S.length]? = some p := by
  have hpx : p ∈ w.x := by rw [hx]; exact List.mem_cons_self
  have mo : Mon w ⟨w.S ++ [c], w.r ++ [p], w.H, xs⟩ := by
    refine ⟨fun n a h => ?_, fun a u h l => ⟨h, fun l' => ?_⟩⟩
    · show (w.r ++ [p])[n]? = some a
      rw [List.getElem?_append_left (List.getElem?_eq_some_iff.mp h).1]
      exact h
    · rcases l' with l' | ⟨n, c', h1, h2, h3⟩
      · exact l (.inl (by rw [hx]; exact List.mem_cons_of_mem _ l'))
      change (w.S ++ [c])[n]? = some c' at h1
      change (w.r ++ [p])[n]? = some a at h3
      by_cases hn : n < w.S.length
      · rw [List.getElem?_append_left hn] at h1
        rw [List.getElem?_append_left (by rw [W.len]; exact hn)] at h3
        exact l (.inr ⟨n, c', h1, h2, h3⟩)
      · rw [List.getElem?_append_right (by rw [W.len]; omega)] at h3
        have e : a = p := by simpa using List.mem_of_getElem? h3
        exact l (.inl (by rw [e]; exact hpx))
  have last : (w.r ++ [p])[w.S.length]? = some p := by
    rw [← W.len, List.getElem?_append_right (Nat.le_refl _)]
    simp
  refine ⟨⟨by simp [W.len], ?_, fun n c' a h1 h2 => ?_, fun a ha => ?_⟩, mo, last⟩
  · rw [List.nodup_append]
    refine ⟨W.nd, by simp, fun a ha b hb e => ?_⟩
    have : b = p := by simpa using hb
    exact (W.res p hpx).1 (by rw [← this, ← e]; exact ha)
  · change (w.S ++ [c])[n]? = some c' at h1
    change (w.r ++ [p])[n]? = some a at h2
    by_cases hn : n < w.S.length
    · rw [List.getElem?_append_left hn] at h1
      rw [List.getElem?_append_left (by rw [W.len]; exact hn)] at h2
      exact (W.cell n c' a h1 h2).mono mo rfl
    · rw [List.getElem?_append_right (by omega)] at h1
      rw [List.getElem?_append_right (by rw [W.len]; omega)] at h2
      have e1 : c' = c := by simpa using List.mem_of_getElem? h1
      have e2 : a = p := by simpa using List.mem_of_getElem? h2
      rw [e1, e2]
      exact hc _ mo rfl
  · obtain ⟨h1, u⟩ := W.res a (by rw [hx]; exact List.mem_cons_of_mem _ ha)
    refine ⟨fun hm => ?_, u⟩
    rcases List.mem_append.mp hm with hm | hm
    · exact h1 hm
    · have : a = p := by simpa using hm
      exact hp (by rw [← this]; exact ha)
theorem EnvOk.wipe {T : Tb} {w : Wo} {δ : Env} {σ : L2.St} (h : EnvOk T w δ σ) : ∀ vs : List Nat, EnvOk T w (wipeD δ vs) (L2.wipe σ vs)
  | [] => h
  | v :: vs => (EnvOk.wipe h vs).unset v none
theorem wipe_set_same {σ : L2.St} : ∀ (l : List Nat) (i : Nat), i ∈ l → (L2.wipe σ l).set i none = L2.wipe σ l
  | j :: l, i, h => by
    show ((L2.wipe σ l).set j none).set i none = (L2.wipe σ l).set j none
    by_cases e : i = j
    · subst e
      rw [List.set_set]
    · rw [List.set_comm _ _ (fun z => e z.symm)]
      rcases List.mem_cons.mp h with h | h
      · exact absurd h e
      · rw [wipe_set_same l i h]
theorem wipe_wipe {σ : L2.St} (vs : List Nat) : L2.wipe (L2.wipe σ vs) vs = L2.wipe σ vs := by
  have key : ∀ l : List Nat, (∀ i ∈ l, i ∈ vs) → L2.wipe (L2.wipe σ vs) l = L2.wipe σ vs := by
    intro l
    induction l with
    | nil => intro _; rfl
    | cons k l ih =>
      intro hl
      show (L2.wipe (L2.wipe σ vs) l).set k none = _
      rw [ih (fun i hi => hl i (List.mem_cons_of_mem _ hi)), wipe_set_same vs k (hl k List.mem_cons_self)]
  exact key vs fun _ h => h
theorem compL_noex {tg : Tg} {cnd : Env → Store → R Bool} {elt : F} {δ : Env} : ∀ (its : List D) (S : Store) (c : Nat) (v : D) (S' : Store), compL tg cnd elt δ its S ≠ .ex c v S'
  | [], _, _, _, _, h => by cases h
  | d :: ds, S, c, v, S', h => by
    unfold compL at h
    split at h
    · cases h
    · split at h
      · split at h
        · split at h
          · cases h
          · cases h
        · cases h
      · exact compL_noex ds _ c v S' h
      · cases h
abbrev X0 : Xi := fun _ _ => True
abbrev W0 : WX := fun _ _ _ _ => False
theorem kept0 : Kept X0 := fun _ _ _ _ h => h
section
variable {X : Cx} {T : Tb} {W : WX} {Ξ : Xi} {G : Gv} {pos : Pos}
/-- the reading of a comprehension -/
theorem comp_reads {wi : TI} {tg : Tg} {src cnd elt : C} {m : Bool} {σ : L2.St} {H : Hp} {Q : VK} (h : tEv T W Ξ (ev G (.comp m tg src cnd elt)) σ H Q) :
    tLc (tEvI T W Ξ (evI G src)) (tTg T tg) (tEvT T W0 X0 (evT G cnd)) (tEv T W0 X0 (ev G elt)) (slots tg) σ H Q := by
  obtain ⟨δ, w, rfl, wd, en, xi, h⟩ := h
  refine ⟨δ, w, rfl, wd, en, xi, ?_⟩
  change Post T W w σ (Rep T) ((evI G src δ w.S).bind fun its S1 => (compL tg (evT G cnd) (ev G elt) δ its S1).bind fun ds S2 => newL m ds S2) Q at h
  cases hf : evI G src δ w.S with
  | stuck => rw [hf] at h; exact h.elim
  | ex c v S1 => rw [hf] at h; exact h
  | ok its S1 =>
    rw [hf] at h
    intro w1 J e1 wd1 st1 it p hp
    change Post T W w σ (Rep T) ((compL tg (evT G cnd) (ev G elt) δ its S1).bind fun ds S2 => newL m ds S2) Q at h
    cases hc : compL tg (evT G cnd) (ev G elt) δ its S1 with
    | stuck => rw [hc] at h; exact h.elim
    | ex c v S2 => exact absurd hc (compL_noex its S1 c v S2)
    | ok ds S2 =>
      rw [hc] at h
      change Post T W w σ (Rep T) (newL m ds S2) Q at h
      unfold newL at h
      by_cases f : fits ds.length = true
      · rw [if_pos f] at h
        have hnx : p ∉ w1.x := fun z => by
          obtain ⟨_, o, ho⟩ := wd1.res p z
          rw [hp] at ho
          cases ho
        have en1 := en.mono st1.toMon
        -- what holds between two turns
        refine ⟨fun i k H => k = its.length - i ∧ i ≤ its.length ∧ ∃ (w' : Wo) (acc : List V) (accD rest : List D), w'.H = H ∧ Wd T w' ∧ Mon w1 w' ∧ w'.x = p :: w1.x ∧ (∀ a, a ∈ w1.x → w'.H a = w1.H a) ∧ w'.H p = some (.lst acc) ∧ Reps T w' accD acc ∧
          compL tg (evT G cnd) (ev G elt) δ (its.drop i) w'.S = .ok rest S2 ∧ accD ++ rest = ds, ⟨its.length, by simp, Nat.zero_le _, ?_⟩, ?_⟩
        · obtain ⟨r1, r2⟩ := wd1.reserve hp (.lst [])
          refine ⟨⟨w1.S, w1.r, upd w1.H p (.lst []), p :: w1.x⟩, [], [], ds, rfl, r1, r2, rfl, fun a ha => ?_, upd_same, .nil, ?_, rfl⟩
          · show upd w1.H p (.lst []) a = _
            rw [upd_ne (fun z => hnx (by rw [← z]; exact ha))]
          · show compL tg (evT G cnd) (ev G elt) δ its w1.S = _
            rw [e1]
            exact hc
        · rintro i k H ⟨rfl, hi, w', acc, accD, rest, rfl, wd', mo, ex', hx', hacc, racc, hrest, hds⟩
          have hpx : p ∈ w'.x := by rw [ex']; exact List.mem_cons_self
          obtain ⟨stop, go⟩ := it w' i mo wd'
          by_cases hlt : i < its.length
          · have hd : its[i]? = some its[i] := List.getElem?_eq_getElem hlt
            have hdrop : its.drop i = its[i] :: its.drop (i + 1) := List.drop_eq_getElem_cons hlt
            obtain ⟨g1, g2⟩ := go _ hd
            rw [hdrop] at hrest
            unfold compL at hrest
            refine .inr ⟨g1, fun H' => (its.length - (i + 1) = its.length - (i + 1)) ∧ i + 1 ≤ its.length ∧ ∃ (w' : Wo) (acc : List V) (accD rest : List D), w'.H = H' ∧ Wd T w' ∧ Mon w1 w' ∧ w'.x = p :: w1.x ∧ (∀ a, a ∈ w1.x → w'.H a = w1.H a) ∧ w'.H p = some (.lst acc) ∧ Reps T w' accD acc ∧
              compL tg (evT G cnd) (ev G elt) δ (its.drop (i + 1)) w'.S = .ok rest S2 ∧ accD ++ rest = ds, fun H' q => ⟨its.length - (i + 1), by omega, q⟩, fun x H' y => ?_⟩
            obtain ⟨w2, rfl, eS2, wd2, st2, r2⟩ := g2 x H' y
            have mo2 := mo.trans st2.toMon
            have hp2 : p ∈ w2.x := by rw [st2.ex]; exact hpx
            have hacc2 : w2.H p = some (.lst acc) := (st2.hx p hpx).trans hacc
            split at hrest
            · cases hrest
            · rename_i δ1 hb
              refine ⟨w2, its[i], wipeD δ (slots tg), δ1, rfl, wd2, r2, (en1.mono mo2).wipe _, hb, fun σ' eσ en2 => ⟨by rw [eσ, wipe_wipe], ?_⟩⟩
              refine ⟨δ1, w2, rfl, wd2, en2, trivial, ?_⟩
              rw [eS2]
              split at hrest
              · rename_i S3 hcnd
                rw [hcnd]
                intro w3 k3 e3 wd3 st3 ek
                cases ek
                refine iteT ⟨δ1, w3, rfl, wd3, en2.mono st3.toMon, trivial, ?_⟩
                rw [e3]
                split at hrest
                · rename_i e S4 helt
                  rw [helt]
                  intro w4 v e4 wd4 st4 r4
                  have st24 := st3.trans st4
                  have hp4 : p ∈ w4.x := by rw [st24.ex]; exact hp2
                  have hacc4 : w4.H p = some (.lst acc) := (st24.hx p hp2).trans hacc2
                  split at hrest
                  · rename_i es S5 hmore
                    cases hrest
                    have hlen : accD.length + (es.length + 1) = ds.length := by
                      rw [← hds]
                      simp
                    have hl := racc.len
                    have hsz := fits_le f
                    refine ⟨acc, hacc4, by omega, rfl, hlt, ?_⟩
                    obtain ⟨f1, f2⟩ := wd4.fill hp4 (.lst (acc ++ [v]))
                    have mo4 := mo2.trans st24.toMon
                    refine ⟨⟨w4.S, w4.r, upd w4.H p (.lst (acc ++ [v])), w4.x⟩, acc ++ [v], accD ++ [e], es, rfl, f1, mo4.trans f2, ?_, fun a ha => ?_, upd_same, ?_, ?_, ?_⟩
                    · show w4.x = _
                      rw [st24.ex, st2.ex, ex']
                    · show upd w4.H p _ a = _
                      have hap : a ≠ p := fun z => hnx (by rw [← z]; exact ha)
                      have hax : a ∈ w'.x := by rw [ex']; exact List.mem_cons_of_mem _ ha
                      have hax2 : a ∈ w2.x := by rw [st2.ex]; exact hax
                      rw [upd_ne hap, st24.hx a hax2, st2.hx a hax, hx' a ha]
                    · exact ((racc.mono st2.toMon).mono st24.toMon |>.append (.cons r4 .nil)).mono f2
                    · show compL _ _ _ _ _ w4.S = _
                      rw [e4]
                      exact hmore
                    · rw [List.append_assoc]
                      exact hds
                  · cases hrest
                · cases hrest
              · rename_i S3 hcnd
                rw [hcnd]
                intro w3 k3 e3 wd3 st3 ek
                cases ek
                refine iteF ⟨rfl, hlt, w3, acc, accD, rest, rfl, wd3, mo2.trans st3.toMon, ?_, fun a ha => ?_, (st3.hx p hp2).trans hacc2, (racc.mono st2.toMon).mono st3.toMon, ?_, hds⟩
                · rw [st3.ex, st2.ex, ex']
                · have hax : a ∈ w'.x := by rw [ex']; exact List.mem_cons_of_mem _ ha
                  have hax2 : a ∈ w2.x := by rw [st2.ex]; exact hax
                  rw [st3.hx a hax2, st2.hx a hax, hx' a ha]
                · rw [e3]
                  exact hrest
              · cases hrest
          · have ei : i = its.length := by omega
            subst ei
            refine .inl ⟨stop (Nat.le_refl _), ?_⟩
            rw [List.drop_length] at hrest
            cases hrest
            rw [List.append_nil] at hds
            subst hds
            cases m with
            | false =>
              obtain ⟨q1, q2, q3⟩ := wd'.release ex' hnx
              have stE : Step w ⟨w'.S, w'.r, w'.H, w1.x⟩ := st1.trans ⟨mo.trans q2, rfl, hx'⟩
              exact h ⟨w'.S, w'.r, w'.H, w1.x⟩ _ rfl q1 stE (.lst ⟨hacc, q3⟩ (racc.mono q2))
            | true =>
              obtain ⟨q1, q2, q3⟩ := wd'.adopt (c := .lst accD) ex' hnx fun w2 m2 e2 => ⟨acc, by rw [e2]; exact hacc, racc.mono m2⟩
              have stE : Step w ⟨w'.S ++ [.lst accD], w'.r ++ [p], w'.H, w1.x⟩ := st1.trans ⟨mo.trans q2, rfl, hx'⟩
              exact h ⟨w'.S ++ [.lst accD], w'.r ++ [p], w'.H, w1.x⟩ _ rfl q1 stE (.ref q3)
      · rw [if_neg f] at h
        exact h.elim
theorem ok_comp (hc : X.calm = true) (hN : X.N.Nodup) {elt tgE iter : Expr} {ifs : List Expr} {scope : Scope} {own : List (Str × Nat)} {tg : Tg} {src cnd el : C} {m : Bool} (hi : PI X tgE iter (tEvI T W Ξ (evI G src))) (ok : BlkOk X.N X.env.scope scope own) (ho : own.map (·.2) = slots tg)
    (hg : ∀ (s : Shared) (H : Hp) (C : Addr) (cl : List (Str × Addr)) (fp : List Addr), PG (X.blk s H scope (compEnvC scope cl C X.env) fp) tgE (tTg T tg)) (ht : ∀ (s : Shared) (H : Hp) (C : Addr) (cl : List (Str × Addr)) (fp : List Addr), PTs (X.blk s H scope (compEnvC scope cl C X.env) fp) ifs (tEvT T W0 X0 (evT G cnd)))
    (he : ∀ (s : Shared) (H : Hp) (C : Addr) (cl : List (Str × Addr)) (fp : List Addr), PE (X.blk s H scope (compEnvC scope cl C X.env) fp) elt (tEv T W0 X0 (ev G el))) (hs : ∀ x, foldedSetIterable iter X.env x = pure x) :
    PE X (.ListComp elt [⟨tgE, iter, ifs, 0⟩] scope pos) (tEv T W Ξ (ev G (.comp m tg src cnd el))) := by
  refine toPE (pe_lc hc hN hi ok hg ht he hs) fun σ H Q h => ?_
  rw [ho]
  exact comp_reads (wi := tEvI T W Ξ (evI G src)) h
theorem ok_setComp (hc : X.calm = true) (hN : X.N.Nodup) {i : Nat} {y : Str} {py spos : Pos} {elt tgE iter : Expr} {ifs : List Expr} {scope : Scope} {own : List (Str × Nat)} {tg : Tg} {src cnd el : C} {m : Bool} (hy : X.N[i]? = some y) (hyl : X.env.scope.names.lookup y = some .local)
    (hsw : swapsWith (.ListComp elt [⟨tgE, iter, ifs, 0⟩] scope pos) (some (.Name y py)) spos.line X.env = pure true) (hi : PI X tgE iter (tEvI T W X0 (evI G src))) (ok : BlkOk X.N X.env.scope scope own) (ho : own.map (·.2) = slots tg)
    (hg : ∀ (s : Shared) (H : Hp) (C : Addr) (cl : List (Str × Addr)) (fp : List Addr), PG (X.blk s H scope (compEnvC scope cl C X.env) fp) tgE (tTg T tg)) (ht : ∀ (s : Shared) (H : Hp) (C : Addr) (cl : List (Str × Addr)) (fp : List Addr), PTs (X.blk s H scope (compEnvC scope cl C X.env) fp) ifs (tEvT T W0 X0 (evT G cnd)))
    (he : ∀ (s : Shared) (H : Hp) (C : Addr) (cl : List (Str × Addr)) (fp : List Addr), PE (X.blk s H scope (compEnvC scope cl C X.env) fp) elt (tEv T W0 X0 (ev G el))) (hs : ∀ x, foldedSetIterable iter X.env x = pure x) :
    PS X (.Assign [.Name y py] (.ListComp elt [⟨tgE, iter, ifs, 0⟩] scope pos) spos) (tAsg (tEv T W X0 (ev G (.comp m tg src cnd el))) (gName i)) := by
  refine toPS (ps_setLc hc hN hy hyl hsw hi ok hg ht he hs) fun D σ H h => ?_
  rw [ho]
  exact comp_reads (wi := tEvI T W X0 (evI G src)) h
end
end PV

namespace PV
open PySem L2 PyProof.Rows RZ

/-- a def keeps its promise where no repr is under way -/
structure FnG (P : Program) (wl : World) (K : PySem.W.Frag) (mg : Str → Option Value) (base : Heap) (k : Nat) (f : Addr) (fd : FuncData) (ps : List Str) (sp : Sp) : Prop where
  len : ∀ vs H Q E, sp vs H Q E → vs.length = ps.length
  run : ∀ (A : Around) (outer : List PySem.Env) (s : Shared) (H : Hp) (args : Args) (us : List Value) (vs : List V) (Q : VK) (E : XK), Room k A → A.guards = some [] → Env0 P wl K mg base A outer s H → BindsTo s fd args (ps.zip us) → Vals vs us → sp vs H Q E →
    codeAny (model P wl) A (.call (.ref f) args) (CR (L2.CX P wl) outer P wl H s Q E) s
theorem FnG.mono {P : Program} {wl : World} {K : PySem.W.Frag} {mg : Str → Option Value} {base : Heap} {j k : Nat} {f : Addr} {fd : FuncData} {ps : List Str} {sp : Sp} (F : FnG P wl K mg base j f fd ps sp) (h : j ≤ k) : FnG P wl K mg base k f fd ps sp :=
  ⟨F.len, fun A outer s H args us vs Q E hr => F.run A outer s H args us vs Q E (hr.mono h)⟩
theorem FnG.of {P : Program} {wl : World} {K : PySem.W.Frag} {mg : Str → Option Value} {base : Heap} {k : Nat} {f : Addr} {fd : FuncData} {x qual : Str} {st : Stmt} {N ps : List Str} {sp : Sp} (F : Fun K x qual st f fd) (S : FnScope N ps (defScope st))
    (len : ∀ vs H Q E, sp vs H Q E → vs.length = ps.length)
    (hbody : ∀ (cdv : Value) (A : Around) (outer : List PySem.Env) (s : Shared) (H : Hp) (vs : List V) (Q : VK) (E : XK), Room k (A.deeper (envOfC qual (defScope st) s.heap.objs.size f cdv)) → A.guards = some [] → sp vs H Q E →
      ∃ t, PSs (cxOf (L2.CX P wl) P wl K mg base N qual (defScope st) f cdv A outer s H E) (defBody st) t ∧ t { nx := fun _ H' => Q .non H', rt := Q } (start N vs) H) :
    FnG P wl K mg base (k + 1) f fd ps sp := by
  obtain ⟨oc, od, kV, doc, pm, an, cdv, ct, osl, rfl, lk, hcd⟩ := F.ex
  refine ⟨len, fun A outer s H args us vs Q E room gd env0 bnd rel pr => ?_⟩
  have hlen := len _ _ _ _ pr
  have kin : K.In s.heap := env0.mod.kin.keeps fun b o e => (env0.bs b o e).1
  have lim : s.heap.NoLimit := env0.mod.nolimit.keeps fun b o e => (env0.bs b o e).1
  refine codeAny_call_function room.depth (kin _ _ lk) rfl S.co S.gen rfl (PySem.W.codeRec_of kin hcd) (bnd _ _ _ _ ?_)
  refine wpAny_newFunctionEnv_cells S.kind (fun y hy => ?_) fun env he s1 ic => ?_
  · obtain ⟨n, v⟩ := y
    rcases S.par n (List.of_mem_zip hy).1 with q | q
    · exact Or.inl q
    · exact Or.inr ⟨q, PySem.W.cellsFrom_some _ _ _ (Or.inl q)⟩
  · subst he
    refine ⟨lim.keeps ic.toInCall.keep, codeAny_func ?_⟩
    obtain ⟨t, ht, hq⟩ := hbody cdv A outer s H vs Q E (room.deeper _) gd pr
    have inv := inv_start (CX := L2.CX P wl) (E := E) S room.hd env0 hlen rel ic
    refine wpAny_mono (ht.run [] s1 (start N vs) H _ inv hq) (fun fl s' hs => ?_) fun e s' hs => hs
    cases fl with
    | ret u => obtain ⟨v, σ', H', J, rv, q⟩ := hs; exact ⟨v, H', J.os, J.bare, J.base, J.hok, rv, q⟩
    | next => obtain ⟨σ', H', J, q⟩ := hs; exact ⟨V.non, H', J.os, J.bare, J.base, J.hok, rfl, q⟩
    | brk => obtain ⟨_, _, _, q⟩ := hs; exact q.elim
    | cont => obtain ⟨_, _, _, q⟩ := hs; exact q.elim
/-- the promise of a function upon data -/
def spEv (T : Tb) (n : Nat) (f : List D → Store → R D) : Sp := fun vs H Q E => ∃ (ds : List D) (w : Wo), w.H = H ∧ Wd T w ∧ Reps T w ds vs ∧ vs.length = n ∧ Post T (fun cls dd _ H => E cls dd H) w [] (Rep T) (f ds w.S) Q
section
variable {X : Cx} {T : Tb} {W : WX} {Ξ : Xi} {G : Gv} {a b c : Expr} {pos : Pos}
theorem run_G {k : Nat} {f : Addr} {fd : FuncData} {ps : List Str} {sp : Sp} {pins : List (Addr × Obj)} {σ : L2.St} {H : Hp} {s : Shared} {Q : VK} {us : List Value} {vs : List V} (F : FnG X.prog X.w X.K X.mg X.base k f fd ps sp) (hr : Room k X.A) (hgd : X.A.guards = some []) (hb : Binds X.K fd ps [])
    (tk : Takes X W) (I : Inv X pins σ H s) (r : Vals vs us) (h : sp vs H Q (WE W σ)) : wpAny (model X.prog X.w) X.A (call (.ref f) us) (EP X pins σ Q) X.xe s := by
  have hl : us.length = ps.length := r.length.symm.trans (F.len _ _ _ _ h)
  have bd := hb s us I.kIn (by rw [List.append_nil]; exact hl)
  rw [List.append_nil] at bd
  refine wpAny_call (codeAny_mono (F.run X.A X.stack s H ⟨us, []⟩ us vs Q (WE W σ) hr hgd I.env0 bd r h) fun res s' hq => ?_)
  match res, hq with
  | .error e, hq => exact passAt tk σ pins H s e s' I hq
  | .ok (.ret u), hq => exact I.after hq
/-- what a function upon data asks of its call -/
theorem cal_len {n : Nat} {ps : List Str} {w : Wo} {σ : L2.St} {xs : List D} {vs : List V} {Q : VK} (hcal : ∀ ds S, G.cal n ds S ≠ .stuck → ds.length = ps.length) (rs : Reps T w xs vs) (q : Post T W w σ (Rep T) (G.cal n xs w.S) Q) : vs.length = ps.length := by
  rw [← rs.len]
  refine hcal xs w.S fun z => ?_
  rw [z] at q
  exact q
/-- f(..) -/
theorem ok_call (kp : Kept Ξ) {k : Nat} {f : Addr} {fd : FuncData} {ps : List Str} {x : Str} {p : Pos} {e : Expr} {es : List Expr} {n : Nat} {y : C} (hcal : ∀ ds S, G.cal n ds S ≠ .stuck → ds.length = ps.length) (F : FnG X.prog X.w X.K X.mg X.base k f fd ps (spEv T ps.length (G.cal n))) (hr : Room k X.A) (hgd : X.A.guards = some [])
    (hg : Gl X x) (hm : X.mg x = some (.ref f)) (hk : PySem.W.keepIn X.K (.ref f) = true) (hb : Binds X.K fd ps []) (tk : Takes X W) (ha : PA X (e :: es) (tEvs T W Ξ (evs G y))) (hs : (e :: es).all plainE = true) (hdb : (x == ("__debug__" : Str)) = false) :
    PE X (.Call (.Name x p) (e :: es) [] pos) (tEv T W Ξ (ev G (.call n y))) := by
  refine ⟨fun pins s σ H Q I h => ?_⟩
  obtain ⟨δ, w, rfl, wd, en, xi, h⟩ := h
  rw [List.all_cons, Bool.and_eq_true] at hs
  have npl : ∀ l : List Expr, l.all plainE = true → (backTo pos (starEach l X.env)).any (·.1) = false := by
    intro l
    induction l with
    | nil => intro _; rfl
    | cons z l ih =>
      intro hl
      rw [List.all_cons, Bool.and_eq_true] at hl
      rw [star_plain hl.1]
      show (false || (backTo pos (starEach l X.env)).any (·.1)) = false
      rw [ih hl.2]
      rfl
  refine wpAny_Call_Name_kw (ld_glob I hg hm ?_ hdb)
  refine PySem.W.callWith_K (h₀ := X.base) I.ok.mod.kin hk (thn (ha.run pos pins s σ w.H _ I (tEvs.bind1 kp wd en xi h)) fun us s1 hq => ?_) (star_plain hs.1) (npl es hs.2)
  obtain ⟨vs, H1, I1, r, w1, xs, rfl, wd1, en1, xi1, rs, q⟩ := hq
  exact ⟨I1.kIn, run_G F hr hgd hb tk I1 r ⟨xs, w1, rfl, wd1, rs, cal_len hcal rs q, q⟩⟩
theorem ok_call0 {k : Nat} {f : Addr} {fd : FuncData} {ps : List Str} {x : Str} {p : Pos} {n : Nat} (hcal : ∀ ds S, G.cal n ds S ≠ .stuck → ds.length = ps.length) (F : FnG X.prog X.w X.K X.mg X.base k f fd ps (spEv T ps.length (G.cal n))) (hr : Room k X.A) (hgd : X.A.guards = some [])
    (hg : Gl X x) (hm : X.mg x = some (.ref f)) (hk : PySem.W.keepIn X.K (.ref f) = true) (hb : Binds X.K fd ps []) (tk : Takes X W) (hdb : (x == ("__debug__" : Str)) = false) : PE X (.Call (.Name x p) [] [] pos) (tEv T W Ξ (ev G (.call n .nil))) := by
  refine ⟨fun pins s σ H Q I h => ?_⟩
  obtain ⟨δ, w, rfl, wd, en, xi, h⟩ := h
  have q : Post T W w σ (Rep T) (G.cal n [] w.S) Q := h
  refine wpAny_Call_Name_kw (ld_glob I hg hm ?_ hdb)
  exact PySem.W.callWith_K0 I.kIn hk (run_G (us := []) (vs := []) F hr hgd hb tk I .nil ⟨[], w, rfl, wd, .nil, cal_len hcal .nil q, q⟩)
/-! statements -/
theorem PostS.step {w w' : Wo} {r : RS} {E : Ends} (st : Step w w') (h : PostS T W w r E) : PostS T W w' r E := by
  cases r with
  | nx δ S => exact fun w2 σ e wd s2 en => h w2 σ e wd (st.trans s2) en
  | bk δ S => exact fun w2 σ e wd s2 en => h w2 σ e wd (st.trans s2) en
  | ct δ S => exact fun w2 σ e wd s2 en => h w2 σ e wd (st.trans s2) en
  | rt d S => exact fun w2 v e wd s2 rv => h w2 v e wd (st.trans s2) rv
  | ex c v δ S => exact fun w2 σ cl dd e wd s2 en rx => h w2 σ cl dd e wd (st.trans s2) en rx
  | stuck => exact h
theorem PostS.ofR {w : Wo} {σ : L2.St} {δ : Env} {r : R D} {f : D → Store → RS} {E : Ends} (en : EnvOk T w δ σ) (h : PostS T W w (RofS δ r f) E) :
    Post T W w σ (Rep T) r fun v H1 => ∃ (w1 : Wo) (d : D), w1.H = H1 ∧ Wd T w1 ∧ Step w w1 ∧ Rep T w1 d v ∧ PostS T W w1 (f d w1.S) E := by
  cases r with
  | ok a S =>
    intro w' v e wd st rl
    refine ⟨w', a, rfl, wd, st, rl, PostS.step st ?_⟩
    rw [e]
    exact h
  | ex c v S => exact fun w' cl dd e wd st rx => h w' σ cl dd e wd st (en.mono st.toMon) rx
  | stuck => exact h
theorem ok_expr {y : C} (ha : PE X a (tEv T W X0 (ev G y))) (hs : swapsWith a none pos.line X.env = pure false) : PS X (.Expr a pos) (tSt T W (ex G (.expr y))) := by
  refine toPS (ps_expr ha hs) fun E σ H h => ?_
  obtain ⟨δ, w, rfl, wd, en, h⟩ := h
  exact ⟨δ, w, rfl, wd, en, trivial, (PostS.ofR en h).mono fun v H1 ⟨w1, d, e1, wd1, st1, r1, h1⟩ => by
    subst e1
    exact h1 w1 σ rfl wd1 (Step.refl _) (en.mono st1.toMon)⟩
theorem ok_ret {y : C} (ha : PE X a (tEv T W X0 (ev G y))) : PS X (.Return (some a) pos) (tSt T W (ex G (.ret y))) := by
  refine toPS (ps_ret ha) fun E σ H h => ?_
  obtain ⟨δ, w, rfl, wd, en, h⟩ := h
  exact ⟨δ, w, rfl, wd, en, trivial, (PostS.ofR en h).mono fun v H1 ⟨w1, d, e1, wd1, st1, r1, h1⟩ => by
    subst e1
    exact h1 w1 v rfl wd1 (Step.refl _) r1⟩
theorem ok_retN : PS X (.Return none pos) (tSt T W (ex G .retN)) := by
  refine toPS ps_retN fun E σ H h => ?_
  obtain ⟨δ, w, rfl, wd, en, h⟩ := h
  exact h w .non rfl wd (Step.refl _) .non
theorem ok_pass : PS X (.Pass pos) (tSt T W (ex G .pass)) := by
  refine toPS ps_pass fun E σ H h => ?_
  obtain ⟨δ, w, rfl, wd, en, h⟩ := h
  exact h w σ rfl wd (Step.refl _) en
theorem ok_brk : PS X (.Break pos) (tSt T W (ex G .brk)) := by
  refine toPS ps_break fun E σ H h => ?_
  obtain ⟨δ, w, rfl, wd, en, h⟩ := h
  exact h w σ rfl wd (Step.refl _) en
theorem ok_cnt : PS X (.Continue pos) (tSt T W (ex G .cnt)) := by
  refine toPS ps_continue fun E σ H h => ?_
  obtain ⟨δ, w, rfl, wd, en, h⟩ := h
  exact h w σ rfl wd (Step.refl _) en
/-- target = e -/
theorem asg_reads {tg : Tg} {y : C} {E : Ends} {σ : L2.St} {H : Hp} (h : tSt T W (ex G (.set tg y)) E σ H) : tAsg (tEv T W X0 (ev G y)) (tTg T tg) E σ H := by
  obtain ⟨δ, w, rfl, wd, en, h⟩ := h
  refine ⟨δ, w, rfl, wd, en, trivial, (PostS.ofR en h).mono fun v H1 ⟨w1, d, e1, wd1, st1, r1, h1⟩ => ?_⟩
  subst e1
  split at h1
  · rename_i δ1 hb
    exact ⟨w1, d, δ, δ1, rfl, wd1, r1, en.mono st1.toMon, hb, fun σ' _ en' => h1 w1 σ' rfl wd1 (Step.refl _) en'⟩
  · exact h1.elim
theorem ok_set {tg : Tg} {y : C} {tgE : Expr} (ha : PE X a (tEv T W X0 (ev G y))) (hg : PG X tgE (tTg T tg)) (hs : swapsWithSole [tgE] a pos.line X.env = pure false) (hw : swappedStores [tgE] a X.env = pure none) (h1 : (assignEach [tgE] X.env).map (·.2) = [assign tgE X.env]) :
    PS X (.Assign [tgE] a pos) (tSt T W (ex G (.set tg y))) := toPS (ps_asg ha hg hs hw h1) fun E σ H h => asg_reads h
theorem ok_setC {i : Nat} {y : C} {st : Stmt} (h : PS X st (tAsg (tEv T W X0 (ev G y)) (gName i))) : PS X st (tSt T W (ex G (.set (.one i) y))) := by
  refine toPS h fun E σ H h => ?_
  obtain ⟨δ, w, rfl, wd, en, h⟩ := h
  refine ⟨δ, w, rfl, wd, en, trivial, (PostS.ofR en h).mono fun v H1 ⟨w1, d, e1, wd1, st1, r1, h1⟩ => ?_⟩
  subst e1
  exact h1 w1 _ rfl wd1 (Step.refl _) ((en.mono st1.toMon).set i r1)
/-- a, b = x, y -/
theorem ok_par {i j : Nat} {x y : Str} {p q : C} {px py pt : Pos} {kt k2 : Nat} {pt2 : Pos} (hc : X.calm = true) (hN : X.N.Nodup) (hi : X.N[i]? = some x) (hj : X.N[j]? = some y) (hij : i ≠ j) (hx : X.env.scope.names.lookup x = some .local) (hy : X.env.scope.names.lookup y = some .local)
    (ha : PA X [a, b] (tEvs T W X0 (evs G (.cons p (.cons q .nil))))) (hw : swappedStores [.Tuple [.Name x px, .Name y py] kt pt] (.Tuple [a, b] k2 pt2) X.env = pure (some [x, y])) (hs : swapsWithSole [.Tuple [.Name x px, .Name y py] kt pt] (.Tuple [a, b] k2 pt2) pos.line X.env = pure false) :
    PS X (.Assign [.Tuple [.Name x px, .Name y py] kt pt] (.Tuple [a, b] k2 pt2) pos) (tSt T W (ex G (.set (.tup [i, j]) (.tup (.cons p (.cons q .nil)))))) := by
  refine toPS (ps_par hc hN hi hj hij hx hy ha hw hs) fun E σ H h => ?_
  obtain ⟨δ, w, rfl, wd, en, h⟩ := h
  refine ⟨δ, w, rfl, wd, en, trivial, ?_⟩
  change PostS T W w (RofS δ ((evs G (.cons p (.cons q .nil)) δ w.S).bind fun ds S1 => if fits ds.length then .ok (.tup ds) S1 else .stuck) fun d S1 => match bindT (.tup [i, j]) d δ with
    | some δ1 => .nx δ1 S1
    | none => .stuck) E at h
  cases hf : evs G (.cons p (.cons q .nil)) δ w.S with
  | stuck => rw [hf] at h; exact h.elim
  | ex c v S1 =>
    rw [hf] at h
    exact fun w' cl dd e wd st rx => h w' σ cl dd e wd st (en.mono st.toMon) rx
  | ok ds S1 =>
    rw [hf] at h
    intro w1 vs e1 wd1 st1 rs
    change PostS T W w (RofS δ (if fits ds.length then PV.R.ok (.tup ds) S1 else .stuck) fun d S1 => match bindT (.tup [i, j]) d δ with
      | some δ1 => .nx δ1 S1
      | none => .stuck) E at h
    by_cases f : fits ds.length = true
    · rw [if_pos f] at h
      change PostS T W w (match (if [i, j].length = ds.length then some (([i, j].zip ds).foldl (fun δ p => δ.set p.1 (some p.2)) δ) else none) with
        | some δ1 => .nx δ1 S1
        | none => .stuck) E at h
      by_cases hl : [i, j].length = ds.length
      · rw [if_pos hl] at h
        match ds, hl, rs, h with
        | [d1, d2], _, rs, h =>
          obtain ⟨v1, v2, rfl, r1, r2⟩ := reps2 rs
          exact ⟨v1, v2, rfl, h w1 _ e1 wd1 st1 (((en.mono st1.toMon).set i r1).set j r2)⟩
      · rw [if_neg hl] at h
        exact h.elim
    · rw [if_neg f] at h
      exact h.elim
/-- a[i] = e -/
theorem ok_stI {p q r : C} {e : Expr} {spos : Pos} (ha : PE X a (tEv T W X0 (ev G p))) (hb : PE X b (tEv T W X0 (ev G q))) (he : PE X e (tEv T W X0 (ev G r)))
    (hs : swapsWithSole [.Subscript a b spos] e pos.line X.env = pure false) (hw : swappedStores [.Subscript a b spos] e X.env = pure none) (h1 : (assignEach [.Subscript a b spos] X.env).map (·.2) = [assign (.Subscript a b spos) X.env])
    (h2 : ∀ v, assign (.Subscript a b spos) X.env v = (do
      let ov ← holding [v] (eval a X.env)
      let iv ← holding [v, ov] (eval b X.env)
      standAt spos
      holding [v, ov, iv] (setItem ov iv v)
      release [v, ov, iv] [])) : PS X (.Assign [.Subscript a b spos] e pos) (tSt T W (ex G (.stI p q r))) := by
  refine toPS (ps_asg he (pg_sub ha hb set_list h2) hs hw h1) fun E σ H h => ?_
  obtain ⟨δ, w, rfl, wd, en, h⟩ := h
  refine ⟨δ, w, rfl, wd, en, trivial, (PostS.ofR en h).mono fun v H1 ⟨w1, d, e1, wd1, st1, r1, h1⟩ => ?_⟩
  subst e1
  have en1 := en.mono st1.toMon
  refine ⟨δ, w1, rfl, wd1, en1, trivial, (PostS.ofR en1 h1).mono fun v2 H2 ⟨w2, d2, e2, wd2, st2, r2, h2⟩ => ?_⟩
  subst e2
  have en2 := en1.mono st2.toMon
  refine ⟨δ, w2, rfl, wd2, en2, trivial, (PostS.ofR en2 h2).mono fun v3 H3 ⟨w3, d3, e3, wd3, st3, r3, h3⟩ => ?_⟩
  subst e3
  have en3 := en2.mono st3.toMon
  refine set_setI (W := W) (σ0 := σ) wd3 (r2.mono st3.toMon) r3 ((r1.mono st2.toMon).mono st3.toMon) ((PostS.ofR en3 h3).mono fun v4 H4 ⟨w4, d4, e4, wd4, st4, r4, h4⟩ => ?_)
  subst e4
  exact h4 w4 σ rfl wd4 (Step.refl _) (en3.mono st4.toMon)
/-- blocks -/
theorem ok_sNil : PSs X [] (tSt T W (ex G .nil)) := ⟨fun pins s σ H D I h => pss_nil.run pins s σ H D I (by
  obtain ⟨δ, w, rfl, wd, en, h⟩ := h
  exact h w σ rfl wd (Step.refl _) en)⟩
theorem ok_sCons {st : Stmt} {sts : List Stmt} {x y : C} (hx : ∀ i, x ≠ .frzV i) (h1 : PS X st (tSt T W (ex G x))) (h2 : PSs X sts (tSt T W (ex G y))) : PSs X (st :: sts) (tSt T W (ex G (.cons x y))) := by
  refine toPSs (pss_cons h1 h2) fun E σ H h => ?_
  obtain ⟨δ, w, rfl, wd, en, h⟩ := h
  have e : ex G (.cons x y) δ w.S = (match ex G x δ w.S with | .nx δ1 S1 => ex G y δ1 S1 | r => r) := by
    cases x <;> first | rfl | exact absurd rfl (hx _)
  rw [e] at h
  refine ⟨δ, w, rfl, wd, en, ?_⟩
  cases hf : ex G x δ w.S with
  | nx δ1 S1 =>
    rw [hf] at h
    intro w1 σ1 e1 wd1 st1 en1
    refine ⟨δ1, w1, rfl, wd1, en1, PostS.step st1 ?_⟩
    rw [e1]
    exact h
  | bk δ1 S1 => rw [hf] at h; exact h
  | ct δ1 S1 => rw [hf] at h; exact h
  | rt d S1 => rw [hf] at h; exact h
  | ex c v δ1 S1 => rw [hf] at h; exact h
  | stuck => rw [hf] at h; exact h
theorem ok_frzV {sts : List Stmt} {i : Nat} {y : C} (h2 : PSs X sts (tSt T W (ex G y))) : PSs X sts (tSt T W (ex G (.cons (.frzV i) y))) := by
  refine toPSs h2 fun E σ H h => ?_
  obtain ⟨δ, w, rfl, wd, en, h⟩ := h
  change PostS T W w (match δ[i]? with
    | some (some d) => match frzD d w.S with
      | .ok e S1 => ex G y (δ.set i (some e)) S1
      | _ => .stuck
    | _ => .stuck) E at h
  split at h
  · rename_i d ed
    obtain ⟨v, ev, rv⟩ := en.at_ i d ed
    split at h
    · rename_i e S1 hf
      obtain ⟨w1, e1, eh, wd1, st1, r1⟩ := frz_ok wd rv hf
      refine ⟨δ.set i (some e), w1, eh, wd1, ?_, by rw [e1]; exact PostS.step st1 h⟩
      have q := (en.mono st1.toMon).set i r1
      have es : σ.set i (some v) = σ := by
        apply List.ext_getElem?
        intro j
        by_cases hj : i = j
        · subst hj
          rw [List.getElem?_set_self (List.getElem?_eq_some_iff.mp ev).1, ev]
        · rw [List.getElem?_set_ne hj]
      rw [es] at q
      exact q
    · exact h.elim
  · exact h.elim
theorem ok_if {x y z : C} {sa sb : List Stmt} (hc : PT X c (tEvT T W X0 (evT G x))) (ha : PSs X sa (tSt T W (ex G y))) (hb : PSs X sb (tSt T W (ex G z))) : PS X (.If c sa sb pos) (tSt T W (ex G (.ifs x y z))) := by
  refine toPS (ps_if hc ha hb) fun E σ H h => ?_
  obtain ⟨δ, w, rfl, wd, en, h⟩ := h
  refine ⟨δ, w, rfl, wd, en, trivial, ?_⟩
  change PostS T W w (match evT G x δ w.S with
    | .ok true S1 => ex G y δ S1
    | .ok false S1 => ex G z δ S1
    | .ex c v S1 => .ex c v δ S1
    | .stuck => .stuck) E at h
  split at h
  · rename_i S1 hf
    rw [hf]
    intro w1 k e1 wd1 st1 ek
    cases ek
    exact iteT ⟨δ, w1, rfl, wd1, en.mono st1.toMon, by rw [e1]; exact PostS.step st1 h⟩
  · rename_i S1 hf
    rw [hf]
    intro w1 k e1 wd1 st1 ek
    cases ek
    exact iteF ⟨δ, w1, rfl, wd1, en.mono st1.toMon, by rw [e1]; exact PostS.step st1 h⟩
  · rename_i c v S1 hf
    rw [hf]
    exact fun w' cl dd e wd st rx => h w' σ cl dd e wd st (en.mono st.toMon) rx
  · exact h.elim
end
end PV

namespace PV
open PySem L2 PyProof.Rows RZ

section
variable {X : Cx} {T : Tb} {W : WX} {G : Gv} {a b c : Expr} {pos : Pos}
theorem ok_for {tgE iter : Expr} {body : List Stmt} {tg : Tg} {src y : C} (hp : PassesOwn (model X.prog X.w) X.A X.env X.xe) (hc : X.calm = true) (hi : PI X tgE iter (tEvI T W X0 (evI G src))) (hg : PG X tgE (tTg T tg)) (hb : PSs X body (tSt T W (ex G y)))
    (hs : ∀ x, foldedSetIterable iter X.env x = pure x) : PS X (.For tgE iter body [] pos) (tSt T W (ex G (.for_ tg src y))) := by
  refine toPS (ps_for hp hc hi hg hb hs) fun E σ H h => ?_
  obtain ⟨δ, w, rfl, wd, en, h⟩ := h
  refine ⟨δ, w, rfl, wd, en, trivial, ?_⟩
  change PostS T W w (match evI G src δ w.S with
    | .ok its S1 => forL tg (ex G y) its δ S1
    | .ex c v S1 => .ex c v δ S1
    | .stuck => .stuck) E at h
  cases hf : evI G src δ w.S with
  | stuck => rw [hf] at h; exact h.elim
  | ex c v S1 =>
    rw [hf] at h
    exact fun w' cl dd e wd st rx => h w' σ cl dd e wd st (en.mono st.toMon) rx
  | ok its S1 =>
    rw [hf] at h
    intro w1 J e1 wd1 st1 it
    refine ⟨fun i m σ H => m = its.length - i ∧ i ≤ its.length ∧ ∃ (δ' : Env) (w' : Wo), w'.H = H ∧ Wd T w' ∧ Mon w1 w' ∧ EnvOk T w' δ' σ ∧ PostS T W w' (forL tg (ex G y) (its.drop i) δ' w'.S) E,
      ⟨its.length, by simp, Nat.zero_le _, δ, w1, rfl, wd1, Mon.refl _, en.mono st1.toMon, by rw [e1]; exact PostS.step st1 h⟩, ?_⟩
    rintro i m σ H ⟨rfl, hi, δ', w', rfl, wd', mo, en', h'⟩
    obtain ⟨stop, go⟩ := it w' i mo wd'
    by_cases hlt : i < its.length
    · have hd : its[i]? = some its[i] := List.getElem?_eq_getElem hlt
      have hdrop : its.drop i = its[i] :: its.drop (i + 1) := List.drop_eq_getElem_cons hlt
      obtain ⟨g1, g2⟩ := go _ hd
      rw [hdrop] at h'
      unfold forL at h'
      refine .inr ⟨g1, fun σ H => its.length - (i + 1) = its.length - (i + 1) ∧ i + 1 ≤ its.length ∧ ∃ (δ' : Env) (w' : Wo), w'.H = H ∧ Wd T w' ∧ Mon w1 w' ∧ EnvOk T w' δ' σ ∧ PostS T W w' (forL tg (ex G y) (its.drop (i + 1)) δ' w'.S) E,
        fun σ' H' q => ⟨its.length - (i + 1), by omega, q⟩, fun x H' yy => ?_⟩
      obtain ⟨w2, rfl, eS2, wd2, st2, r2⟩ := g2 x H' yy
      split at h'
      · exact h'.elim
      · rename_i δ1 hb
        refine ⟨w2, its[i], δ', δ1, rfl, wd2, r2, en'.mono st2.toMon, hb, fun σ' _ en2 => ⟨δ1, w2, rfl, wd2, en2, ?_⟩⟩
        rw [eS2]
        replace h' := PostS.step st2 h'
        have mo2 := mo.trans st2.toMon
        cases hx : ex G y δ1 w'.S with
        | nx δ2 S2 =>
          rw [hx] at h'
          exact fun w3 σ3 e3 wd3 st3 en3 => ⟨rfl, hlt, δ2, w3, rfl, wd3, mo2.trans st3.toMon, en3, by rw [e3]; exact PostS.step st3 h'⟩
        | ct δ2 S2 =>
          rw [hx] at h'
          exact fun w3 σ3 e3 wd3 st3 en3 => ⟨rfl, hlt, δ2, w3, rfl, wd3, mo2.trans st3.toMon, en3, by rw [e3]; exact PostS.step st3 h'⟩
        | bk δ2 S2 => rw [hx] at h'; exact h'
        | rt d S2 => rw [hx] at h'; exact h'
        | ex c v δ2 S2 => rw [hx] at h'; exact h'
        | stuck => rw [hx] at h'; exact h'
    · have ei : i = its.length := by omega
      subst ei
      rw [List.drop_length] at h'
      exact .inl ⟨stop (Nat.le_refl _), h' w' σ rfl wd' (Step.refl _) en'⟩
theorem ok_while {x y : C} {body : List Stmt} (hp : PassesOwn (model X.prog X.w) X.A X.env X.xe) (hc : PT X c (tEvT T W X0 (evT G x))) (hb : PSs X body (tSt T W (ex G y))) : PS X (.While c body [] pos) (tSt T W (ex G (.while_ x y))) := by
  refine toPS (ps_while hp hc hb) fun E σ H h => ?_
  obtain ⟨δ, w, rfl, wd, en, h⟩ := h
  refine ⟨fun m σ H => ∃ (δ' : Env) (w' : Wo), w'.H = H ∧ Wd T w' ∧ EnvOk T w' δ' σ ∧ PostS T W w' (whileF (evT G x) (ex G y) m δ' w'.S) E, ⟨G.fu, δ, w, rfl, wd, en, h⟩, ?_⟩
  rintro m σ H ⟨δ', w', rfl, wd', en', h'⟩
  refine ⟨δ', w', rfl, wd', en', trivial, ?_⟩
  cases m with
  | zero => exact h'.elim
  | succ m =>
    unfold whileF at h'
    split at h'
    · rename_i S1 hf
      rw [hf]
      intro w1 k e1 wd1 st1 ek
      cases ek
      replace h' := PostS.step st1 h'
      refine iteT ⟨fun σ H => ∃ (δ' : Env) (w' : Wo), w'.H = H ∧ Wd T w' ∧ EnvOk T w' δ' σ ∧ PostS T W w' (whileF (evT G x) (ex G y) m δ' w'.S) E, fun σ' H' q => ⟨m, by omega, q⟩, δ', w1, rfl, wd1, en'.mono st1.toMon, ?_⟩
      rw [e1]
      cases hx : ex G y δ' S1 with
      | nx δ2 S2 =>
        rw [hx] at h'
        exact fun w3 σ3 e3 wd3 st3 en3 => ⟨δ2, w3, rfl, wd3, en3, by rw [e3]; exact PostS.step st3 h'⟩
      | ct δ2 S2 =>
        rw [hx] at h'
        exact fun w3 σ3 e3 wd3 st3 en3 => ⟨δ2, w3, rfl, wd3, en3, by rw [e3]; exact PostS.step st3 h'⟩
      | bk δ2 S2 => rw [hx] at h'; exact h'
      | rt d S2 => rw [hx] at h'; exact h'
      | ex c v δ2 S2 => rw [hx] at h'; exact h'
      | stuck => rw [hx] at h'; exact h'
    · rename_i S1 hf
      rw [hf]
      intro w1 k e1 wd1 st1 ek
      cases ek
      exact iteF (h' w1 σ e1 wd1 st1 (en'.mono st1.toMon))
    · rename_i c v S1 hf
      rw [hf]
      exact fun w2 cl dd e wd st rx => h' w2 σ cl dd e wd st (en'.mono st.toMon) rx
    · exact h'.elim
/-! errors -/
/-- C(e), as it is made -/
def tMkX (T : Tb) (k : Nat) (te : TE) : L2.St → Hp → XK → Prop := fun σ H Q => te σ H fun v H1 => ∀ d, H1 d = none → Q (.ref (T.cls k)) (some d) (upd H1 d (.xd [(T.fld (T.ef k), v)]))
theorem ok_raise {k : Nat} {y : C} {e : Expr} (hk : k < T.nc) (hc : X.calm = true) (tk : Takes X W) (he : PMk X e (tMkX T k (tEv T W X0 (ev G y)))) : PS X (.Raise (some e) none pos) (tSt T W (ex G (.raise_ k y))) := by
  refine toPS (ps_raise hc tk he) fun E σ H h => ?_
  obtain ⟨δ, w, rfl, wd, en, h⟩ := h
  refine ⟨δ, w, rfl, wd, en, trivial, (PostS.ofR en h).mono fun v H1 ⟨w1, d, e1, wd1, st1, r1, h1⟩ => ?_⟩
  subst e1
  intro p hp
  obtain ⟨w2, s2, l2⟩ := wd1.still hp (.xd [(T.fld (T.ef k), v)])
  exact h1 ⟨_, _, _, _⟩ σ _ _ rfl w2 s2 ((en.mono st1.toMon).mono s2.toMon) ⟨p, v, hk, rfl, rfl, upd_same, l2, r1.mono s2.toMon⟩
/-- the caught error, in its suite -/
def ΞH (T : Tb) (c : Nat) (v : D) (a : Addr) (cls : Value) (d : Option Addr) (i : Nat) : Xi := fun w σ => RepX T w c v cls d ∧ σ[i]? = some (some (.ref a))
theorem keptH {c : Nat} {v : D} {a : Addr} {cls : Value} {d : Option Addr} {i : Nat} : Kept (ΞH T c v a cls d i) := fun _ _ _ st h => ⟨h.1.mono st.toMon, h.2⟩
theorem ok_eget {c : Nat} {v : D} {a : Addr} {cls : Value} {d : Option Addr} {i f : Nat} {oe : Obj} {pn : List (Addr × Obj)} {n x : Str} {p : Pos} (hef : G.ef = T.ef) (XF : c < T.nc → XfC X.K (T.cls c) ∧ PySem.W.findIn X.K (.ref (T.cls c)) (T.fld (T.ef c)) = some none) (hz : Zc cls d oe) (hf : ∃ vs, oe.data = .fields vs)
    (hN : X.N[i]? = some x) (hv : Vis X.env.scope x) (hd : (x == ("__debug__" : Str)) = false) (hcd : (x == ("__classdict__" : Str)) = false) (hn : n = T.fld f) :
    PE (X.suite a ((a, oe) :: pn)) (.Attribute (.Name x p) n pos) (tEv T W0 (ΞH T c v a cls d i) (ev { G with cur := some (c, v) } (.eget f))) := by
  refine ⟨fun pins s σ H Q I h => ?_⟩
  obtain ⟨δ, w, rfl, wd, en, ⟨⟨dd, u, h0, rfl, rfl, h3, h4, h5⟩, hs⟩, h⟩ := h
  obtain ⟨XF, hno⟩ := XF h0
  change Post T W0 w σ (Rep T) (if G.ef c = f then PV.R.ok v w.S else .stuck) Q at h
  by_cases e : G.ef c = f
  · rw [if_pos e] at h
    rw [hef] at e
    subst e
    have hv' : PE (X.suite a ((a, oe) :: pn)) (.Name x p) (tVar i) := pe_var hN hv hd hcd
    subst hn
    refine (pe_xf XF hno hz hf hv' rfl).run pins s σ w.H Q I ⟨_, hs, rfl, rfl, dd, _, u, rfl, h3, ?_, Post.here wd h5 h⟩
    simp [List.lookup]
  · rw [if_neg e] at h
    exact h.elim
/-- try: body / except C as e: return h -/
theorem ok_try {x i : Nat} {y h : C} {n cn : Str} {np ep rp : Pos} {body : List Stmt} {he : Expr} (hs : X.stack = X.env :: X.outer) (hfr : X.env.frame = some X.env.locals) (hN : X.N.Nodup) (hi : X.N[i]? = some n) (hln : X.env.kindOf n = some .local) (hc : Names X cn (.ref (T.cls x))) (tk : Takes X W)
    (hsub : ∀ k, k < T.nc → PySem.W.exmOne X.K (.ref (T.cls k)) (.ref (T.cls x)) = some (G.sub k x))
    (hb : ∀ (W : WX) (pn : List (Addr × Obj)) (xe : Value → Shared → Prop), Takes (X.tr pn xe) W → PassesOwn (model X.prog X.w) X.A X.env xe → PSs (X.tr pn xe) body (tSt T W (ex G y)))
    (hsu : ∀ (k : Nat) (v : D) (a : Addr) (oe : Obj) (cls : Value) (d : Option Addr) (pn : List (Addr × Obj)), Zc cls d oe → (∃ vs, oe.data = .fields vs) → PE (X.suite a ((a, oe) :: pn)) he (tEv T W0 (ΞH T k v a cls d i) (ev { G with cur := some (k, v) } h))) :
    PS X (.Try body [.ExceptHandler (some (.Name cn np)) (some n) [.Return (some he) rp] ep] [] [] pos) (tSt T W (ex G (.try_ y x i h))) := by
  have key := ps_try_as (b₀ := .Return (some he) rp) (suite := []) (i := i) (pos' := ep) (pos := pos) (np := np) (tb := fun W => tSt T W (ex G y)) (ts := fun a cls d => fun E σ H => ∃ (k : Nat) (v : PV.D), tRet (tEv T W0 (ΞH T k v a cls d i) (ev { G with cur := some (k, v) } h)) E σ H) (Wout := W) hs hfr hN hi hln hc tk hb
    (fun a oe cls d pn hz hf => ⟨fun pins s σ H D I q => by
      obtain ⟨k, v, q⟩ := q
      exact (pss_one (ps_ret (pos := rp) (hsu k v a oe cls d pn hz hf))).run pins s σ H D I q⟩)
  refine toPS key fun E σ H hh => ?_
  obtain ⟨δ, w, rfl, wd, en, hh⟩ := hh
  refine ⟨δ, w, rfl, wd, en, ?_⟩
  change PostS T W w (match ex G y δ w.S with
    | .ex c v δ1 S1 => if G.sub c x then (match (if i < δ1.length then ev { G with cur := some (c, v) } h (δ1.set i none) S1 else .stuck) with
      | .ok d S2 => .rt d S2
      | _ => .stuck) else .ex c v δ1 S1
    | r => r) E at hh
  cases hf : ex G y δ w.S with
  | nx δ2 S2 => rw [hf] at hh; exact hh
  | ct δ2 S2 => rw [hf] at hh; exact hh
  | bk δ2 S2 => rw [hf] at hh; exact hh
  | rt d S2 => rw [hf] at hh; exact hh
  | stuck => rw [hf] at hh; exact hh
  | ex k v δ1 S1 =>
    rw [hf] at hh
    intro w1 σ1 cls dd e1 wd1 st1 en1 rx
    obtain ⟨hk, hcls⟩ : k < T.nc ∧ cls = .ref (T.cls k) := by
      obtain ⟨_, _, z0, z, _⟩ := rx
      exact ⟨z0, z⟩
    refine ⟨G.sub k x, by rw [hcls]; exact hsub k hk, fun hb a na => ⟨k, v, ?_⟩, fun hb => ?_⟩
    · change PostS T W w (if G.sub k x then (match (if i < δ1.length then ev { G with cur := some (k, v) } h (δ1.set i none) S1 else .stuck) with
        | .ok d S2 => .rt d S2
        | _ => .stuck) else .ex k v δ1 S1) E at hh
      rw [if_pos hb] at hh
      by_cases hlen : i < δ1.length
      case neg =>
        rw [if_neg hlen] at hh
        exact hh.elim
      rw [if_pos hlen] at hh
      have hlt : i < σ1.length := by
        rw [← en1.len]
        exact hlen
      refine ⟨δ1.set i none, w1, rfl, wd1, en1.unset i _, ⟨rx, List.getElem?_set_self hlt⟩, ?_⟩
      rw [e1]
      cases hg : ev { G with cur := some (k, v) } h (δ1.set i none) S1 with
      | stuck => rw [hg] at hh; exact hh
      | ex _ _ _ => rw [hg] at hh; exact hh.elim
      | ok d S2 =>
        rw [hg] at hh
        exact fun w2 u e2 wd2 st2 r2 => hh w2 u e2 wd2 (st1.trans st2) r2
    · change PostS T W w (if G.sub k x then (match (if i < δ1.length then ev { G with cur := some (k, v) } h (δ1.set i none) S1 else .stuck) with
        | .ok d S2 => .rt d S2
        | _ => .stuck) else .ex k v δ1 S1) E at hh
      rw [if_neg (by rw [hb]; decide)] at hh
      exact hh w1 σ1 cls dd e1 wd1 st1 en1 rx
end
end PV

namespace PV
open PySem L2 PyProof.Rows RZ

section
variable {prog : Program} {w : World} {A : Around} {E : Value → Shared → Prop} {s : Shared}
theorem places_neg (n : Nat) : Builtin.Slice.slicePlaces ((n : Int) - 1) (-1) (-1) = n := by
  unfold Builtin.Slice.slicePlaces
  have h1 : ¬ ((-1 : Int) > 0) := by omega
  simp only [h1, if_false]
  split
  · have : (- (-1 : Int)) = 1 := by omega
    rw [this, Int.ediv_one]
    omega
  · omega
theorem sliceApplied_neg {sl : Addr} {vl vu vs : Value} {n : Nat} {Q : Int × Int × Nat → Shared → Prop} (hs : s.heap.IsSliceOf sl vl vu vs) (pl : IsPart vl none) (pu : IsPart vu none) (ps : IsPart vs (some (-1)))
    (h : Q ((n : Int) - 1, -1, n) s) : wpAny (model prog w) A (Builtin.Slice.sliceApplied (.ref sl) (pure (n : Int))) Q E s := by
  obtain ⟨os, hos, hcs, hds⟩ := id hs
  unfold Builtin.Slice.sliceApplied Builtin.Slice.sliceFields
  refine wpAny_bind (wpAny_bind (wpAny_field hos hds (x := vl) rfl (wpAny_bind (wpAny_field hos hds (x := vu) rfl (wpAny_bind (wpAny_field hos hds (x := vs) rfl (wpAny_pure ?_)))))))
  refine wpAny_bind (HT.slicePart_ ps ?_)
  show wpAny _ _ (if ((-1 : Int) == 0) = true then _ else _) _ _ s
  rw [if_neg (by decide)]
  refine wpAny_bind (HT.slicePart_ pl (wpAny_bind (HT.slicePart_ pu (wpAny_bind (wpAny_pure ?_)))))
  show wpAny _ _ (pure ((n : Int) - 1, (-1 : Int), Builtin.Slice.slicePlaces ((n : Int) - 1) (-1) (-1))) _ _ s
  rw [places_neg]
  exact wpAny_pure h
theorem getItem_tuple_rev {t sl : Addr} {items : Array Value} {vl vu vs : Value} {Q : Value → Shared → Prop} (ht : IsTup s.heap t items) (hs : s.heap.IsSliceOf sl vl vu vs) (pl : IsPart vl none) (pu : IsPart vu none) (ps : IsPart vs (some (-1)))
    (h : Q (.ref s.heap.objs.size) { s with heap := s.heap.push { cls := .type "tuple", data := .seq items.toList.reverse.toArray } })
    (hsz : items.size ≤ sizeLine) : wpAny (model prog w) A (getItem (.ref t) (.ref sl)) Q E s := by
  have hsize : sizeOk (.seq items.toList.reverse.toArray) := by
    show items.toList.reverse.toArray.size ≤ sizeLine
    rw [List.size_toArray, List.length_reverse, Array.length_toList]
    exact hsz
  obtain ⟨os, hos, hcs, hds⟩ := id hs
  have hTs : s.TypeIs (.ref sl) "slice" := ⟨os, hos, hcs⟩
  unfold getItem
  try with_reducible refine wpAny_holding ?_
  first | refine wpAny_bind (wpAny_pure ?_) | skip
  refine wpAny_bind (wpAny_sequenceKey ht.typeIs (by decide) ?_)
  refine wpAny_bind (wpAny_callSpecial?_slot (name := Str.ofString "__getitem__") ht.typeIs PyProof.Rows.slot_tuple_getitem (wpAny_call_entry PyProof.Rows.slot_tuple_getitem ht.typeIs entry_tuple_getitem ?_ (args_tuple_getitem _ _)))
  show wpAny _ _ (Builtin.Tuple.tupleItemsOf (.ref t) >>= _) _ _ s
  refine wpAny_bind (tupleItemsOf_ ht ?_)
  refine wpAny_bind (wpAny_typeOf hTs ?_)
  rw [if_pos (by decide)]
  refine wpAny_bind (sliceApplied_neg hs pl pu ps ?_)
  have hno : ¬ ((((items.size : Int) - 1) == 0 && (-1 : Int) == 1 && items.size == items.size) = true) := by
    intro q
    rw [Bool.and_eq_true, Bool.and_eq_true] at q
    have z : ((-1 : Int) == 1) = true := q.1.2
    cases z
  have hpick : ((List.range items.size).filterMap fun (m : Nat) => items[(((items.size : Int) - 1) + (m : Int) * -1).toNat]?).toArray = items.toList.reverse.toArray := by
    have e0 : (fun (m : Nat) => items[(((items.size : Int) - 1) + (m : Int) * -1).toNat]?) = (fun k => items[k]?) ∘ fun m => items.size - 1 - m := by
      funext m
      show items[_]? = items[_]?
      have e : (((items.size : Int) - 1) + (m : Int) * -1).toNat = items.size - 1 - m := by omega
      rw [e]
    rw [e0, ← List.filterMap_map, PySem.W.krv_range, List.filterMap_reverse, PySem.W.krv_all]
  show wpAny _ _ (if (((items.size : Int) - 1) == 0 && (-1 : Int) == 1 && items.size == items.size) = true then _ else _) _ _ s
  rw [if_neg hno, hpick]
  first
    | exact wpAny_bind (m := Builtin.Tuple.tupleExact _) (wpAny_newObj_type (wpAny_pure ⟨_, rfl, wpAny_pure h⟩) hsize)
    | exact wpAny_bind (m := Builtin.Tuple.tupleExact _) (wpAny_newObj_type (wpAny_bind (wpAny_pure (wpAny_pure ⟨_, rfl, wpAny_pure h⟩))) hsize)
    | exact wpAny_bind (wpAny_bind (m := Builtin.Tuple.tupleExact _) (wpAny_newObj_type (wpAny_pure (wpAny_pure ⟨_, rfl, wpAny_pure h⟩)) hsize))
    | exact wpAny_bind (wpAny_bind (m := Builtin.Tuple.tupleExact _) (wpAny_newObj_type (wpAny_pure ⟨_, rfl, wpAny_pure h⟩) hsize))
end
section
variable {X : Cx} {T : Tb} {W : WX} {Ξ : Xi} {G : Gv} {a : Expr} {pos : Pos}
/-- x[::-1] -/
def tRev2 (T : Tb) (m : Bool) (te : TE) : TE := fun σ H Q => te σ H fun x H1 => ∃ (W : WX) (σ0 : L2.St) (d : D) (w : Wo), w.H = H1 ∧ Wd T w ∧ Rep T w d x ∧ Post T W w σ0 (Rep T) (match deref w.S d with | .tup ds => .ok (.tup ds.reverse) w.S | .lst ds => newL m ds.reverse w.S | _ => .stuck) Q
theorem pe_rev2 (hK : X.K = T.K) {m : Bool} {e : Expr} {te : TE} {k : Nat} {p1 p2 p3 : Pos} (he : PE X e te) : PE X (.Subscript e (.Slice none none (some (.UnaryOp .USub (.Constant (.int 1) k p1) p2)) p3) pos) (tRev2 T m te) := by
  refine ⟨fun pins s σ H Q I h => ?_⟩
  refine Subscript_ (thn (he.run pins s σ H _ I h) fun v s1 ⟨x, H1, I1, r1, q1⟩ => ?_)
  obtain ⟨W, σ0, d, w, rfl, wd, ra, q⟩ := q1
  have hst : PO X (some (.UnaryOp .USub (.Constant (.int 1) k p1) p2)) (tPart (tUn (rU fun i => .int (-i)) (tC (.int 1)))) := po_some (pe_un un_neg pe_int)
  refine wpAny_Slice (thn (po_none.run pins s1 σ w.H (fun o H2 => o = none ∧ H2 = w.H) I1 ⟨rfl, rfl⟩) fun vl s2 ⟨l, H2, I2, pl, el, e2⟩ => ?_)
  subst el e2
  refine thn (po_none.run pins s2 σ w.H (fun o H3 => o = none ∧ H3 = w.H) I2 ⟨rfl, rfl⟩) fun vu s3 ⟨u, H3, I3, pu, eu, e3⟩ => ?_
  subst eu e3
  refine thn (hst.run pins s3 σ w.H (fun o H4 => o = some (-1) ∧ H4 = w.H) I3 ⟨1, rfl, -1, rfl, rfl, rfl⟩) fun vs s4 ⟨o, H4, I4, ps, eo, e4⟩ => ?_
  subst eo e4
  have I5 : Inv X pins σ w.H { s4 with heap := s4.heap.push { cls := .type "slice", data := .fields #[vl, vu, vs] } } := I4.kept (t' := s4.toks) fun b ob q => Heap.get?_push_of_some _ q
  split at q
  · rename_i ds ed
    obtain ⟨a, xs, rfl, hx, st, rs⟩ := deref_tup wd ra ed
    cases r1
    rw [← hK] at hx
    obtain ⟨its, r, ht, hz⟩ := I5.tuple hx
    have hlen := r.length
    refine tail_any (value := e) (slice := .Slice none none (some (.UnaryOp .USub (.Constant (.int 1) k p1) p2)) p3) (o := .ref a) (i := .ref s4.heap.objs.size) (ops := [.ref a, .ref s4.heap.objs.size]) ht.typeIs (PyProof.Rows.slot_tuple_getitem.lookup) ?_ (by with_unfolding_all rfl)
    refine getItem_tuple_rev ht (Heap.IsSliceOf.new _ vl vu vs) pl pu ps ?_ (by rw [List.size_toArray]; omega)
    refine ⟨.ref _, _, I5.laid (t' := s4.toks) (o := .tup xs.reverse) (fun b ob q => Heap.get?_push_of_some _ q) (Nat.le_refl _) ?_, rfl, newT_ok wd rs.rev q _ (I5.hok.fresh (Nat.le_refl _))⟩
    exact ⟨by rw [List.length_reverse]; exact hz, _, r.reverse, IsTup.new _ _⟩
  · rename_i ds ed
    obtain ⟨a, xs, rfl, hx, rs⟩ := deref_lst wd ra ed
    cases r1
    obtain ⟨its, r, ht, hz⟩ := I5.list (SqL.of hx)
    have hlen := r.length
    refine tail_any (value := e) (slice := .Slice none none (some (.UnaryOp .USub (.Constant (.int 1) k p1) p2)) p3) (o := .ref a) (i := .ref s4.heap.objs.size) (ops := [.ref a, .ref s4.heap.objs.size]) ht.isList.typeIs (PySem.slot_list_getitem.lookup) ?_ (by with_unfolding_all rfl)
    refine wpAny_getItem_list_slice ht.isList (Heap.IsSliceOf.new _ vl vu vs) pl pu ps (by decide) ?_ (by rw [List.size_toArray]; omega)
    rw [PySem.W.krv_pick]
    refine ⟨.ref _, _, I5.laid (t' := s4.toks) (o := .lst xs.reverse) (fun b ob q => Heap.get?_push_of_some _ q) (Nat.le_refl _) ?_, rfl, (newL_ok wd rs.rev q).2 _ (I5.hok.fresh (Nat.le_refl _))⟩
    exact ⟨by rw [List.length_reverse]; exact hz, _, 0, r.reverse, Heap.get?_push_size _ rfl⟩
  · exact q.elim
theorem ok_rev (hK : X.K = T.K) (kp : Kept Ξ) {x : C} {m : Bool} {k : Nat} {p1 p2 p3 : Pos} (ha : PE X a (tEv T W Ξ (ev G x))) : PE X (.Subscript a (.Slice none none (some (.UnaryOp .USub (.Constant (.int 1) k p1) p2)) p3) pos) (tEv T W Ξ (ev G (.rev m x))) := by
  refine toPE (pe_rev2 hK (m := m) ha) fun σ H Q h => ?_
  obtain ⟨δ, w, rfl, wd, en, xi, h⟩ := h
  refine (tEv.bind1 kp wd en xi h).imp fun v H1 ⟨w1, d, e1, wd1, _, _, r, q⟩ => ?_
  exact ⟨W, σ, d, w1, e1, wd1, r, q⟩
/-- {} -/
theorem ok_dct0 : PE X (.Dict [] [] pos) (tEv T W Ξ (ev G (.dct false .nil .nil))) := by
  refine toPE pe_dnewK fun σ H Q h => ?_
  obtain ⟨δ, w, rfl, wd, en, xi, h⟩ := h
  intro p hp
  obtain ⟨w2, s2, l2⟩ := wd.still hp (.dK [])
  exact h ⟨_, _, _, _⟩ (.ref p) rfl w2 s2 (.dct upd_same l2 rfl .nil)
/-- C.f, a constant of the class -/
theorem ok_cval {g : Nat} {x f : Str} {p : Pos} {Ca : Addr} {mc : Value} {v : V} {u : Value} (hn : PE X (.Name x p) (tC (.ref Ca))) (r : ClX.CRead X.K Ca mc) (k : ClX.CVal X.K Ca mc f v u) (rp : ∀ w, Rep T w (G.gl g) v) : PE X (.Attribute (.Name x p) f pos) (tEv T W Ξ (ev G (.glob g))) := by
  refine toPE (ClX.pe_cval hn) fun σ H Q h => ?_
  obtain ⟨δ, w, rfl, wd, en, xi, h⟩ := h
  exact ⟨Ca, mc, v, u, rfl, r, k, Post.here wd (rp w) h⟩
end
end PV

namespace PV
open PySem L2 PyProof.Rows RZ

/-- the names of the text: defs, constants, error classes, fields -/
structure Sy where
  fn : List Str
  gn : List Str
  ga : Nat → Option (Str × Str)
  cn : List Str
  fl : List Str
  eh : Option Str
  mkb : List Bool
def visB (sc : Scope) (x : Str) : Bool := match sc.names.lookup x with
  | some .local => true | some .cell => true | some .free => true | _ => false
def locB (sc : Scope) (x : Str) : Bool := match sc.names.lookup x with
  | some .local => true | some .cell => true | _ => false
def lcl (sc : Scope) (x : Str) : Bool := match sc.names.lookup x with
  | some .local => true | _ => false
def glB (sc : Scope) (x : Str) : Bool := match sc.names.lookup x with
  | some .globalImplicit => true | _ => false
def okNm (x : Str) : Bool := !(x == ("__debug__" : Str)) && !(x == ("__classdict__" : Str))
def isSlice : Expr → Bool
  | .Slice _ _ _ _ => true
  | _ => false
def isName : Expr → Bool
  | .Name _ _ => true
  | _ => false
def noSet : Expr → Bool
  | .Set _ _ _ => false
  | _ => true
def plainT : Expr → Bool
  | .UnaryOp .Not _ _ => false
  | .BoolOp _ _ _ => false
  | .IfExp _ _ _ _ => false
  | .Compare _ _ _ _ => false
  | _ => true
def noComp : Expr → Bool
  | .ListComp _ _ _ _ => false
  | .SetComp _ _ _ _ => false
  | .DictComp _ _ _ _ _ => false
  | _ => true
def biName : Bi → Str
  | .len => "len" | .max => "max" | .min => "min" | .abs => "abs" | .all => "all" | .any => "any" | .sum => "sum" | .list _ => "list" | .tuple => "tuple" | .repr => "repr" | .int => "int"
def biHot : Bi → Bool
  | .repr => true | .len => true | .abs => true | .int => true | .tuple => true | .list _ => true | _ => false
def tyN : Ty → Str
  | .int => "int" | .bool => "bool" | .str => "str" | .list => "list" | .tuple => "tuple" | .dict => "dict" | .own _ => ""
def isOwn : Ty → Bool
  | .own _ => true
  | _ => false
/-- the target's names and places -/
def ckTg (N : List Str) (ok : Str → Bool) : Tg → Expr → Bool
  | .one i, e => match e with
    | .Name x _ => decide (N[i]? = some x) && ok x
    | _ => false
  | .tup is, e => match e with
    | .Tuple es _ _ => decide (es.length = is.length) && (es.zip is).all fun p => match p.1 with
      | .Name x _ => decide (N[p.2]? = some x) && ok x
      | _ => false
    | _ => false
def isTup : Expr → Bool
  | .Tuple _ _ _ => true
  | _ => false
def ownOf (N : List Str) (tg : Tg) : List (Str × Nat) := (slots tg).map fun i => (N.getD i "", i)
def isNil : C → Bool
  | .nil => true
  | _ => false
mutual
def ck (Γ : Sy) (N : List Str) (hot : Bool) : Scope → C → Expr → Bool
  | sc, .var i, e => match e with
    | .Name x _ => decide (N[i]? = some x) && visB sc x && okNm x
    | _ => false
  | _, .con d, e => match e with
    | .Constant k _ _ => (match d, k with
      | .int i, .int j => decide (i = j)
      | .bl i, .bool j => decide (i = j)
      | .str i, .str j => decide (i = j)
      | .non, .none => true
      | _, _ => false)
    | _ => false
  | sc, .glob g, e => match e with
    | .Name x _ => decide (Γ.gn[g]? = some x) && glB sc x && okNm x
    | .Attribute (.Name x _) f _ => decide (Γ.ga g = some (x, f)) && glB sc x && okNm x
    | _ => false
  | sc, .bin o a b, e => match e with
    | .BinOp l op r _ => decide (op = opOf o) && ck Γ N hot sc a l && ck Γ N hot sc b r
    | _ => false
  | sc, .neg a, e => match e with
    | .UnaryOp .USub x _ => ck Γ N hot sc a x
    | _ => false
  | sc, .not a, e => match e with
    | .UnaryOp .Not x _ => ck Γ N hot sc a x
    | _ => false
  | sc, .and a b, e => match e with
    | .BoolOp .And [x, y] _ => ck Γ N hot sc a x && ck Γ N hot sc b y
    | .BoolOp .And (x :: y :: z :: r) p => ck Γ N hot sc a x && ck Γ N hot sc b (.BoolOp .And (y :: z :: r) p)
    | _ => false
  | sc, .or a b, e => match e with
    | .BoolOp .Or [x, y] _ => ck Γ N hot sc a x && ck Γ N hot sc b y
    | .BoolOp .Or (x :: y :: z :: r) p => ck Γ N hot sc a x && ck Γ N hot sc b (.BoolOp .Or (y :: z :: r) p)
    | _ => false
  | sc, .ite c a b, e => match e with
    | .IfExp t x y _ => ckT Γ N hot sc c t && ck Γ N hot sc a x && ck Γ N hot sc b y
    | _ => false
  | sc, .cmp o a b, e => match e with
    | .Compare x [op] [y] _ => decide (op = cmpOf o) && ck Γ N hot sc a x && ck Γ N hot sc b y && noSet y
    | _ => false
  | sc, .chain o p a b c, e => match e with
    | .Compare x [o1, o2] [y, z] _ => decide (o1 = cmpOf o) && decide (o2 = cmpOf p) && ck Γ N hot sc a x && ck Γ N hot sc b y && ck Γ N hot sc c z && noSet z
    | _ => false
  | sc, .tup es, e => match e with
    | .Tuple xs _ _ => cks Γ N hot sc es xs
    | _ => false
  | sc, .lst _ es, e => match e with
    | .List xs _ => cks Γ N hot sc es xs
    | _ => false
  | _, .dct m ks vs, e => match e with
    | .Dict [] [] _ => !m && isNil ks && isNil vs
    | _ => false
  | sc, .rev _ a, e => match e with
    | .Subscript x (.Slice none none (some (.UnaryOp .USub (.Constant (.int 1) _ _) _)) _) _ => ck Γ N hot sc a x
    | _ => false
  | sc, .call f es, e => match e with
    | .Call (.Name x _) xs [] _ => !hot && decide (Γ.fn[f]? = some x) && glB sc x && okNm x && cks Γ N hot sc es xs
    | _ => false
  | sc, .bi b es, e => match e with
    | .Call (.Name x _) (y :: ys) [] _ => (!hot || biHot b) && decide (x = biName b) && glB sc x && cks Γ N hot sc es (y :: ys)
    | _ => false
  | sc, .isi a t, e => match e with
    | .Call (.Name x _) [y, .Name n _] [] _ => decide (x = "isinstance") && decide (n = tyN t) && !isOwn t && glB sc x && glB sc n && ck Γ N hot sc a y && plainE y
    | _ => false
  | sc, .idx a i, e => match e with
    | .Subscript x y _ => !isSlice y && ck Γ N hot sc a x && ck Γ N hot sc i y
    | _ => false
  | sc, .sl _ a lo hi, e => match e with
    | .Subscript x (.Slice l h none _) _ => ck Γ N hot sc a x && ckO Γ N hot sc lo l && ckO Γ N hot sc hi h
    | _ => false
  | sc, .comp _ tg src cnd el, e => match e with
    | .ListComp x [⟨t, it, ifs, 0⟩] scope _ => !hot && blkC N sc scope (ownOf N tg) && ckTg N (locB scope) tg t && ckI Γ N hot sc src it t && noSet it && (match ifs with | [] => isNil cnd | [y] => ckT Γ N hot (relS scope sc) cnd y | _ => false) && ck Γ N hot (relS scope sc) el x
    | _ => false
  | sc, .app a y, e => match e with
    | .Call (.Attribute x m ap) [z] [] pos => decide (m = "append") && ck Γ N hot sc a x && ck Γ N hot sc y z && plainE z && isName x && (ap.endLine == pos.line)
    | _ => false
  | sc, .frz a, e => ck Γ N hot sc a e
  | sc, .eget f, e => match e with
    | .Attribute (.Name x _) n _ => decide (Γ.eh = some x) && hot && decide (Γ.fl[f]? = some n) && visB sc x && okNm x
    | _ => false
  | _, _, _ => false
def cks (Γ : Sy) (N : List Str) (hot : Bool) : Scope → C → List Expr → Bool
  | _, .nil, es => es.isEmpty
  | sc, .cons a b, es => match es with
    | x :: xs => ck Γ N hot sc a x && cks Γ N hot sc b xs && plainE x
    | [] => false
  | _, _, _ => false
def ckO (Γ : Sy) (N : List Str) (hot : Bool) : Scope → C → Option Expr → Bool
  | _, .nil, e => e.isNone
  | sc, .cons a _, e => match e with
    | some x => ck Γ N hot sc a x
    | none => false
  | _, _, _ => false
def ckT (Γ : Sy) (N : List Str) (hot : Bool) : Scope → C → Expr → Bool
  | sc, .tst a, e => ck Γ N hot sc a e && plainT e
  | sc, .not a, e => match e with
    | .UnaryOp .Not x _ => ckT Γ N hot sc a x
    | _ => false
  | sc, .and a b, e => match e with
    | .BoolOp .And [x, y] _ => ckT Γ N hot sc a x && ckT Γ N hot sc b y
    | .BoolOp .And (x :: y :: z :: r) p => ckT Γ N hot sc a x && ckT Γ N hot sc b (.BoolOp .And (y :: z :: r) p)
    | _ => false
  | sc, .or a b, e => match e with
    | .BoolOp .Or [x, y] _ => ckT Γ N hot sc a x && ckT Γ N hot sc b y
    | .BoolOp .Or (x :: y :: z :: r) p => ckT Γ N hot sc a x && ckT Γ N hot sc b (.BoolOp .Or (y :: z :: r) p)
    | _ => false
  | sc, .tcmp o a b, e => match e with
    | .Compare x [op] [y] _ => decide (op = cmpOf o) && ck Γ N hot sc a x && ck Γ N hot sc b y && noSet y
    | _ => false
  | sc, .tchain o p a b c, e => match e with
    | .Compare x [o1, o2] [y, z] _ => decide (o1 = cmpOf o) && decide (o2 = cmpOf p) && ck Γ N hot sc a x && ck Γ N hot sc b y && ck Γ N hot sc c z && noSet z
    | _ => false
  | _, _, _ => false
def ckI (Γ : Sy) (N : List Str) (hot : Bool) : Scope → C → Expr → Expr → Bool
  | sc, .rng a b, e, _ => match e with
    | .Call (.Name x _) [y] [] _ => decide (x = "range") && glB sc x && (match a with | .con (.int 0) => true | _ => false) && ck Γ N hot sc b y && plainE y
    | .Call (.Name x _) [y, z] [] _ => decide (x = "range") && glB sc x && ck Γ N hot sc a y && ck Γ N hot sc b z && plainE y && plainE z
    | _ => false
  | sc, .enum a, e, t => match e with
    | .Call (.Name x _) [y] [] _ => decide (x = "enumerate") && glB sc x && ck Γ N hot sc a y && plainE y && isTup t
    | _ => false
  | sc, .zip a b, e, t => match e with
    | .Call (.Name x _) [y, z] [] _ => decide (x = "zip") && glB sc x && ck Γ N hot sc a y && ck Γ N hot sc b z && plainE y && plainE z && isTup t
    | _ => false
  | sc, .tst a, e, _ => ck Γ N hot sc a e
  | _, _, _, _ => false
end
def isNm2 (N : List Str) (sc : Scope) (is : List Nat) (es : List Expr) : Bool := match is, es with
  | [i, j], [.Name x _, .Name y _] => decide (N[i]? = some x) && decide (N[j]? = some y) && decide (i ≠ j) && lcl sc x && lcl sc y
  | _, _ => false
/-- two names at once -/
def parOk (es vs : List Expr) : Bool := match es, vs with
  | [.Name x px, .Name y py], [_, _] => (py.line == px.line) && !(x == y) && !(vs.all (foldedForSure 8)) && !(vs.all (constantsAlone 8)) && !(vs.any fun e => match e with | .Starred _ _ => true | _ => false)
  | _, _ => false
def isComp : C → Bool
  | .comp _ _ _ _ _ => true
  | _ => false
def isTupC : C → Bool
  | .tup _ => true
  | _ => false
def isFrz : C → Bool
  | .frzV _ => true
  | _ => false
mutual
def ckS (Γ : Sy) (N : List Str) (sc : Scope) : C → Stmt → Bool
  | .set tg y, st => match st with
    | .Assign [t] e pos => (match e with
      | .ListComp _ _ scope lp => (match tg, t with
        | .one i, .Name x px => decide (N[i]? = some x) && ck Γ N false sc y e && (if lcl sc x then (px.line == lp.line) && !(scope.names.any fun (n, k) => n == x && (k == .local || k == .cell)) && isComp y else locB sc x)
        | _, _ => false)
      | .Tuple vs _ _ => (match tg, t with
        | .tup is, .Tuple es _ _ => isNm2 N sc is es && parOk es vs && ck Γ N false sc y e && isTupC y
        | _, .Name _ _ => ckTg N (locB sc) tg t && ck Γ N false sc y e
        | _, _ => false)
      | _ => ckTg N (locB sc) tg t && ck Γ N false sc y e && noComp e)
    | _ => false
  | .stI a i e, st => match st with
    | .Assign [.Subscript x y _] z _ => !isSlice y && ck Γ N false sc a x && ck Γ N false sc i y && ck Γ N false sc e z && noComp z
    | _ => false
  | .expr y, st => match st with
    | .Expr e _ => ck Γ N false sc y e && noComp e
    | _ => false
  | .ret y, st => match st with
    | .Return (some e) _ => ck Γ N false sc y e
    | _ => false
  | .retN, st => match st with
    | .Return none _ => true
    | _ => false
  | .ifs c a b, st => match st with
    | .If t sa sb _ => ckT Γ N false sc c t && ckSs Γ N sc a sa && ckSs Γ N sc b sb
    | _ => false
  | .for_ tg src b, st => match st with
    | .For t it body [] _ => ckTg N (locB sc) tg t && ckI Γ N false sc src it t && noSet it && ckSs Γ N sc b body
    | _ => false
  | .while_ c b, st => match st with
    | .While t body [] _ => ckT Γ N false sc c t && ckSs Γ N sc b body
    | _ => false
  | .raise_ k e, st => match st with
    | .Raise (some (.Call (.Name x _) [y] [] _)) none _ => decide (Γ.cn[k]? = some x) && decide (Γ.mkb[k]? = some true) && glB sc x && okNm x && ck Γ N false sc e y && plainE y
    | _ => false
  | .try_ b k i h, st => match st with
    | .Try body [.ExceptHandler (some (.Name x _)) (some n) [.Return (some he) _] _] [] [] _ => decide (Γ.cn[k]? = some x) && glB sc x && okNm x && decide (N[i]? = some n) && lcl sc n && ckSs Γ N sc b body && ck { Γ with eh := some n } N true sc h he
    | _ => false
  | .pass, st => match st with
    | .Pass _ => true
    | _ => false
  | .brk, st => match st with
    | .Break _ => true
    | _ => false
  | .cnt, st => match st with
    | .Continue _ => true
    | _ => false
  | _, _ => false
def ckSs (Γ : Sy) (N : List Str) (sc : Scope) : C → List Stmt → Bool
  | .nil, sts => sts.isEmpty
  | .cons a b, sts => if isFrz a then ckSs Γ N sc b sts else match sts with
    | st :: sts => ckS Γ N sc a st && ckSs Γ N sc b sts
    | [] => false
  | _, _ => false
end
end PV

namespace PV
open PySem L2 PyProof.Rows RZ

def bltNames : List Str := ["len", "max", "min", "abs", "all", "any", "sum", "list", "tuple", "repr", "int", "isinstance", "bool", "str", "dict", "range", "enumerate", "zip"]
/-- the promise of an error's __init__ -/
def spI (C : Addr) (f : Str) : Sp := fun vs H Q _ => ∃ (a : Addr) (v : V), vs = [.ref a, v] ∧ H a = some (exo a C none) ∧ ∀ d, H d = none → d ≠ a → Q .non (upd (upd H d (exd d [(f, v)])) a (exo a C (some d)))
structure Md (Γ : Sy) (T : Tb) (G : Gv) (P : Program) (wl : World) (K : PySem.W.Frag) (mg : Str → Option Value) (base : Heap) (lv : Nat) : Prop where
  hK : K = T.K
  fns : ∀ (n : Nat) (x : Str), Γ.fn[n]? = some x → ∃ (f : Addr) (fd : FuncData) (ps : List Str), mg x = some (.ref f) ∧ PySem.W.keepIn K (.ref f) = true ∧ Binds K fd ps [] ∧ FnG P wl K mg base lv f fd ps (spEv T ps.length (G.cal n)) ∧ ∀ ds S, G.cal n ds S ≠ .stuck → ds.length = ps.length
  gls : ∀ (g : Nat) (x : Str), Γ.gn[g]? = some x → ∃ (v : V) (u : Value), mg x = some u ∧ RelV v u ∧ ∀ w, Rep T w (G.gl g) v
  gas : ∀ (g : Nat) (x f : Str), Γ.ga g = some (x, f) → ∃ (Ca : Addr) (mc : Value) (v : V) (u : Value), mg x = some (.ref Ca) ∧ ClX.CRead K Ca mc ∧ ClX.CVal K Ca mc f v u ∧ ∀ w, Rep T w (G.gl g) v
  blt : ∀ x, x ∈ bltNames → mg x = none
  ncn : T.nc = Γ.cn.length
  exc : ∀ (k : Nat) (x : Str), Γ.cn[k]? = some x → mg x = some (.ref (T.cls k)) ∧ XfC K (T.cls k) ∧ PySem.W.findIn K (.ref (T.cls k)) (T.fld (T.ef k)) = some none
  mks : ∀ (k : Nat), Γ.mkb[k]? = some true → OexC K (T.cls k) ∧ ∃ (fI : Addr) (fd : FuncData) (ps : List Str), PySem.W.findIn K (.ref (T.cls k)) "__init__" = some (some (.ref fI)) ∧ PySem.W.typeIn K (.ref fI) = some (.type "function") ∧ FnOk P wl K mg base CX0 1 fI fd ps (spI (T.cls k) (T.fld (T.ef k))) ∧ Binds K fd ps []
  sub : ∀ k x, k < T.nc → x < T.nc → PySem.W.exmOne K (.ref (T.cls k)) (.ref (T.cls x)) = some (G.sub k x)
  ef : G.ef = T.ef
  fl : ∀ (f : Nat) (n : Str), Γ.fl[f]? = some n → T.fld f = n
  lv1 : 2 ≤ lv
structure Cxt (Γ : Sy) (T : Tb) (G : Gv) (hot : Bool) (N : List Str) (sc : Scope) (lv : Nat) (X : Cx) (W : WX) (Ξ : Xi) : Prop where
  md : Md Γ T G X.prog X.w X.K X.mg X.base lv
  hN : X.N = N
  nd : N.Nodup
  hsc : X.env.scope = sc
  un : X.A.units + 64 < cLine
  gd : X.A.guards = some []
  cold : hot = false → X.calm = true ∧ Room lv X.A
  tk : Takes X W
  kp : Kept Ξ
  eg : ∀ (f : Nat) (x n : Str) (p q : Pos), hot = true → Γ.eh = some x → Γ.fl[f]? = some n → visB sc x = true → okNm x = true → PE X (.Attribute (.Name x p) n q) (tEv T W Ξ (ev G (.eget f)))
theorem vis_of {sc : Scope} {x : Str} (h : visB sc x = true) : Vis sc x := by
  unfold visB at h
  split at h
  · exact .inl (by assumption)
  · exact .inr (.inl (by assumption))
  · exact .inr (.inr (by assumption))
  · cases h
theorem loc_of {sc : Scope} {x : Str} (h : locB sc x = true) : Loc sc x := by
  unfold locB at h
  split at h
  · exact .inl (by assumption)
  · exact .inr (by assumption)
  · cases h
theorem lcl_of {sc : Scope} {x : Str} (h : lcl sc x = true) : sc.names.lookup x = some .local := by
  unfold lcl at h
  split at h
  · assumption
  · cases h
theorem gl_of {X : Cx} {sc : Scope} {x : Str} (e : X.env.scope = sc) (h : glB sc x = true) : Gl X x := by
  unfold glB at h
  split at h
  · show X.env.scope.names.lookup x = _
    rw [e]
    assumption
  · cases h
theorem nm_of {x : Str} (h : okNm x = true) : (x == ("__debug__" : Str)) = false ∧ (x == ("__classdict__" : Str)) = false := by
  unfold okNm at h
  rw [Bool.and_eq_true] at h
  exact ⟨by simpa using h.1, by simpa using h.2⟩
theorem mark_of {op : CmpOp} {e : Expr} (h : noSet e = true) : behindInMarks op e = false := by
  cases e <;> first | rfl | cases h
theorem fold_of {e : Expr} {env : PySem.Env} (h : noSet e = true) (x : Value) : foldedSetIterable e env x = pure x := by
  cases e <;> first | rfl | cases h
theorem ix_of {e : Expr} (h : isSlice e = false) : PlainIx e := by
  intro o i
  cases e <;> first | rfl | cases h
theorem true_of {e : Expr} {env : PySem.Env} (h : plainT e = true) (whole : Sem Value) : isTrue e env whole = (do let v ← whole; standAt e.pos; holding [v] (truthy v)) := by
  cases e <;> first | rfl | (cases h; done) | (rename_i op _ _; cases op <;> first | rfl | cases h)
theorem boot_ty {t : Ty} (h : isOwn t = false) : bootBuiltins (tyN t) = some (.type (tyName t)) ∧ tyN t ≠ "__name__" ∧ (tyN t == ("__debug__" : Str)) = false ∧ tyN t ∈ bltNames ∧ ∀ c, t ≠ .own c := by
  cases t <;> first | (cases h; done) | (exact ⟨by decide +kernel, by decide +kernel, by decide +kernel, by decide +kernel, fun _ z => nomatch z⟩)
section
variable {Γ : Sy} {T : Tb} {G : Gv} {hot : Bool} {N : List Str} {sc : Scope} {lv : Nat} {X : Cx} {W : WX} {Ξ : Xi}
/-- a built-in by its name -/
theorem bi_call (c : Cxt Γ T G hot N sc lv X W Ξ) {b : Bi} {x : Str} {p pos : Pos} {y : Expr} {ys : List Expr} (hh : (!hot || biHot b) = true) (hx : x = biName b) (hg : glB sc x = true) (hs : (y :: ys).all plainE = true) (t : TA) (ha : PA X (y :: ys) t) : PE X (.Call (.Name x p) (y :: ys) [] pos) (tCB (rBi T b) t) := by
  subst hx
  have gl := gl_of c.hsc hg
  rw [List.all_cons, Bool.and_eq_true] at hs
  have e1 : starEach (y :: ys) X.env = (false, eval y X.env) :: starEach ys X.env := star_plain hs.1
  have npl : ∀ l : List Expr, l.all plainE = true → (backTo pos (starEach l X.env)).any (·.1) = false := by
    intro l
    induction l with
    | nil => intro _; rfl
    | cons z l ih =>
      intro hl
      rw [List.all_cons, Bool.and_eq_true] at hl
      rw [star_plain hl.1]
      show (false || (backTo pos (starEach l X.env)).any (·.1)) = false
      rw [ih hl.2]
      rfl
  have hp := npl ys hs.2
  have hK := c.md.hK
  have cold : biHot b = false → X.calm = true := fun z => by
    rw [z, Bool.or_false] at hh
    exact (c.cold (by simpa using hh)).1
  cases b with
  | len => exact pe_callB (call_len' hK) gl (c.md.blt _ (by decide +kernel)) (by decide +kernel) ha (by decide +kernel) (by decide +kernel) e1 hp
  | max => exact pe_callB (call_max' (cold rfl)) gl (c.md.blt _ (by decide +kernel)) (by decide +kernel) ha (by decide +kernel) (by decide +kernel) e1 hp
  | min => exact pe_callB (call_min' (cold rfl)) gl (c.md.blt _ (by decide +kernel)) (by decide +kernel) ha (by decide +kernel) (by decide +kernel) e1 hp
  | abs => exact pe_callB call_abs' gl (c.md.blt _ (by decide +kernel)) (by decide +kernel) ha (by decide +kernel) (by decide +kernel) e1 hp
  | all => exact pe_callB (call_all' (cold rfl)) gl (c.md.blt _ (by decide +kernel)) (by decide +kernel) ha (by decide +kernel) (by decide +kernel) e1 hp
  | any => exact pe_callB (call_any' (cold rfl)) gl (c.md.blt _ (by decide +kernel)) (by decide +kernel) ha (by decide +kernel) (by decide +kernel) e1 hp
  | sum => exact pe_callB (call_sum' (cold rfl)) gl (c.md.blt _ (by decide +kernel)) (by decide +kernel) ha (by decide +kernel) (by decide +kernel) e1 hp
  | list m => cases m <;> exact pe_callTy (call_list' hK _) gl (c.md.blt _ (by decide +kernel)) (by decide +kernel) ha (by decide +kernel) (by decide +kernel) e1 hp
  | tuple => exact pe_callTy (call_tuple' hK) gl (c.md.blt _ (by decide +kernel)) (by decide +kernel) ha (by decide +kernel) (by decide +kernel) e1 hp
  | repr => exact pe_callB (call_repr' hK c.gd c.un) gl (c.md.blt _ (by decide +kernel)) (by decide +kernel) ha (by decide +kernel) (by decide +kernel) e1 hp
  | int => exact pe_callTy call_int' gl (c.md.blt _ (by decide +kernel)) (by decide +kernel) ha (by decide +kernel) (by decide +kernel) e1 hp
theorem cks_plain {Γ : Sy} {N : List Str} {hot : Bool} {sc : Scope} : ∀ {c : C} {es : List Expr}, cks Γ N hot sc c es = true → es.all plainE = true
  | .nil, [], _ => rfl
  | .cons a b, x :: xs, h => by
    have h' : (ck Γ N hot sc a x && cks Γ N hot sc b xs && plainE x) = true := h
    rw [Bool.and_eq_true, Bool.and_eq_true] at h'
    rw [List.all_cons, Bool.and_eq_true]
    exact ⟨h'.2, cks_plain h'.1.2⟩
/-- a target's names, in the def's body or a comprehension's block -/
theorem tg_ok {X' : Cx} {ok : Str → Bool} (hK : X'.K = T.K) (hc : X'.calm = true) (hN : X'.N = N) (nd : N.Nodup) (h : ∀ x, ok x = true → Loc X'.env.scope x ∧ (X'.fn x = true ∨ X'.env.scope.names.lookup x = some .local)) {tg : Tg} {t : Expr} (hk : ckTg N ok tg t = true) : PG X' t (tTg T tg) := by
  subst hN
  cases tg with
  | one i =>
    cases t with
    | Name x p =>
      have hk' : (decide (X'.N[i]? = some x) && ok x) = true := hk
      rw [Bool.and_eq_true] at hk'
      obtain ⟨h1, h2⟩ := h x hk'.2
      exact ok_tg1 nd (of_decide_eq_true hk'.1) h1 h2
    | _ => cases hk
  | tup is =>
    cases t with
    | Tuple es k p =>
      have hk' : (decide (es.length = is.length) && (es.zip is).all fun p => match p.1 with | .Name x _ => decide (X'.N[p.2]? = some x) && ok x | _ => false) = true := hk
      rw [Bool.and_eq_true] at hk'
      have hl := of_decide_eq_true hk'.1
      have key : ∀ (j : Nat) (e : Expr) (i : Nat), es[j]? = some e → is[j]? = some i → ∃ x p, e = .Name x p ∧ X'.N[i]? = some x ∧ Loc X'.env.scope x ∧ (X'.fn x = true ∨ X'.env.scope.names.lookup x = some .local) := fun j e i he hi => by
        have hm : (e, i) ∈ es.zip is := by
          refine List.mem_of_getElem? (i := j) ?_
          rw [List.getElem?_zip_eq_some]
          exact ⟨he, hi⟩
        have q := List.all_eq_true.mp hk'.2 _ hm
        cases e with
        | Name x p =>
          have q' : (decide (X'.N[i]? = some x) && ok x) = true := q
          rw [Bool.and_eq_true] at q'
          obtain ⟨h1, h2⟩ := h x q'.2
          exact ⟨x, p, rfl, of_decide_eq_true q'.1, h1, h2⟩
        | _ => cases q
      have shape : ∀ (es : List Expr), (∀ (j : Nat) (e : Expr), es[j]? = some e → ∃ x p, e = .Name x p) → (assignEach es X'.env).length = es.length ∧ (assignEach es X'.env).findIdx? (·.1) = none := by
        intro es
        induction es with
        | nil => intro _; exact ⟨rfl, rfl⟩
        | cons e es ih =>
          intro hh
          obtain ⟨x, p, rfl⟩ := hh 0 e rfl
          obtain ⟨i1, i2⟩ := ih fun j e he => hh (j + 1) e (by simpa using he)
          have e0 : assignEach (.Name x p :: es) X'.env = (false, assign (.Name x p) X'.env) :: assignEach es X'.env := rfl
          rw [e0]
          refine ⟨by simp [i1], ?_⟩
          rw [List.findIdx?_cons]
          simp [i2]
      obtain ⟨s1, s2⟩ := shape es fun j e he => by
        have hj : j < is.length := by
          rw [← hl]
          exact (List.getElem?_eq_some_iff.mp he).1
        obtain ⟨x, p, e1, _⟩ := key j e is[j] he (List.getElem?_eq_getElem hj)
        exact ⟨x, p, e1⟩
      exact ok_tgt hK hc nd key hl (by rw [s1, hl]) s2
    | _ => cases hk
/-- the context of a comprehension's block -/
theorem Cxt.blk (c : Cxt Γ T G false N sc lv X W Ξ) (scope : Scope) (s : Shared) (H : Hp) (C : Addr) (cl : List (Str × Addr)) (fp : List Addr) : Cxt Γ T G false N (relS scope sc) lv (X.blk s H scope (compEnvC scope cl C X.env) fp) W0 X0 := by
  refine ⟨c.md, c.hN, c.nd, ?_, c.un, c.gd, c.cold, takes0, kept0, fun _ _ _ _ _ z => nomatch z⟩
  rw [← c.hsc]
  rfl
theorem own_slots (N : List Str) (tg : Tg) : (ownOf N tg).map (·.2) = slots tg := by
  unfold ownOf
  rw [List.map_map]
  exact List.map_id _
/-- THE THEOREM, expressions -/
structure OkC (Γ : Sy) (T : Tb) (G : Gv) (N : List Str) (lv : Nat) (c : C) : Prop where
  e : ∀ {hot sc X W Ξ}, Cxt Γ T G hot N sc lv X W Ξ → ∀ {e : Expr}, ck Γ N hot sc c e = true → PE X e (tEv T W Ξ (ev G c))
  s : ∀ {hot sc X W Ξ}, Cxt Γ T G hot N sc lv X W Ξ → ∀ {es : List Expr}, cks Γ N hot sc c es = true → PA X es (tEvs T W Ξ (evs G c))
  o : ∀ {hot sc X W Ξ}, Cxt Γ T G hot N sc lv X W Ξ → ∀ {e : Option Expr}, ckO Γ N hot sc c e = true → PO X e (tEvO T W Ξ (evO G c))
  t : ∀ {hot sc X W Ξ}, Cxt Γ T G hot N sc lv X W Ξ → ∀ {e : Expr}, ckT Γ N hot sc c e = true → PT X e (tEvT T W Ξ (evT G c))
  w : ∀ {hot sc X W Ξ}, Cxt Γ T G hot N sc lv X W Ξ → ∀ {op : BoolOp} {xs : List Expr} {p : Pos}, ckT Γ N hot sc c (.BoolOp op xs p) = true → PW X (.BoolOp op xs p) (tEvT T W Ξ (evT G c))
  i : ∀ {hot sc X W Ξ}, Cxt Γ T G hot N sc lv X W Ξ → ∀ {e t : Expr}, ckI Γ N hot sc c e t = true → PI X t e (tEvI T W Ξ (evI G c))
end
end PV

namespace PV
open PySem L2 PyProof.Rows RZ

theorem and3 {a b : Bool} (h : (a && b) = true) : a = true ∧ b = true := by rw [Bool.and_eq_true] at h; exact h
theorem noT {p : Prop} (h : false = true) : p := Bool.noConfusion h
section
variable {Γ : Sy} {T : Tb} {G : Gv} {N : List Str} {lv : Nat}
theorem lastM {o p : CmpOp} {b c : Expr} (h : noSet c = true) : lastMarks [o, p] [b, c] = false := mark_of (op := p) h
theorem rel_lookup {scope sc : Scope} {x : Str} {k : NameKind} (hk : k ≠ .free) (h : scope.names.lookup x = some k) : (relS scope sc).names.lookup x = some k := by
  unfold relS
  show (scope.names.map _).lookup x = some k
  generalize scope.names = l at h
  induction l with
  | nil => cases h
  | cons p l ih =>
    obtain ⟨n, j⟩ := p
    rw [List.lookup_cons] at h
    rw [List.map_cons]
    cases hb : x == n with
    | true =>
      rw [hb] at h
      have hj : j = k := by simpa using h
      subst hj
      have e : (j == NameKind.free) = false := by simpa using hk
      show ((if (j == NameKind.free && sc.kind == .function && sc.names.lookup n == some .cell) = true then (n, NameKind.cell) else (n, j)) :: _).lookup x = some j
      rw [e, Bool.false_and, Bool.false_and, if_neg (by simp), List.lookup_cons, hb]
    | false =>
      rw [hb] at h
      show ((if (j == NameKind.free && sc.kind == .function && sc.names.lookup n == some .cell) = true then (n, NameKind.cell) else (n, j)) :: _).lookup x = some k
      by_cases hc : (j == NameKind.free && sc.kind == .function && sc.names.lookup n == some .cell) = true
      · rw [if_pos hc, List.lookup_cons, hb]; exact ih h
      · rw [if_neg hc, List.lookup_cons, hb]; exact ih h
/-- what a comprehension's text asks, part by part -/
structure CompPs (Γ : Sy) (T : Tb) (G : Gv) (N : List Str) (X : Cx) (W : WX) (Ξ : Xi) (tg : Tg) (src cnd el : C) (x t it : Expr) (ifs : List Expr) (scope : Scope) : Prop where
  hc : X.calm = true
  hN : X.N.Nodup
  hi : PI X t it (tEvI T W Ξ (evI G src))
  ok : BlkOk X.N X.env.scope scope (ownOf N tg)
  hg : ∀ (s : Shared) (H : Hp) (C : Addr) (cl : List (Str × Addr)) (fp : List Addr), PG (X.blk s H scope (compEnvC scope cl C X.env) fp) t (tTg T tg)
  ht : ∀ (s : Shared) (H : Hp) (C : Addr) (cl : List (Str × Addr)) (fp : List Addr), PTs (X.blk s H scope (compEnvC scope cl C X.env) fp) ifs (tEvT T W0 X0 (evT G cnd))
  he : ∀ (s : Shared) (H : Hp) (C : Addr) (cl : List (Str × Addr)) (fp : List Addr), PE (X.blk s H scope (compEnvC scope cl C X.env) fp) x (tEv T W0 X0 (ev G el))
  hs : ∀ y, foldedSetIterable it X.env y = pure y
theorem compPs {tg : Tg} {src cnd el : C} (os : OkC Γ T G N lv src) (oc : OkC Γ T G N lv cnd) (oe : OkC Γ T G N lv el) {sc : Scope} {X : Cx} {W : WX} {Ξ : Xi} (cx : Cxt Γ T G false N sc lv X W Ξ) {x t it : Expr} {ifs : List Expr} {scope : Scope}
    (h : (blkC N sc scope (ownOf N tg) && ckTg N (locB scope) tg t && ckI Γ N false sc src it t && noSet it && (match (generalizing := false) ifs with | [] => isNil cnd | [y] => ckT Γ N false (relS scope sc) cnd y | _ => false) && ck Γ N false (relS scope sc) el x) = true) : CompPs Γ T G N X W Ξ tg src cnd el x t it ifs scope := by
  obtain ⟨h, h6⟩ := and3 h
  obtain ⟨h, h5⟩ := and3 h
  obtain ⟨h, h4⟩ := and3 h
  obtain ⟨h, h3⟩ := and3 h
  obtain ⟨h1, h2⟩ := and3 h
  have hN := cx.hN
  have hsc := cx.hsc
  refine ⟨(cx.cold rfl).1, by rw [hN]; exact cx.nd, os.i cx h3, by rw [hN, hsc]; exact blkOk_by h1, fun s H C cl fp => ?_, fun s H C cl fp => ?_, fun s H C cl fp => oe.e (cx.blk scope s H C cl fp) h6, fun y => fold_of h4 y⟩
  · refine tg_ok (X' := X.blk s H scope (compEnvC scope cl C X.env) fp) (ok := locB scope) cx.md.hK (cx.cold rfl).1 hN cx.nd (fun y hy => ?_) h2
    have hr : (X.blk s H scope (compEnvC scope cl C X.env) fp).env.scope = relS scope sc := (cx.blk scope s H C cl fp).hsc
    rcases loc_of hy with q | q
    · have e := rel_lookup (sc := sc) (by decide) q
      rw [← hr] at e
      exact ⟨.inl e, .inr e⟩
    · have e := rel_lookup (sc := sc) (by decide) q
      rw [← hr] at e
      refine ⟨.inr e, .inl ?_⟩
      show (scope.names.lookup y == some .cell) = true
      rw [q]
      rfl
  · match ifs, h5 with
    | [], h5 =>
      cases cnd <;> first | (exact noT h5) | skip
      refine ⟨fun pins s σ H Q I hq => pts_nil.run pins s σ H Q I ?_⟩
      obtain ⟨δ, w, rfl, wd, en, xi, hq⟩ := hq
      exact hq w true rfl wd (Step.refl w) rfl
    | [y], h5 => exact pts_one (oc.t (cx.blk scope s H C cl fp) h5)
    | _ :: _ :: _, h5 => exact noT h5
theorem okC (Γ : Sy) (T : Tb) (G : Gv) (N : List Str) (lv : Nat) (c : C) : OkC Γ T G N lv c := by
  induction c with
  | var i =>
    refine ⟨?_, ?_, ?_, ?_, ?_, ?_⟩
    · intro hot sc X W Ξ cx e h
      cases e with
      | Name x p =>
        obtain ⟨h1, h3⟩ := and3 (show (decide (N[i]? = some x) && visB sc x && okNm x) = true from h)
        obtain ⟨h1, h2⟩ := and3 h1
        obtain ⟨n1, n2⟩ := nm_of h3
        exact ok_var (by rw [cx.hN]; exact of_decide_eq_true h1) (by rw [cx.hsc]; exact vis_of h2) n1 n2
      | _ => exact noT h
    · intros; rename_i h; exact noT h
    · intros; rename_i h; exact noT h
    · intros; rename_i h; exact noT h
    · intros; rename_i h; exact noT h
    · intros; rename_i h; exact noT h
  | con d =>
    refine ⟨?_, ?_, ?_, ?_, ?_, ?_⟩
    · intro hot sc X W Ξ cx e h
      cases e with
      | Constant k j p =>
        cases d <;> cases k <;> first | (exact noT h) | skip
        · exact ok_con pe_non fun _ => .non
        · cases of_decide_eq_true (show decide _ = true from h)
          exact ok_con pe_bl fun _ => .bl _
        · cases of_decide_eq_true (show decide _ = true from h)
          exact ok_con pe_int fun _ => .int _
        · cases of_decide_eq_true (show decide _ = true from h)
          exact ok_con pe_str fun _ => .str _
      | _ => exact noT h
    · intros; rename_i h; exact noT h
    · intros; rename_i h; exact noT h
    · intros; rename_i h; exact noT h
    · intros; rename_i h; exact noT h
    · intros; rename_i h; exact noT h
  | glob g =>
    refine ⟨?_, ?_, ?_, ?_, ?_, ?_⟩
    · intro hot sc X W Ξ cx e h
      cases e with
      | Name x p =>
        obtain ⟨h1, h3⟩ := and3 (show (decide (Γ.gn[g]? = some x) && glB sc x && okNm x) = true from h)
        obtain ⟨h1, h2⟩ := and3 h1
        obtain ⟨n1, n2⟩ := nm_of h3
        obtain ⟨v, u, hm, rv, rp⟩ := cx.md.gls g x (of_decide_eq_true h1)
        exact ok_glob (v := v) ⟨fun pins s σ H Q I q => ld_glob I (gl_of cx.hsc h2) hm ⟨v, H, I, rv, q⟩ n1⟩ rp
      | Attribute y f p =>
        cases y <;> first | (exact noT h) | skip
        rename_i x p2
        obtain ⟨h1, h3⟩ := and3 (show (decide (Γ.ga g = some (x, f)) && glB sc x && okNm x) = true from h)
        obtain ⟨h1, h2⟩ := and3 h1
        obtain ⟨n1, n2⟩ := nm_of h3
        obtain ⟨Ca, mc, v, u, hm, r, k, rp⟩ := cx.md.gas g x f (of_decide_eq_true h1)
        exact ok_cval (v := v) ⟨fun pins s σ H Q I q => ld_glob I (gl_of cx.hsc h2) hm ⟨.ref Ca, H, I, rfl, q⟩ n1⟩ r k rp
      | _ => exact noT h
    · intros; rename_i h; exact noT h
    · intros; rename_i h; exact noT h
    · intros; rename_i h; exact noT h
    · intros; rename_i h; exact noT h
    · intros; rename_i h; exact noT h
  | bin o a b iha ihb =>
    refine ⟨?_, ?_, ?_, ?_, ?_, ?_⟩
    · intro hot sc X W Ξ cx e h
      cases e with
      | BinOp l op r p =>
        obtain ⟨h1, h3⟩ := and3 (show (decide (op = opOf o) && ck Γ N hot sc a l && ck Γ N hot sc b r) = true from h)
        obtain ⟨h1, h2⟩ := and3 h1
        cases of_decide_eq_true h1
        exact ok_bin cx.md.hK cx.kp (iha.e cx h2) (ihb.e cx h3)
      | _ => exact noT h
    · intros; rename_i h; exact noT h
    · intros; rename_i h; exact noT h
    · intros; rename_i h; exact noT h
    · intros; rename_i h; exact noT h
    · intros; rename_i h; exact noT h
  | neg a iha =>
    refine ⟨?_, ?_, ?_, ?_, ?_, ?_⟩
    · intro hot sc X W Ξ cx e h
      cases e with
      | UnaryOp op x p =>
        cases op <;> first | (exact noT h) | skip
        exact ok_neg cx.kp (iha.e cx h)
      | _ => exact noT h
    · intros; rename_i h; exact noT h
    · intros; rename_i h; exact noT h
    · intros; rename_i h; exact noT h
    · intros; rename_i h; exact noT h
    · intros; rename_i h; exact noT h
  | not a iha =>
    refine ⟨?_, ?_, ?_, ?_, ?_, ?_⟩
    · intro hot sc X W Ξ cx e h
      cases e with
      | UnaryOp op x p =>
        cases op <;> first | (exact noT h) | skip
        exact ok_not cx.md.hK cx.kp (iha.e cx h)
      | _ => exact noT h
    · intros; rename_i h; exact noT h
    · intros; rename_i h; exact noT h
    · intro hot sc X W Ξ cx e h
      cases e with
      | UnaryOp op x p =>
        cases op <;> first | (exact noT h) | skip
        exact ok_tnot cx.kp (iha.t cx h)
      | _ => exact noT h
    · intros; rename_i h; exact noT h
    · intros; rename_i h; exact noT h
  | and a b iha ihb =>
    have w : ∀ {hot sc X W Ξ}, Cxt Γ T G hot N sc lv X W Ξ → ∀ {op : BoolOp} {xs : List Expr} {p : Pos}, ckT Γ N hot sc (.and a b) (.BoolOp op xs p) = true → PW X (.BoolOp op xs p) (tEvT T W Ξ (evT G (.and a b))) := by
      intro hot sc X W Ξ cx op xs p h
      cases op with
      | Or => exact noT h
      | And =>
        match xs, h with
        | [], h => exact noT h
        | [_], h => exact noT h
        | [x, y], h =>
          obtain ⟨h1, h2⟩ := and3 (show (ckT Γ N hot sc a x && ckT Γ N hot sc b y) = true from h)
          exact ok_tand cx.kp (iha.t cx h1) (pw_and1 (ihb.t cx h2))
        | x :: y :: z :: r, h =>
          obtain ⟨h1, h2⟩ := and3 (show (ckT Γ N hot sc a x && ckT Γ N hot sc b (.BoolOp .And (y :: z :: r) p)) = true from h)
          exact ok_tand cx.kp (iha.t cx h1) (ihb.w cx h2)
    refine ⟨?_, ?_, ?_, ?_, w, ?_⟩
    · intro hot sc X W Ξ cx e h
      cases e with
      | BoolOp op xs p =>
        cases op with
        | Or => exact noT h
        | And =>
          match xs, h with
          | [], h => exact noT h
          | [_], h => exact noT h
          | [x, y], h =>
            obtain ⟨h1, h2⟩ := and3 (show (ck Γ N hot sc a x && ck Γ N hot sc b y) = true from h)
            exact ok_and cx.md.hK cx.kp (iha.e cx h1) (pe_one (ihb.e cx h2))
          | x :: y :: z :: r, h =>
            obtain ⟨h1, h2⟩ := and3 (show (ck Γ N hot sc a x && ck Γ N hot sc b (.BoolOp .And (y :: z :: r) p)) = true from h)
            exact ok_and cx.md.hK cx.kp (iha.e cx h1) (ihb.e cx h2)
      | _ => exact noT h
    · intros; rename_i h; exact noT h
    · intros; rename_i h; exact noT h
    · intro hot sc X W Ξ cx e h
      cases e with
      | BoolOp op xs p => exact (w cx h).pt
      | _ => exact noT h
    · intros; rename_i h; exact noT h
  | or a b iha ihb =>
    have w : ∀ {hot sc X W Ξ}, Cxt Γ T G hot N sc lv X W Ξ → ∀ {op : BoolOp} {xs : List Expr} {p : Pos}, ckT Γ N hot sc (.or a b) (.BoolOp op xs p) = true → PW X (.BoolOp op xs p) (tEvT T W Ξ (evT G (.or a b))) := by
      intro hot sc X W Ξ cx op xs p h
      cases op with
      | And => exact noT h
      | Or =>
        match xs, h with
        | [], h => exact noT h
        | [_], h => exact noT h
        | [x, y], h =>
          obtain ⟨h1, h2⟩ := and3 (show (ckT Γ N hot sc a x && ckT Γ N hot sc b y) = true from h)
          exact ok_tor cx.kp (iha.t cx h1) (pw_or1 (ihb.t cx h2))
        | x :: y :: z :: r, h =>
          obtain ⟨h1, h2⟩ := and3 (show (ckT Γ N hot sc a x && ckT Γ N hot sc b (.BoolOp .Or (y :: z :: r) p)) = true from h)
          exact ok_tor cx.kp (iha.t cx h1) (ihb.w cx h2)
    refine ⟨?_, ?_, ?_, ?_, w, ?_⟩
    · intro hot sc X W Ξ cx e h
      cases e with
      | BoolOp op xs p =>
        cases op with
        | And => exact noT h
        | Or =>
          match xs, h with
          | [], h => exact noT h
          | [_], h => exact noT h
          | [x, y], h =>
            obtain ⟨h1, h2⟩ := and3 (show (ck Γ N hot sc a x && ck Γ N hot sc b y) = true from h)
            exact ok_or cx.md.hK cx.kp (iha.e cx h1) (pe_one (ihb.e cx h2))
          | x :: y :: z :: r, h =>
            obtain ⟨h1, h2⟩ := and3 (show (ck Γ N hot sc a x && ck Γ N hot sc b (.BoolOp .Or (y :: z :: r) p)) = true from h)
            exact ok_or cx.md.hK cx.kp (iha.e cx h1) (ihb.e cx h2)
      | _ => exact noT h
    · intros; rename_i h; exact noT h
    · intros; rename_i h; exact noT h
    · intro hot sc X W Ξ cx e h
      cases e with
      | BoolOp op xs p => exact (w cx h).pt
      | _ => exact noT h
    · intros; rename_i h; exact noT h
  | ite c a b ihc iha ihb =>
    refine ⟨?_, ?_, ?_, ?_, ?_, ?_⟩
    · intro hot sc X W Ξ cx e h
      cases e with
      | IfExp t x y p =>
        obtain ⟨h1, h3⟩ := and3 (show (ckT Γ N hot sc c t && ck Γ N hot sc a x && ck Γ N hot sc b y) = true from h)
        obtain ⟨h1, h2⟩ := and3 h1
        exact ok_ite cx.kp (ihc.t cx h1) (iha.e cx h2) (ihb.e cx h3)
      | _ => exact noT h
    · intros; rename_i h; exact noT h
    · intros; rename_i h; exact noT h
    · intros; rename_i h; exact noT h
    · intros; rename_i h; exact noT h
    · intros; rename_i h; exact noT h
  | cmp o a b iha ihb =>
    refine ⟨?_, ?_, ?_, ?_, ?_, ?_⟩
    · intro hot sc X W Ξ cx e h
      cases e with
      | Compare x ops ys p =>
        match ops, ys, h with
        | [op], [y], h =>
          obtain ⟨h1, h4⟩ := and3 (show (decide (op = cmpOf o) && ck Γ N hot sc a x && ck Γ N hot sc b y && noSet y) = true from h)
          obtain ⟨h1, h3⟩ := and3 h1
          obtain ⟨h1, h2⟩ := and3 h1
          cases of_decide_eq_true h1
          exact ok_cmp cx.md.hK cx.un cx.kp (iha.e cx h2) (ihb.e cx h3) (mark_of h4)
        | [], _, h => exact noT h
        | [_], [], h => exact noT h
        | [_], _ :: _ :: _, h => exact noT h
        | _ :: _ :: _, _, h => exact noT h
      | _ => exact noT h
    · intros; rename_i h; exact noT h
    · intros; rename_i h; exact noT h
    · intros; rename_i h; exact noT h
    · intros; rename_i h; exact noT h
    · intros; rename_i h; exact noT h
  | chain o p a b c iha ihb ihc =>
    refine ⟨?_, ?_, ?_, ?_, ?_, ?_⟩
    · intro hot sc X W Ξ cx e h
      cases e with
      | Compare x ops ys pp =>
        match ops, ys, h with
        | [o1, o2], [y, z], h =>
          obtain ⟨h1, h6⟩ := and3 (show (decide (o1 = cmpOf o) && decide (o2 = cmpOf p) && ck Γ N hot sc a x && ck Γ N hot sc b y && ck Γ N hot sc c z && noSet z) = true from h)
          obtain ⟨h1, h5⟩ := and3 h1
          obtain ⟨h1, h4⟩ := and3 h1
          obtain ⟨h1, h3⟩ := and3 h1
          obtain ⟨h1, h2⟩ := and3 h1
          cases of_decide_eq_true h1
          cases of_decide_eq_true h2
          exact ok_chain cx.md.hK cx.un cx.kp (iha.e cx h3) (ihb.e cx h4) (ihc.e cx h5) (lastM h6)
        | [], _, h => exact noT h
        | [_], _, h => exact noT h
        | [_, _], [], h => exact noT h
        | [_, _], [_], h => exact noT h
        | [_, _], _ :: _ :: _ :: _, h => exact noT h
        | _ :: _ :: _ :: _, _, h => exact noT h
      | _ => exact noT h
    · intros; rename_i h; exact noT h
    · intros; rename_i h; exact noT h
    · intros; rename_i h; exact noT h
    · intros; rename_i h; exact noT h
    · intros; rename_i h; exact noT h
  | nil =>
    refine ⟨?_, ?_, ?_, ?_, ?_, ?_⟩
    · intros; rename_i h; exact noT h
    · intro hot sc X W Ξ cx es h
      cases es with
      | nil => exact ok_nil
      | cons _ _ => exact noT h
    · intro hot sc X W Ξ cx e h
      cases e with
      | none => exact ok_onone
      | some _ => exact noT h
    · intros; rename_i h; exact noT h
    · intros; rename_i h; exact noT h
    · intros; rename_i h; exact noT h
  | cons a b iha ihb =>
    refine ⟨?_, ?_, ?_, ?_, ?_, ?_⟩
    · intros; rename_i h; exact noT h
    · intro hot sc X W Ξ cx es h
      cases es with
      | nil => exact noT h
      | cons x xs =>
        obtain ⟨h1, h3⟩ := and3 (show (ck Γ N hot sc a x && cks Γ N hot sc b xs && plainE x) = true from h)
        obtain ⟨h1, h2⟩ := and3 h1
        exact ok_cons cx.kp (iha.e cx h1) (ihb.s cx h2) h3
    · intro hot sc X W Ξ cx e h
      cases e with
      | none => exact noT h
      | some x => exact ok_osome cx.kp (iha.e cx h)
    · intros; rename_i h; exact noT h
    · intros; rename_i h; exact noT h
    · intros; rename_i h; exact noT h
  | tup es ih =>
    refine ⟨?_, ?_, ?_, ?_, ?_, ?_⟩
    · intro hot sc X W Ξ cx e h
      cases e with
      | Tuple xs k p => exact ok_tup cx.kp (ih.s cx h)
      | _ => exact noT h
    · intros; rename_i h; exact noT h
    · intros; rename_i h; exact noT h
    · intros; rename_i h; exact noT h
    · intros; rename_i h; exact noT h
    · intros; rename_i h; exact noT h
  | lst m es ih =>
    refine ⟨?_, ?_, ?_, ?_, ?_, ?_⟩
    · intro hot sc X W Ξ cx e h
      cases e with
      | List xs p => exact ok_lst cx.kp (ih.s cx h)
      | _ => exact noT h
    · intros; rename_i h; exact noT h
    · intros; rename_i h; exact noT h
    · intros; rename_i h; exact noT h
    · intros; rename_i h; exact noT h
    · intros; rename_i h; exact noT h
  | dct m ks vs _ _ =>
    refine ⟨?_, ?_, ?_, ?_, ?_, ?_⟩
    · intro hot sc X W Ξ cx e h
      cases e <;> first | (exact noT h) | skip
      rename_i a b p
      cases a with
      | cons _ _ => exact noT h
      | nil =>
      cases b with
      | cons _ _ => exact noT h
      | nil =>
      obtain ⟨h1, h3⟩ := and3 (show (!m && isNil ks && isNil vs) = true from h)
      obtain ⟨h1, h2⟩ := and3 h1
      cases m with
      | true => exact noT h1
      | false =>
      cases ks <;> first | (exact noT h2) | skip
      cases vs <;> first | (exact noT h3) | skip
      exact ok_dct0
    · intros; rename_i h; exact noT h
    · intros; rename_i h; exact noT h
    · intros; rename_i h; exact noT h
    · intros; rename_i h; exact noT h
    · intros; rename_i h; exact noT h
  | rev m a iha =>
    refine ⟨?_, ?_, ?_, ?_, ?_, ?_⟩
    · intro hot sc X W Ξ cx e h
      match e, h with
      | .Subscript x (.Slice none none (some (.UnaryOp .USub (.Constant (.int 1) k p1) p2)) p3) p, h => exact ok_rev cx.md.hK cx.kp (iha.e cx h)
    · intros; rename_i h; exact noT h
    · intros; rename_i h; exact noT h
    · intros; rename_i h; exact noT h
    · intros; rename_i h; exact noT h
    · intros; rename_i h; exact noT h
  | call f es ih =>
    refine ⟨?_, ?_, ?_, ?_, ?_, ?_⟩
    · intro hot sc X W Ξ cx e h
      match e, h with
      | .Call (.Name x p) xs [] pos, h =>
        obtain ⟨h1, h5⟩ := and3 (show (!hot && decide (Γ.fn[f]? = some x) && glB sc x && okNm x && cks Γ N hot sc es xs) = true from h)
        obtain ⟨h1, h4⟩ := and3 h1
        obtain ⟨h1, h3⟩ := and3 h1
        obtain ⟨h1, h2⟩ := and3 h1
        obtain ⟨hc, hr⟩ := cx.cold (by simpa using h1)
        obtain ⟨fa, fd, ps, hm, hk, hb, F, hcal⟩ := cx.md.fns f x (of_decide_eq_true h2)
        cases xs with
        | nil =>
          cases es <;> first | (exact noT h5) | skip
          exact ok_call0 hcal F hr cx.gd (gl_of cx.hsc h3) hm hk hb cx.tk (nm_of h4).1
        | cons y ys => exact ok_call cx.kp hcal F hr cx.gd (gl_of cx.hsc h3) hm hk hb cx.tk (ih.s cx h5) (cks_plain h5) (nm_of h4).1
    · intros; rename_i h; exact noT h
    · intros; rename_i h; exact noT h
    · intros; rename_i h; exact noT h
    · intros; rename_i h; exact noT h
    · intros; rename_i h; exact noT h
  | bi b es ih =>
    refine ⟨?_, ?_, ?_, ?_, ?_, ?_⟩
    · intro hot sc X W Ξ cx e h
      match e, h with
      | .Call (.Name x p) (y :: ys) [] pos, h =>
        obtain ⟨h1, h4⟩ := and3 (show ((!hot || biHot b) && decide (x = biName b) && glB sc x && cks Γ N hot sc es (y :: ys)) = true from h)
        obtain ⟨h1, h3⟩ := and3 h1
        obtain ⟨h1, h2⟩ := and3 h1
        exact ok_bi (t := fun t => tCB (rBi T b) t) cx.kp (fun t ha => bi_call cx h1 (of_decide_eq_true h2) h3 (cks_plain h4) t ha) (ih.s cx h4)
    · intros; rename_i h; exact noT h
    · intros; rename_i h; exact noT h
    · intros; rename_i h; exact noT h
    · intros; rename_i h; exact noT h
    · intros; rename_i h; exact noT h
  | isi a t ih =>
    refine ⟨?_, ?_, ?_, ?_, ?_, ?_⟩
    · intro hot sc X W Ξ cx e h
      match e, h with
      | .Call (.Name x p) [y, .Name n p3] [] pos, h =>
        obtain ⟨h1, h7⟩ := and3 (show (decide (x = "isinstance") && decide (n = tyN t) && !isOwn t && glB sc x && glB sc n && ck Γ N hot sc a y && plainE y) = true from h)
        obtain ⟨h1, h6⟩ := and3 h1
        obtain ⟨h1, h5⟩ := and3 h1
        obtain ⟨h1, h4⟩ := and3 h1
        obtain ⟨h1, h3⟩ := and3 h1
        obtain ⟨h1, h2⟩ := and3 h1
        cases of_decide_eq_true h1
        cases of_decide_eq_true h2
        obtain ⟨b1, b2, b3, b4, b5⟩ := boot_ty (t := t) (by simpa using h3)
        exact ok_isi cx.kp (gl_of cx.hsc h4) (cx.md.blt _ (by decide +kernel)) (gl_of cx.hsc h5) (cx.md.blt _ b4) b1 b2 b3 b5 (ih.e cx h6) h7
    · intros; rename_i h; exact noT h
    · intros; rename_i h; exact noT h
    · intros; rename_i h; exact noT h
    · intros; rename_i h; exact noT h
    · intros; rename_i h; exact noT h
  | idx a i iha ihi =>
    refine ⟨?_, ?_, ?_, ?_, ?_, ?_⟩
    · intro hot sc X W Ξ cx e h
      cases e with
      | Subscript x y p =>
        obtain ⟨h1, h3⟩ := and3 (show (!isSlice y && ck Γ N hot sc a x && ck Γ N hot sc i y) = true from by cases y <;> first | exact h | exact noT h)
        obtain ⟨h1, h2⟩ := and3 h1
        exact ok_idx cx.md.hK cx.kp (iha.e cx h2) (ihi.e cx h3) (ix_of (by simpa using h1))
      | _ => exact noT h
    · intros; rename_i h; exact noT h
    · intros; rename_i h; exact noT h
    · intros; rename_i h; exact noT h
    · intros; rename_i h; exact noT h
    · intros; rename_i h; exact noT h
  | sl m a lo hi iha ihl ihh =>
    refine ⟨?_, ?_, ?_, ?_, ?_, ?_⟩
    · intro hot sc X W Ξ cx e h
      match e, h with
      | .Subscript x (.Slice l hh none p2) p, h =>
        obtain ⟨h1, h3⟩ := and3 (show (ck Γ N hot sc a x && ckO Γ N hot sc lo l && ckO Γ N hot sc hi hh) = true from h)
        obtain ⟨h1, h2⟩ := and3 h1
        exact ok_sl cx.md.hK cx.kp (iha.e cx h1) (ihl.o cx h2) (ihh.o cx h3)
    · intros; rename_i h; exact noT h
    · intros; rename_i h; exact noT h
    · intros; rename_i h; exact noT h
    · intros; rename_i h; exact noT h
    · intros; rename_i h; exact noT h
  | comp m tg src cnd el ihs ihc ihe =>
    refine ⟨?_, ?_, ?_, ?_, ?_, ?_⟩
    · intro hot sc X W Ξ cx e h
      match e, h with
      | .ListComp x [⟨t, it, ifs, 0⟩] scope p, h =>
        have h' : (!hot && blkC N sc scope (ownOf N tg) && ckTg N (locB scope) tg t && ckI Γ N hot sc src it t && noSet it && (match (generalizing := false) ifs with | [] => isNil cnd | [y] => ckT Γ N hot (relS scope sc) cnd y | _ => false) && ck Γ N hot (relS scope sc) el x) = true := h
        cases hot with
        | true => simp at h'
        | false =>
          obtain ⟨q1, q2, q3, q4, q5, q6, q7, q8⟩ := compPs ihs ihc ihe cx (by simpa using h')
          exact ok_comp q1 q2 q3 q4 (own_slots N tg) q5 q6 q7 q8
    · intros; rename_i h; exact noT h
    · intros; rename_i h; exact noT h
    · intros; rename_i h; exact noT h
    · intros; rename_i h; exact noT h
    · intros; rename_i h; exact noT h
  | app a y iha ihy =>
    refine ⟨?_, ?_, ?_, ?_, ?_, ?_⟩
    · intro hot sc X W Ξ cx e h
      match e, h with
      | .Call (.Attribute x m ap) [z] [] pos, h =>
        obtain ⟨h1, h6⟩ := and3 (show (decide (m = "append") && ck Γ N hot sc a x && ck Γ N hot sc y z && plainE z && isName x && (ap.endLine == pos.line)) = true from h)
        obtain ⟨h1, h5⟩ := and3 h1
        obtain ⟨h1, h4⟩ := and3 h1
        obtain ⟨h1, h3⟩ := and3 h1
        obtain ⟨h1, h2⟩ := and3 h1
        cases of_decide_eq_true h1
        cases x <;> first | (exact noT h5) | skip
        exact ok_app cx.kp (iha.e cx h2) (ihy.e cx h3) h4 rfl h6
    · intros; rename_i h; exact noT h
    · intros; rename_i h; exact noT h
    · intros; rename_i h; exact noT h
    · intros; rename_i h; exact noT h
    · intros; rename_i h; exact noT h
  | frz a iha =>
    refine ⟨?_, ?_, ?_, ?_, ?_, ?_⟩
    · intro hot sc X W Ξ cx e h
      exact ok_frz cx.kp (iha.e cx h)
    · intros; rename_i h; exact noT h
    · intros; rename_i h; exact noT h
    · intros; rename_i h; exact noT h
    · intros; rename_i h; exact noT h
    · intros; rename_i h; exact noT h
  | eget f =>
    refine ⟨?_, ?_, ?_, ?_, ?_, ?_⟩
    · intro hot sc X W Ξ cx e h
      match e, h with
      | .Attribute (.Name x p) n q, h =>
        obtain ⟨h1, h5⟩ := and3 (show (decide (Γ.eh = some x) && hot && decide (Γ.fl[f]? = some n) && visB sc x && okNm x) = true from h)
        obtain ⟨h1, h4⟩ := and3 h1
        obtain ⟨h1, h3⟩ := and3 h1
        obtain ⟨h1, h2⟩ := and3 h1
        exact cx.eg f x n p q h2 (of_decide_eq_true h1) (of_decide_eq_true h3) h4 h5
    · intros; rename_i h; exact noT h
    · intros; rename_i h; exact noT h
    · intros; rename_i h; exact noT h
    · intros; rename_i h; exact noT h
    · intros; rename_i h; exact noT h
  | rng a b iha ihb =>
    refine ⟨?_, ?_, ?_, ?_, ?_, ?_⟩
    · intros; rename_i h; exact noT h
    · intros; rename_i h; exact noT h
    · intros; rename_i h; exact noT h
    · intros; rename_i h; exact noT h
    · intros; rename_i h; exact noT h
    · intro hot sc X W Ξ cx e t h
      match e, h with
      | .Call (.Name x p) [y] [] pos, h =>
        obtain ⟨h1, h5⟩ := and3 (show (decide (x = "range") && glB sc x && (match (generalizing := false) a with | .con (.int 0) => true | _ => false) && ck Γ N hot sc b y && plainE y) = true from h)
        obtain ⟨h1, h4⟩ := and3 h1
        obtain ⟨h1, h3⟩ := and3 h1
        obtain ⟨h1, h2⟩ := and3 h1
        cases of_decide_eq_true h1
        split at h3
        · exact ok_rng1 cx.kp (gl_of cx.hsc h2) (cx.md.blt _ (by decide +kernel)) (ihb.e cx h4) h5
        · exact noT h3
      | .Call (.Name x p) [y, z] [] pos, h =>
        obtain ⟨h1, h6⟩ := and3 (show (decide (x = "range") && glB sc x && ck Γ N hot sc a y && ck Γ N hot sc b z && plainE y && plainE z) = true from h)
        obtain ⟨h1, h5⟩ := and3 h1
        obtain ⟨h1, h4⟩ := and3 h1
        obtain ⟨h1, h3⟩ := and3 h1
        obtain ⟨h1, h2⟩ := and3 h1
        cases of_decide_eq_true h1
        exact ok_rng2 cx.kp (gl_of cx.hsc h2) (cx.md.blt _ (by decide +kernel)) (iha.e cx h3) (ihb.e cx h4) h5 h6
  | enum a iha =>
    refine ⟨?_, ?_, ?_, ?_, ?_, ?_⟩
    · intros; rename_i h; exact noT h
    · intros; rename_i h; exact noT h
    · intros; rename_i h; exact noT h
    · intros; rename_i h; exact noT h
    · intros; rename_i h; exact noT h
    · intro hot sc X W Ξ cx e t h
      match e, h with
      | .Call (.Name x p) [y] [] pos, h =>
        obtain ⟨h1, h5⟩ := and3 (show (decide (x = "enumerate") && glB sc x && ck Γ N hot sc a y && plainE y && isTup t) = true from h)
        obtain ⟨h1, h4⟩ := and3 h1
        obtain ⟨h1, h3⟩ := and3 h1
        obtain ⟨h1, h2⟩ := and3 h1
        cases of_decide_eq_true h1
        cases t <;> first | (exact noT h5) | skip
        exact ok_enum cx.md.hK (gl_of cx.hsc h2) (cx.md.blt _ (by decide +kernel)) (iha.e cx h3) h4
  | zip a b iha ihb =>
    refine ⟨?_, ?_, ?_, ?_, ?_, ?_⟩
    · intros; rename_i h; exact noT h
    · intros; rename_i h; exact noT h
    · intros; rename_i h; exact noT h
    · intros; rename_i h; exact noT h
    · intros; rename_i h; exact noT h
    · intro hot sc X W Ξ cx e t h
      match e, h with
      | .Call (.Name x p) [y, z] [] pos, h =>
        obtain ⟨h1, h7⟩ := and3 (show (decide (x = "zip") && glB sc x && ck Γ N hot sc a y && ck Γ N hot sc b z && plainE y && plainE z && isTup t) = true from h)
        obtain ⟨h1, h6⟩ := and3 h1
        obtain ⟨h1, h5⟩ := and3 h1
        obtain ⟨h1, h4⟩ := and3 h1
        obtain ⟨h1, h3⟩ := and3 h1
        obtain ⟨h1, h2⟩ := and3 h1
        cases of_decide_eq_true h1
        cases t <;> first | (exact noT h7) | skip
        exact ok_zip cx.md.hK cx.kp (gl_of cx.hsc h2) (cx.md.blt _ (by decide +kernel)) (iha.e cx h3) (ihb.e cx h4) h5 h6
  | tst a iha =>
    refine ⟨?_, ?_, ?_, ?_, ?_, ?_⟩
    · intros; rename_i h; exact noT h
    · intros; rename_i h; exact noT h
    · intros; rename_i h; exact noT h
    · intro hot sc X W Ξ cx e h
      obtain ⟨h1, h2⟩ := and3 (show (ck Γ N hot sc a e && plainT e) = true from h)
      exact ok_tst cx.md.hK cx.kp (iha.e cx h1) (fun whole => true_of h2 whole)
    · intro hot sc X W Ξ cx op xs p h
      obtain ⟨h1, h2⟩ := and3 (show (ck Γ N hot sc a (.BoolOp op xs p) && plainT (.BoolOp op xs p)) = true from h)
      exact noT h2
    · intro hot sc X W Ξ cx e t h
      exact ok_it cx.md.hK (iha.e cx h)
  | tcmp o a b iha ihb =>
    refine ⟨?_, ?_, ?_, ?_, ?_, ?_⟩
    · intros; rename_i h; exact noT h
    · intros; rename_i h; exact noT h
    · intros; rename_i h; exact noT h
    · intro hot sc X W Ξ cx e h
      cases e with
      | Compare x ops ys p =>
        match ops, ys, h with
        | [op], [y], h =>
          obtain ⟨h1, h4⟩ := and3 (show (decide (op = cmpOf o) && ck Γ N hot sc a x && ck Γ N hot sc b y && noSet y) = true from h)
          obtain ⟨h1, h3⟩ := and3 h1
          obtain ⟨h1, h2⟩ := and3 h1
          cases of_decide_eq_true h1
          exact ok_tcmp cx.md.hK cx.un cx.kp (iha.e cx h2) (ihb.e cx h3) (mark_of h4)
        | [], _, h => exact noT h
        | [_], [], h => exact noT h
        | [_], _ :: _ :: _, h => exact noT h
        | _ :: _ :: _, _, h => exact noT h
      | _ => exact noT h
    · intros; rename_i h; exact noT h
    · intros; rename_i h; exact noT h
  | tchain o p a b c iha ihb ihc =>
    refine ⟨?_, ?_, ?_, ?_, ?_, ?_⟩
    · intros; rename_i h; exact noT h
    · intros; rename_i h; exact noT h
    · intros; rename_i h; exact noT h
    · intro hot sc X W Ξ cx e h
      cases e with
      | Compare x ops ys pp =>
        match ops, ys, h with
        | [o1, o2], [y, z], h =>
          obtain ⟨h1, h6⟩ := and3 (show (decide (o1 = cmpOf o) && decide (o2 = cmpOf p) && ck Γ N hot sc a x && ck Γ N hot sc b y && ck Γ N hot sc c z && noSet z) = true from h)
          obtain ⟨h1, h5⟩ := and3 h1
          obtain ⟨h1, h4⟩ := and3 h1
          obtain ⟨h1, h3⟩ := and3 h1
          obtain ⟨h1, h2⟩ := and3 h1
          cases of_decide_eq_true h1
          cases of_decide_eq_true h2
          exact ok_tchain cx.md.hK cx.un cx.kp (iha.e cx h3) (ihb.e cx h4) (ihc.e cx h5) (lastM h6)
        | [], _, h => exact noT h
        | [_], _, h => exact noT h
        | [_, _], [], h => exact noT h
        | [_, _], [_], h => exact noT h
        | [_, _], _ :: _ :: _ :: _, h => exact noT h
        | _ :: _ :: _ :: _, _, h => exact noT h
      | _ => exact noT h
    · intros; rename_i h; exact noT h
    · intros; rename_i h; exact noT h
  | _ =>
    refine ⟨?_, ?_, ?_, ?_, ?_, ?_⟩
    · intros; rename_i h; exact noT h
    · intros; rename_i h; exact noT h
    · intros; rename_i h; exact noT h
    · intros; rename_i h; exact noT h
    · intros; rename_i h; exact noT h
    · intros; rename_i h; exact noT h
end
end PV

namespace PV
open PySem L2 PyProof.Rows RZ

structure CxS (Γ : Sy) (T : Tb) (G : Gv) (N : List Str) (sc : Scope) (lv : Nat) (X : Cx) (W : WX) : Prop where
  cx : Cxt Γ T G false N sc lv X W X0
  po : PassesOwn (model X.prog X.w) X.A X.env X.xe
  fn : ∀ x, X.fn x = true
  stk : X.stack = X.env :: X.outer
  frm : X.env.frame = some X.env.locals
  kd : sc.kind = .function
theorem sw_no {t e : Expr} {l : Nat} {env : PySem.Env} (h : noComp e = true) : swapsWithSole [t] e l env = pure false := by
  cases e <;> first | rfl | cases h
theorem st_no {t e : Expr} {env : PySem.Env} (h : isTup e = false) : swappedStores [t] e env = pure none := by
  cases e <;> first | (cases t <;> rfl) | cases h
theorem st_nm {x : Str} {p : Pos} {e : Expr} {env : PySem.Env} : swappedStores [.Name x p] e env = pure none := by
  cases e <;> rfl
theorem st_sub {a b : Expr} {p : Pos} {e : Expr} {env : PySem.Env} : swappedStores [.Subscript a b p] e env = pure none := by
  cases e <;> rfl
theorem ae_tg {N : List Str} {ok : Str → Bool} {tg : Tg} {t : Expr} {env : PySem.Env} (h : ckTg N ok tg t = true) : (assignEach [t] env).map (·.2) = [assign t env] := by
  cases t <;> first | rfl | (cases tg <;> cases h)
theorem sw_cell {x : Str} {px : Pos} {e : Expr} {l : Nat} {env : PySem.Env} (h : env.scope.names.lookup x = some .cell) (hb : env.scope.kind = .function) : swapsWithSole [.Name x px] e l env = pure false := by
  have ky : env.kindOf x = some .cell := h
  have hk : env.blockKind = .function := by unfold Env.blockKind; rw [hb]; rfl
  cases e <;> first | rfl | (simp only [swapsWithSole, swapsWith, ky, hk]; rfl)
theorem st_par {x y : Str} {px py pt pt2 : Pos} {kt k2 : Nat} {a b : Expr} {env : PySem.Env} (hk : env.scope.kind = .function) (hx : env.scope.names.lookup x = some .local) (hy : env.scope.names.lookup y = some .local) (h : parOk [.Name x px, .Name y py] [a, b] = true) :
    swappedStores [.Tuple [.Name x px, .Name y py] kt pt] (.Tuple [a, b] k2 pt2) env = pure (some [x, y]) := by
  have h' : ((py.line == px.line) && !(x == y) && !([a, b].all (foldedForSure 8)) && !([a, b].all (constantsAlone 8)) && !([a, b].any fun e => match e with | .Starred _ _ => true | _ => false)) = true := h
  obtain ⟨h', h5⟩ := and3 h'
  obtain ⟨h', h4⟩ := and3 h'
  obtain ⟨h', h3⟩ := and3 h'
  obtain ⟨h1, h2⟩ := and3 h'
  have hb : env.blockKind = .function := by unfold Env.blockKind; rw [hk]; rfl
  have kx : env.kindOf x = some .local := hx
  have ky : env.kindOf y = some .local := hy
  have hne : x ≠ y := by simpa using h2
  have hl : py.line = px.line := by simpa using h1
  have h3' : ¬ ([a, b].all (foldedForSure 8) = true) := fun z => by rw [z] at h3; cases h3
  have h4' : ¬ ([a, b].all (constantsAlone 8) = true) := fun z => by rw [z] at h4; cases h4
  have h5' : ∀ p : Expr → Bool, (∀ e, p e = match e with | .Starred _ _ => true | _ => false) → ¬ ([a, b].any p = true) := fun p hp z => by
    rw [show p = (fun e => match e with | .Starred _ _ => true | _ => false) from funext hp] at z
    rw [z] at h5
    cases h5
  have e1 : ([x, y] : List Str).eraseDups = [x, y] := by
    have hyx : (y == x) = false := by simpa using hne.symm
    simp [List.eraseDups, List.eraseDupsBy, List.eraseDupsBy.loop, hyx]
  unfold swappedStores
  simp only [hb]
  refine (if_neg (by simp)).trans ?_
  refine (if_neg (h5' _ fun e => by cases e <;> rfl)).trans ?_
  simp only [List.filterMap_cons, List.filterMap_nil, kx, ky, hl, Expr.pos, List.head?_cons, Option.map_some, Option.getD_some, beq_self_eq_true, Bool.and_self, if_true, e1]
  refine (if_neg (by simp)).trans ?_
  refine (if_neg h3').trans ?_
  exact if_neg h4'
section
variable {Γ : Sy} {T : Tb} {G : Gv} {N : List Str} {sc : Scope} {lv : Nat} {X : Cx} {W : WX}
theorem CxS.tr (c : CxS Γ T G N sc lv X W) {W' : WX} {pn : List (Addr × Obj)} {xe : Value → Shared → Prop} (tk : Takes (X.tr pn xe) W') (po : PassesOwn (model X.prog X.w) X.A X.env xe) : CxS Γ T G N sc lv (X.tr pn xe) W' :=
  ⟨⟨c.cx.md, c.cx.hN, c.cx.nd, c.cx.hsc, c.cx.un, c.cx.gd, c.cx.cold, tk, kept0, fun _ _ _ _ _ z => nomatch z⟩, po, c.fn, c.stk, c.frm, c.kd⟩
theorem Cxt.suite (c : Cxt Γ T G false N sc lv X W X0) {i : Nat} {n : Str} (hi : N[i]? = some n) (k : Nat) (v : D) (a : Addr) (oe : Obj) (cls : Value) (d : Option Addr) (pn : List (Addr × Obj)) (hz : Zc cls d oe) (hf : ∃ vs, oe.data = .fields vs) :
    Cxt { Γ with eh := some n } T { G with cur := some (k, v) } true N sc lv (X.suite a ((a, oe) :: pn)) W0 (ΞH T k v a cls d i) := by
  have md := c.md
  refine ⟨⟨md.hK, md.fns, md.gls, md.gas, md.blt, md.ncn, md.exc, md.mks, md.sub, md.ef, md.fl, md.lv1⟩, c.hN, c.nd, c.hsc, c.un, c.gd, (fun z => nomatch z), takes0, keptH, fun f x m p q _ he hl hv hn => ?_⟩
  have ex : n = x := Option.some.inj he
  subst ex
  refine ok_eget md.ef (fun hk => ?_) hz hf (by rw [c.hN]; exact hi) (by rw [c.hsc]; exact vis_of hv) (nm_of hn).1 (nm_of hn).2 (md.fl f m hl).symm
  rw [md.ncn] at hk
  obtain ⟨_, h2, h3⟩ := md.exc k _ (List.getElem?_eq_getElem hk)
  exact ⟨h2, h3⟩
/-- raise C(e) -/
theorem mk_raise (c : Cxt Γ T G false N sc lv X W X0) {k : Nat} {x : Str} {p q : Pos} {e : Expr} {y : C} (hk : Γ.cn[k]? = some x) (hm : Γ.mkb[k]? = some true) (hg : glB sc x = true) (hn : okNm x = true) (he : PE X e (tEv T W X0 (ev G y))) (hp : plainE e = true) :
    PMk X (.Call (.Name x p) [e] [] q) (tMkX T k (tEv T W X0 (ev G y))) := by
  have md := c.md
  obtain ⟨o, fI, fd, ps, i1, i2, F, hb⟩ := md.mks k hm
  obtain ⟨hmg, _, _⟩ := md.exc k x hk
  have e1 : starEach [e] X.env = (false, eval e X.env) :: starEach [] X.env := star_plain hp
  have key := pmk_oex (pos := q) (p := p) o i1 i2 F ((c.cold rfl).2.mono md.lv1) hb .nil pass0 (gl_of c.hsc hg) hmg (pa_cons he pa_nil e1) (nm_of hn).1 e1 rfl
  intro pins s σ H Q I h
  refine key pins s σ H Q I (tEv.imp h fun v H1 q => ⟨by simp, fun a ha => ⟨a, v, rfl, upd_same, fun d hd hda => ⟨rfl, d, [(T.fld (T.ef k), v)], upd_same, ?_, ?_, ?_⟩⟩⟩)
  · rw [upd_ne hda, upd_same]
  · rw [upd_ne hda] at hd
    exact hd
  · have hd1 : H1 d = none := by
      rw [upd_ne hda] at hd
      exact hd
    have e2 : upd (del (upd (upd (upd H1 a (exo a (T.cls k) none)) d (exd d [(T.fld (T.ef k), v)])) a (exo a (T.cls k) (some d))) a) d (.xd [(T.fld (T.ef k), v)]) = upd H1 d (.xd [(T.fld (T.ef k), v)]) := by
      funext b
      by_cases hb : b = d
      · subst hb
        rw [upd_same, upd_same]
      · rw [upd_ne hb, upd_ne hb]
        by_cases hba : b = a
        · subst hba
          rw [del_same, ha]
        · rw [del_ne hba, upd_ne hba, upd_ne hb, upd_ne hba]
    rw [e2]
    exact q d hd1
end
end PV

namespace PV
open PySem L2 PyProof.Rows RZ

structure OkS (Γ : Sy) (T : Tb) (G : Gv) (N : List Str) (lv : Nat) (c : C) : Prop where
  s : ∀ {sc X W}, CxS Γ T G N sc lv X W → ∀ {st : Stmt}, ckS Γ N sc c st = true → PS X st (tSt T W (ex G c))
  b : ∀ {sc X W}, CxS Γ T G N sc lv X W → ∀ {sts : List Stmt}, ckSs Γ N sc c sts = true → PSs X sts (tSt T W (ex G c))
section
variable {Γ : Sy} {T : Tb} {G : Gv} {N : List Str} {sc : Scope} {lv : Nat} {X : Cx} {W : WX}
theorem CxS.tg (c : CxS Γ T G N sc lv X W) {tg : Tg} {t : Expr} (h : ckTg N (locB sc) tg t = true) : PG X t (tTg T tg) :=
  tg_ok (X' := X) (ok := locB sc) c.cx.md.hK (c.cx.cold rfl).1 c.cx.hN c.cx.nd (fun x hx => ⟨by rw [c.cx.hsc]; exact loc_of hx, .inl (c.fn x)⟩) h
theorem as_sub {a b : Expr} {p : Pos} {env : PySem.Env} (h : isSlice b = false) (v : Value) : assign (.Subscript a b p) env v = (do
      let ov ← holding [v] (eval a env)
      let iv ← holding [v, ov] (eval b env)
      standAt p
      holding [v, ov, iv] (setItem ov iv v)
      release [v, ov, iv] []) := by
  cases b <;> first | rfl | cases h
theorem cks2 {hot : Bool} {ys : C} {a b : Expr} (h : cks Γ N hot sc ys [a, b] = true) : ∃ p q, ys = .cons p (.cons q .nil) := by
  cases ys <;> first | (exact noT h) | skip
  rename_i p r
  have h' := (and3 (and3 (show (ck Γ N hot sc p a && cks Γ N hot sc r [b] && plainE a) = true from h)).1).2
  cases r <;> first | (exact noT h') | skip
  rename_i q r
  have h2 := (and3 (and3 (show (ck Γ N hot sc q b && cks Γ N hot sc r [] && plainE b) = true from h')).1).2
  cases r <;> first | (exact noT h2) | skip
  exact ⟨p, q, rfl⟩
theorem inv_comp {m : Bool} {tg : Tg} {src cnd el : C} {e : Expr} (h : ck Γ N false sc (.comp m tg src cnd el) e = true) : ∃ x t it ifs scope p, e = .ListComp x [⟨t, it, ifs, 0⟩] scope p := by
  match e, h with
  | .ListComp x [⟨t, it, ifs, 0⟩] scope p, h => exact ⟨x, t, it, ifs, scope, p, rfl⟩
theorem s_set (c : CxS Γ T G N sc lv X W) {tg : Tg} {y : C} {st : Stmt} (h : ckS Γ N sc (.set tg y) st = true) : PS X st (tSt T W (ex G (.set tg y))) := by
  have cx := c.cx
  have oy := okC Γ T G N lv y
  cases st <;> first | (exact noT h) | skip
  rename_i ts e pos
  cases ts with
  | nil => exact noT h
  | cons t ts =>
    cases ts with
    | cons _ _ => exact noT h
    | nil =>
    by_cases hlc : ∃ x gs scope lp, e = .ListComp x gs scope lp
    · obtain ⟨x, gs, scope, lp, rfl⟩ := hlc
      cases tg with
      | tup _ => exact noT h
      | one i =>
        cases t <;> first | (exact noT h) | skip
        rename_i n px
        obtain ⟨h1, h3⟩ := and3 (show (decide (N[i]? = some n) && ck Γ N false sc y (.ListComp x gs scope lp) && (if lcl sc n then (px.line == lp.line) && !(scope.names.any fun (m, k) => m == n && (k == .local || k == .cell)) && isComp y else locB sc n)) = true from h)
        obtain ⟨h1, h2⟩ := and3 h1
        have hi := of_decide_eq_true h1
        by_cases hl : lcl sc n = true
        · rw [if_pos hl] at h3
          obtain ⟨h31, h5⟩ := and3 h3
          obtain ⟨h32, h4⟩ := and3 h31
          obtain ⟨m, tg2, src, cnd, el, rfl⟩ : ∃ m tg2 src cnd el, y = .comp m tg2 src cnd el := by
            cases y <;> first | (exact noT h5) | (exact ⟨_, _, _, _, _, rfl⟩)
          obtain ⟨_, t2, it, ifs, _, _, ee⟩ := inv_comp h2
          cases ee
          · have h2' : (blkC N sc scope (ownOf N tg2) && ckTg N (locB scope) tg2 t2 && ckI Γ N false sc src it t2 && noSet it && (match (generalizing := false) ifs with | [] => isNil cnd | [y] => ckT Γ N false (relS scope sc) cnd y | _ => false) && ck Γ N false (relS scope sc) el x) = true := h2
            obtain ⟨q1, q2, q3, q4, q5, q6, q7, q8⟩ := compPs (okC Γ T G N lv src) (okC Γ T G N lv cnd) (okC Γ T G N lv el) cx h2'
            have hkd : X.env.scope.kind = .function := by rw [cx.hsc]; exact c.kd
            have hnl : X.env.scope.names.lookup n = some .local := by rw [cx.hsc]; exact lcl_of hl
            exact ok_setC (ok_setComp q1 q2 (by rw [cx.hN]; exact hi) hnl (sw_true hkd hnl h32 (by simpa using h4)) q3 q4 (own_slots N tg2) q5 q6 q7 q8)
        · rw [if_neg hl] at h3
          have htg : ckTg N (locB sc) (.one i) (.Name n px) = true := by
            show (decide (N[i]? = some n) && locB sc n) = true
            rw [h1, h3]
            rfl
          have hcell : X.env.scope.names.lookup n = some .cell := by
            rw [cx.hsc]
            rcases loc_of h3 with q | q
            · exfalso
              apply hl
              unfold lcl
              rw [q]
            · exact q
          exact ok_set (oy.e cx h2) (c.tg htg) (sw_cell hcell (by rw [cx.hsc]; exact c.kd)) st_nm rfl
    · by_cases htu : ∃ vs k p, e = .Tuple vs k p
      · obtain ⟨vs, k, p, rfl⟩ := htu
        by_cases hnm : ∃ n px, t = .Name n px
        · obtain ⟨n, px, rfl⟩ := hnm
          have h' : (ckTg N (locB sc) tg (.Name n px) && ck Γ N false sc y (.Tuple vs k p)) = true := by
            cases tg <;> exact h
          obtain ⟨h1, h2⟩ := and3 h'
          exact ok_set (oy.e cx h2) (c.tg h1) (sw_no rfl) st_nm rfl
        · cases tg with
          | one _ => cases t <;> first | (exact absurd ⟨_, _, rfl⟩ hnm) | (exact noT h)
          | tup is =>
            cases t <;> first | (exact absurd ⟨_, _, rfl⟩ hnm) | (exact noT h) | skip
            rename_i es kt pt
            obtain ⟨ha, h4⟩ := and3 (show (isNm2 N sc is es && parOk es vs && ck Γ N false sc y (.Tuple vs k p) && isTupC y) = true from h)
            obtain ⟨hb, h3⟩ := and3 ha
            obtain ⟨h1, h2⟩ := and3 hb
            obtain ⟨ys, rfl⟩ : ∃ ys, y = .tup ys := by
              cases y <;> first | (exact noT h4) | (exact ⟨_, rfl⟩)
            cases is with
            | nil => exact noT h1
            | cons i is =>
            cases is with
            | nil => exact noT h1
            | cons j is =>
            cases is with
            | cons _ _ => exact noT h1
            | nil =>
            cases es with
            | nil => exact noT h1
            | cons e1 es =>
            cases es with
            | nil => cases e1 <;> exact noT h1
            | cons e2 es =>
            cases es with
            | cons _ _ => cases e1 <;> first | (exact noT h1) | (cases e2 <;> exact noT h1)
            | nil =>
              obtain ⟨x, px, rfl⟩ : ∃ x px, e1 = .Name x px := by
                cases e1 <;> first | (exact noT h1) | (exact ⟨_, _, rfl⟩)
              obtain ⟨z, pz, rfl⟩ : ∃ x px, e2 = .Name x px := by
                cases e2 <;> first | (exact noT h1) | (exact ⟨_, _, rfl⟩)
              obtain ⟨hd, g5⟩ := and3 (show (decide (N[i]? = some x) && decide (N[j]? = some z) && decide (i ≠ j) && lcl sc x && lcl sc z) = true from h1)
              obtain ⟨he, g4⟩ := and3 hd
              obtain ⟨hf, g3⟩ := and3 he
              obtain ⟨g1, g2⟩ := and3 hf
              cases vs with
              | nil => exact noT h2
              | cons a vs =>
              cases vs with
              | nil => exact noT h2
              | cons b vs =>
              cases vs with
              | cons _ _ => exact noT h2
              | nil =>
                have h3' : cks Γ N false sc ys [a, b] = true := h3
                have pa := (okC Γ T G N lv ys).s cx h3'
                obtain ⟨p1, p2, rfl⟩ := cks2 h3'
                have hx : X.env.scope.names.lookup x = some .local := by rw [cx.hsc]; exact lcl_of g4
                have hz : X.env.scope.names.lookup z = some .local := by rw [cx.hsc]; exact lcl_of g5
                exact ok_par (cx.cold rfl).1 (by rw [cx.hN]; exact cx.nd) (by rw [cx.hN]; exact of_decide_eq_true g1) (by rw [cx.hN]; exact of_decide_eq_true g2) (of_decide_eq_true g3) hx hz pa (st_par (by rw [cx.hsc]; exact c.kd) hx hz h2) (sw_no rfl)
      · have h' : (ckTg N (locB sc) tg t && ck Γ N false sc y e && noComp e) = true := by
          cases e <;> first | exact h | exact absurd ⟨_, _, _, _, rfl⟩ hlc | exact absurd ⟨_, _, _, rfl⟩ htu
        obtain ⟨h1, h3⟩ := and3 h'
        obtain ⟨h1, h2⟩ := and3 h1
        have hnt : isTup e = false := by
          cases e <;> first | rfl | exact absurd ⟨_, _, _, rfl⟩ htu
        exact ok_set (oy.e cx h2) (c.tg h1) (sw_no h3) (st_no hnt) (ae_tg h1)
theorem inv_raise {k : Nat} {e : C} {st : Stmt} (h : ckS Γ N sc (.raise_ k e) st = true) : ∃ x p y q pos, st = .Raise (some (.Call (.Name x p) [y] [] q)) none pos := by
  cases st <;> first | (exact noT h) | skip
  rename_i a b pos
  cases a with
  | none => exact noT h
  | some a =>
  cases a <;> first | (exact noT h) | skip
  rename_i f as ks q
  cases f <;> first | (exact noT h) | skip
  rename_i x p
  cases as with
  | nil => exact noT h
  | cons y as =>
  cases as with
  | cons _ _ => exact noT h
  | nil =>
  cases ks with
  | cons _ _ => exact noT h
  | nil =>
  cases b with
  | some _ => exact noT h
  | none => exact ⟨x, p, y, q, pos, rfl⟩
theorem inv_try {b y : C} {k i : Nat} {st : Stmt} (h : ckS Γ N sc (.try_ b k i y) st = true) : ∃ body x np n he rp ep pos, st = .Try body [.ExceptHandler (some (.Name x np)) (some n) [.Return (some he) rp] ep] [] [] pos := by
  cases st <;> first | (exact noT h) | skip
  rename_i body hs els fin pos
  cases hs with
  | nil => exact noT h
  | cons hd hs =>
  cases hd with
  | ExceptHandler ty nm hb ep =>
  cases ty with
  | none => exact noT h
  | some ty =>
  cases ty <;> first | (exact noT h) | skip
  rename_i x np
  cases nm with
  | none => exact noT h
  | some n =>
  cases hb with
  | nil => exact noT h
  | cons s0 hb =>
  cases s0 <;> first | (exact noT h) | skip
  rename_i rv rp
  cases rv with
  | none => exact noT h
  | some he =>
  cases hb with
  | cons _ _ => exact noT h
  | nil =>
  cases hs with
  | cons _ _ => exact noT h
  | nil =>
  cases els with
  | cons _ _ => exact noT h
  | nil =>
  cases fin with
  | cons _ _ => exact noT h
  | nil => exact ⟨body, x, np, n, he, rp, ep, pos, rfl⟩
theorem okS (Γ : Sy) (T : Tb) (G : Gv) (N : List Str) (lv : Nat) (c : C) : OkS Γ T G N lv c := by
  induction c with
  | nil =>
    refine ⟨?_, ?_⟩
    · intros; rename_i h; exact noT h
    · intro sc X W c sts h
      cases sts with
      | nil => exact ok_sNil
      | cons _ _ => exact noT h
  | cons a b iha ihb =>
    refine ⟨?_, ?_⟩
    · intros; rename_i h; exact noT h
    · intro sc X W c sts h
      by_cases hf : isFrz a = true
      · cases a <;> first | (exact noT hf) | skip
        exact ok_frzV (ihb.b c h)
      · have h' : (match (generalizing := false) sts with | st :: sts => ckS Γ N sc a st && ckSs Γ N sc b sts | [] => false) = true := by
          have q : (if isFrz a then ckSs Γ N sc b sts else match (generalizing := false) sts with | st :: sts => ckS Γ N sc a st && ckSs Γ N sc b sts | [] => false) = true := h
          rw [if_neg hf] at q
          exact q
        cases sts with
        | nil => exact noT h'
        | cons st sts =>
          obtain ⟨h1, h2⟩ := and3 (show (ckS Γ N sc a st && ckSs Γ N sc b sts) = true from h')
          exact ok_sCons (fun i e => hf (by rw [e]; rfl)) (iha.s c h1) (ihb.b c h2)
  | set tg y _ =>
    refine ⟨?_, ?_⟩
    · intro sc X W c st h
      exact s_set c h
    · intros; rename_i h; exact noT h
  | stI a i e _ _ _ =>
    refine ⟨?_, ?_⟩
    · intro sc X W c st h
      cases st <;> first | (exact noT h) | skip
      rename_i ts z pos
      cases ts with
      | nil => exact noT h
      | cons t ts =>
      cases ts with
      | cons _ _ => cases t <;> exact noT h
      | nil =>
        cases t <;> first | (exact noT h) | skip
        rename_i x y p
        obtain ⟨h1, h5⟩ := and3 (show (!isSlice y && ck Γ N false sc a x && ck Γ N false sc i y && ck Γ N false sc e z && noComp z) = true from h)
        obtain ⟨h1, h4⟩ := and3 h1
        obtain ⟨h1, h3⟩ := and3 h1
        obtain ⟨h1, h2⟩ := and3 h1
        exact ok_stI ((okC Γ T G N lv a).e c.cx h2) ((okC Γ T G N lv i).e c.cx h3) ((okC Γ T G N lv e).e c.cx h4) (sw_no h5) st_sub rfl (fun v => as_sub (by simpa using h1) v)
    · intros; rename_i h; exact noT h
  | expr y _ =>
    refine ⟨?_, ?_⟩
    · intro sc X W c st h
      cases st <;> first | (exact noT h) | skip
      · rename_i e pos
        obtain ⟨h1, h2⟩ := and3 (show (ck Γ N false sc y e && noComp e) = true from h)
        exact ok_expr ((okC Γ T G N lv y).e c.cx h1) (by cases e <;> first | rfl | cases h2)
    · intros; rename_i h; exact noT h
  | ret y _ =>
    refine ⟨?_, ?_⟩
    · intro sc X W c st h
      cases st <;> first | (exact noT h) | skip
      rename_i v pos
      cases v with
      | none => exact noT h
      | some e => exact ok_ret ((okC Γ T G N lv y).e c.cx h)
    · intros; rename_i h; exact noT h
  | retN =>
    refine ⟨?_, ?_⟩
    · intro sc X W c st h
      cases st <;> first | (exact noT h) | skip
      rename_i v pos
      cases v with
      | some e => exact noT h
      | none => exact ok_retN
    · intros; rename_i h; exact noT h
  | ifs t a b _ iha ihb =>
    refine ⟨?_, ?_⟩
    · intro sc X W c st h
      cases st <;> first | (exact noT h) | skip
      · rename_i x sa sb pos
        obtain ⟨h1, h3⟩ := and3 (show (ckT Γ N false sc t x && ckSs Γ N sc a sa && ckSs Γ N sc b sb) = true from h)
        obtain ⟨h1, h2⟩ := and3 h1
        exact ok_if ((okC Γ T G N lv t).t c.cx h1) (iha.b c h2) (ihb.b c h3)
    · intros; rename_i h; exact noT h
  | for_ tg src b _ ihb =>
    refine ⟨?_, ?_⟩
    · intro sc X W c st h
      cases st <;> first | (exact noT h) | skip
      rename_i t it body els pos
      cases els with
      | cons _ _ => exact noT h
      | nil =>
        obtain ⟨h1, h4⟩ := and3 (show (ckTg N (locB sc) tg t && ckI Γ N false sc src it t && noSet it && ckSs Γ N sc b body) = true from h)
        obtain ⟨h1, h3⟩ := and3 h1
        obtain ⟨h1, h2⟩ := and3 h1
        exact ok_for c.po (c.cx.cold rfl).1 ((okC Γ T G N lv src).i c.cx h2) (c.tg h1) (ihb.b c h4) (fun x => fold_of h3 x)
    · intros; rename_i h; exact noT h
  | while_ t b _ ihb =>
    refine ⟨?_, ?_⟩
    · intro sc X W c st h
      cases st <;> first | (exact noT h) | skip
      rename_i x body els pos
      cases els with
      | cons _ _ => exact noT h
      | nil =>
        obtain ⟨h1, h2⟩ := and3 (show (ckT Γ N false sc t x && ckSs Γ N sc b body) = true from h)
        exact ok_while c.po ((okC Γ T G N lv t).t c.cx h1) (ihb.b c h2)
    · intros; rename_i h; exact noT h
  | raise_ k e _ =>
    refine ⟨?_, ?_⟩
    · intro sc X W c st h
      obtain ⟨x, p, y, q, pos, rfl⟩ := inv_raise h
      · skip
        obtain ⟨h1, h6⟩ := and3 (show (decide (Γ.cn[k]? = some x) && decide (Γ.mkb[k]? = some true) && glB sc x && okNm x && ck Γ N false sc e y && plainE y) = true from h)
        obtain ⟨h1, h5⟩ := and3 h1
        obtain ⟨h1, h4⟩ := and3 h1
        obtain ⟨h1, h3⟩ := and3 h1
        obtain ⟨h1, h2⟩ := and3 h1
        have hk := of_decide_eq_true h1
        exact ok_raise (by rw [c.cx.md.ncn]; exact (List.getElem?_eq_some_iff.mp hk).1) (c.cx.cold rfl).1 c.cx.tk (mk_raise c.cx hk (of_decide_eq_true h2) h3 h4 ((okC Γ T G N lv e).e c.cx h5) h6)
    · intros; rename_i h; exact noT h
  | try_ b k i y ihb _ =>
    refine ⟨?_, ?_⟩
    · intro sc X W c st h
      obtain ⟨body, x, np, n, he, rp, ep, pos, rfl⟩ := inv_try h
      · skip
        obtain ⟨h1, h7⟩ := and3 (show (decide (Γ.cn[k]? = some x) && glB sc x && okNm x && decide (N[i]? = some n) && lcl sc n && ckSs Γ N sc b body && ck { Γ with eh := some n } N true sc y he) = true from h)
        obtain ⟨h1, h6⟩ := and3 h1
        obtain ⟨h1, h5⟩ := and3 h1
        obtain ⟨h1, h4⟩ := and3 h1
        obtain ⟨h1, h3⟩ := and3 h1
        obtain ⟨h1, h2⟩ := and3 h1
        have hk := of_decide_eq_true h1
        have hi := of_decide_eq_true h4
        obtain ⟨hmg, _, _⟩ := c.cx.md.exc k x hk
        have hkn : k < T.nc := by rw [c.cx.md.ncn]; exact (List.getElem?_eq_some_iff.mp hk).1
        refine ok_try c.stk c.frm (by rw [c.cx.hN]; exact c.cx.nd) (by rw [c.cx.hN]; exact hi) (by show X.env.scope.names.lookup n = _; rw [c.cx.hsc]; exact lcl_of h5) ⟨gl_of c.cx.hsc h2, (nm_of h3).1, .inl hmg⟩ c.cx.tk (fun j hj => c.cx.md.sub j k hj hkn)
          (fun W' pn xe tk po => ihb.b (c.tr tk po) h6) fun j v a oe cls d pn hz hf => (okC _ T _ N lv y).e (c.cx.suite hi j v a oe cls d pn hz hf) h7
    · intros; rename_i h; exact noT h
  | pass =>
    refine ⟨?_, ?_⟩
    · intro sc X W c st h
      cases st <;> first | (exact noT h) | skip
      exact ok_pass
    · intros; rename_i h; exact noT h
  | brk =>
    refine ⟨?_, ?_⟩
    · intro sc X W c st h
      cases st <;> first | (exact noT h) | skip
      exact ok_brk
    · intros; rename_i h; exact noT h
  | cnt =>
    refine ⟨?_, ?_⟩
    · intro sc X W c st h
      cases st <;> first | (exact noT h) | skip
      exact ok_cnt
    · intros; rename_i h; exact noT h
  | _ =>
    refine ⟨?_, ?_⟩
    · intros; rename_i h; exact noT h
    · intros; rename_i h; exact noT h
end
end PV

namespace PV
open PySem L2 PyProof.Rows RZ

section
variable {X : Cx} {e : Expr} {es : List Expr} {ta : TA} {p1 p2 pos : Pos}
theorem pe_skyinit {x : Str} {Sk : Addr} {mc : Value} {pl : Sem Bool} (hg : Gl X x) (hm : X.mg x = some (.ref Sk)) (r : ClX.CRead X.K Sk mc) (hv : PySem.W.findCls X.K (.ref Sk) mc "__init__" = some (.val (.builtin "ValueError.__init__"))) (ha : PA X (e :: es) ta) (hdb : (x == ("__debug__" : Str)) = false)
    (hc : eval (.Call (.Attribute (.Name x p1) "__init__" p2) (e :: es) [] pos) X.env = (do
      let ov ← eval (.Name x p1) X.env
      standAt p2.atName
      let (f, first) ← holding [ov] (getMethod ov "__init__" pl)
      callWith pos f first (backTo pos (starEach (e :: es) X.env)) (backToKw pos (keywordEach [] X.env))))
    (he : starEach (e :: es) X.env = (false, eval e X.env) :: starEach es X.env) (hpl : (backTo pos (starEach es X.env)).any (·.1) = false) :
    PE X (.Call (.Attribute (.Name x p1) "__init__" p2) (e :: es) [] pos) (tVeI X.K ta) := by
  refine ⟨fun pins s σ H Q I h => ?_⟩
  refine PySem.W.methodCall_KW (ld_glob I hg hm ?_ hdb) hc
  refine PySem.W.method_cls I.kIn r.ga (PySem.W.cls_value I.kIn r.rd hv (by decide +kernel) ?_)
  show wpAny _ _ (callWith pos (Value.builtin "ValueError.__init__") [] (backTo pos (starEach (e :: es) X.env)) []) _ _ _
  refine PyProof.Rows.callWith_method1 (thn (ha.run pos pins _ σ H _ (I.tok _) h) fun us s1 ⟨vs, H1, I1, r1, a, C, ws, ev, hl, T, ea, q⟩ => ?_) he hpl
  subst ev
  cases r1 with
  | @cons _ u0 _ ur ra rw' =>
    obtain rfl : u0 = Value.ref a := ra
    have hlen : ur.length ≤ sizeLine := by
      rw [← Paired.length rw', sizeLine_eq]
      omega
    exact oinit_ok T I1 ea hlen fun s' J => ⟨.non, H1, J, rfl, q⟩
end
/-- the text of an error's __init__ -/
def initB (sk f p txt : Str) (k : Nat) (a1 a2 a3 a4 a5 a6 a7 a8 a9 a10 : Pos) : List Stmt :=
  [.Expr (.Call (.Attribute (.Name sk a1) "__init__" a2) [.Name "self" a3, .Constant (.str txt) k a4] [] a5) a6, .Assign [.Attribute (.Name "self" a7) f a8] (.Name p a9) a10]
theorem init_ok {P : Program} {wl : World} {K : PySem.W.Frag} {mg : Str → Option Value} {base : Heap} {fI Ca Sk : Addr} {fd : FuncData} {mc : Value} {qual sk f p txt : Str} {k : Nat} {a1 a2 a3 a4 a5 a6 a7 a8 a9 a10 : Pos} {st : Stmt}
    (F : Fun K "__init__" qual st fI fd) (S : FnScope ["self", p] ["self", p] (defScope st)) (hb : defBody st = initB sk f p txt k a1 a2 a3 a4 a5 a6 a7 a8 a9 a10)
    (h0 : (defScope st).names.lookup (PySem.Str.ofString "self") = some .local) (h1 : (defScope st).names.lookup p = some .local) (h2 : (defScope st).names.lookup sk = some .globalImplicit) (hp : okNm p = true) (hs : okNm sk = true)
    (o : OexC K Ca) (nf : PySem.W.findIn K (.ref Ca) f = some none) (hm : mg sk = some (.ref Sk)) (r : ClX.CRead K Sk mc) (hv : PySem.W.findCls K (.ref Sk) mc "__init__" = some (.val (.builtin "ValueError.__init__")))
    (hc : ∀ env : PySem.Env, ∃ pl : Sem Bool, eval (.Call (.Attribute (.Name sk a1) "__init__" a2) [.Name "self" a3, .Constant (.str txt) k a4] [] a5) env = (do
      let ov ← eval (.Name sk a1) env
      standAt a2.atName
      let (f, first) ← holding [ov] (getMethod ov "__init__" pl)
      callWith a5 f first (backTo a5 (starEach [.Name "self" a3, .Constant (.str txt) k a4] env)) (backToKw a5 (keywordEach [] env)))) :
    FnOk P wl K mg base CX0 1 fI fd ["self", p] (spI Ca f) := by
  refine F.ok S (fun vs H Q E h => ?_) (fun cdv A outer s H vs Q E hr h => ?_)
  · obtain ⟨a, v, rfl, _⟩ := h
    rfl
  · obtain ⟨a, v, rfl, ha, q⟩ := h
    rw [hb]
    have nd := S.nd
    have v0 : PE (cxOf CX0 P wl K mg base ["self", p] qual (defScope st) fI cdv A outer s H E).nox (.Name "self" a3) (tVar 0) := pe_var rfl (.inl h0) (by decide) (by decide)
    have v0' : PE (cxOf CX0 P wl K mg base ["self", p] qual (defScope st) fI cdv A outer s H E).nox (.Name "self" a7) (tVar 0) := pe_var rfl (.inl h0) (by decide) (by decide)
    have v1 : PE (cxOf CX0 P wl K mg base ["self", p] qual (defScope st) fI cdv A outer s H E).nox (.Name p a9) (tVar 1) := pe_var rfl (.inl h1) (nm_of hp).1 (nm_of hp).2
    obtain ⟨pl, hc⟩ := hc (cxOf CX0 P wl K mg base ["self", p] qual (defScope st) fI cdv A outer s H E).nox.env
    refine ⟨_, pss_cons (ps_expr (pe_skyinit (pl := pl) h2 hm r hv (pa_cons v0 (pa_cons pe_str pa_nil rfl) rfl) (nm_of hs).1 hc rfl rfl) rfl) (pss_one (ps_ost v0' v1 rfl)), ?_⟩
    refine ⟨_, rfl, a, Ca, [.str txt], rfl, by simp, o, ha, _, rfl, _, rfl, a, Ca, rfl, o, nf, .inl ⟨ha, fun d hd hda => q d hd hda⟩⟩
end PV

namespace PV
open PySem L2 PyProof.Rows RZ

def startD (k : Nat) (ds : List D) : Env := ds.map some ++ List.replicate (k - ds.length) none
/-- a text: its defs' bodies and what they ask -/
structure Pg where
  code : Nat → C
  nv : Nat → Nat
  np : Nat → Nat
  gl : Nat → D
  fu : Nat
  sub : Nat → Nat → Bool
  ef : Nat → Nat
def Pg.gv (p : Pg) (cal : Nat → List D → Store → R D) : Gv := ⟨cal, p.gl, p.fu, p.sub, p.ef, none⟩
def outR : RS → R D
  | .nx _ S => .ok .non S
  | .rt d S => .ok d S
  | .ex c v _ S => .ex c v S
  | _ => .stuck
def Pg.cal (p : Pg) : Nat → Nat → List D → Store → R D
  | 0, _, _, _ => .stuck
  | d + 1, f, ds, S => if ds.length = p.np f then outR (ex (p.gv (p.cal d)) (p.code f) (startD (p.nv f) ds) S) else .stuck
structure Hd (Γ : Sy) (T : Tb) (p : Pg) (P : Program) (wl : World) (K : PySem.W.Frag) (mg : Str → Option Value) (base : Heap) : Prop where
  hK : K = T.K
  fns : ∀ (n : Nat) (x : Str), Γ.fn[n]? = some x → ∃ (f : Addr) (fd : FuncData) (ps : List Str) (st : Stmt) (N : List Str), mg x = some (.ref f) ∧ PySem.W.keepIn K (.ref f) = true ∧ Binds K fd ps [] ∧ Fun K x x st f fd ∧ FnScope N ps (defScope st) ∧ ps.length = p.np n ∧ N.length = p.nv n ∧ ckSs Γ N (defScope st) (p.code n) (defBody st) = true
  gls : ∀ (g : Nat) (x : Str), Γ.gn[g]? = some x → ∃ (v : V) (u : Value), mg x = some u ∧ RelV v u ∧ ∀ w, Rep T w (p.gl g) v
  gas : ∀ (g : Nat) (x f : Str), Γ.ga g = some (x, f) → ∃ (Ca : Addr) (mc : Value) (v : V) (u : Value), mg x = some (.ref Ca) ∧ ClX.CRead K Ca mc ∧ ClX.CVal K Ca mc f v u ∧ ∀ w, Rep T w (p.gl g) v
  blt : ∀ x, x ∈ bltNames → mg x = none
  ncn : T.nc = Γ.cn.length
  exc : ∀ (k : Nat) (x : Str), Γ.cn[k]? = some x → mg x = some (.ref (T.cls k)) ∧ XfC K (T.cls k) ∧ PySem.W.findIn K (.ref (T.cls k)) (T.fld (T.ef k)) = some none
  mks : ∀ (k : Nat), Γ.mkb[k]? = some true → OexC K (T.cls k) ∧ ∃ (fI : Addr) (fd : FuncData) (ps : List Str), PySem.W.findIn K (.ref (T.cls k)) "__init__" = some (some (.ref fI)) ∧ PySem.W.typeIn K (.ref fI) = some (.type "function") ∧ FnOk P wl K mg base CX0 1 fI fd ps (spI (T.cls k) (T.fld (T.ef k))) ∧ Binds K fd ps []
  sub : ∀ k x, k < T.nc → x < T.nc → PySem.W.exmOne K (.ref (T.cls k)) (.ref (T.cls x)) = some (p.sub k x)
  ef : p.ef = T.ef
  fl : ∀ (f : Nat) (n : Str), Γ.fl[f]? = some n → T.fld f = n
section
variable {Γ : Sy} {T : Tb} {p : Pg} {P : Program} {wl : World} {K : PySem.W.Frag} {mg : Str → Option Value} {base : Heap}
theorem env_start {w : Wo} {k : Nat} {N : List Str} {ds : List D} {vs : List V} (rs : Reps T w ds vs) (hk : N.length = k) : EnvOk T w (startD k ds) (L2.start N vs) := by
  have hl := rs.len
  refine ⟨?_, fun i d e => ?_⟩
  · unfold startD L2.start
    rw [List.length_append, List.length_append, List.length_map, List.length_map, List.length_replicate, List.length_replicate, hl, hk]
  · unfold startD at e
    by_cases hi : i < ds.length
    · rw [List.getElem?_append_left (by simpa using hi), List.getElem?_map] at e
      cases hd : ds[i]? with
      | none => rw [hd] at e; cases e
      | some d' =>
        rw [hd] at e
        cases e
        obtain ⟨v, hv, r⟩ := rs.get hd
        refine ⟨v, ?_, r⟩
        unfold L2.start
        rw [List.getElem?_append_left (by rw [List.length_map, ← hl]; exact hi), List.getElem?_map, hv]
        rfl
    · rw [List.getElem?_append_right (by rw [List.length_map]; omega), List.getElem?_replicate] at e
      split at e <;> cases e
theorem cal_len' {d n : Nat} {ds : List D} {S : Store} (h : p.cal d n ds S ≠ .stuck) : ds.length = p.np n := by
  cases d with
  | zero => exact absurd rfl h
  | succ d =>
    by_cases hl : ds.length = p.np n
    · exact hl
    · exact absurd (if_neg hl) h
/-- every def keeps its promise, to any depth -/
theorem md_all (h : Hd Γ T p P wl K mg base) : ∀ d : Nat, Md Γ T (p.gv (p.cal d)) P wl K mg base (d + 2) := by
  intro d
  have step : ∀ d : Nat, (∀ (n : Nat) (x : Str), Γ.fn[n]? = some x → ∃ (f : Addr) (fd : FuncData) (ps : List Str), mg x = some (.ref f) ∧ PySem.W.keepIn K (.ref f) = true ∧ Binds K fd ps [] ∧ FnG P wl K mg base (d + 2) f fd ps (spEv T ps.length (p.cal d n)) ∧ ∀ ds S, p.cal d n ds S ≠ .stuck → ds.length = ps.length) → Md Γ T (p.gv (p.cal d)) P wl K mg base (d + 2) :=
    fun d q => ⟨h.hK, q, h.gls, h.gas, h.blt, h.ncn, h.exc, h.mks, h.sub, h.ef, h.fl, by omega⟩
  induction d with
  | zero =>
    refine step 0 fun n x hn => ?_
    obtain ⟨f, fd, ps, st, N, h1, h2, h3, h4, h5, h6, h7, h8⟩ := h.fns n x hn
    exact ⟨f, fd, ps, h1, h2, h3, ⟨fun vs H Q E ⟨_, _, _, _, _, e, _⟩ => e, fun A outer s H args us vs Q E _ _ _ _ _ ⟨_, _, _, _, _, _, z⟩ => z.elim⟩, fun ds S z => absurd rfl z⟩
  | succ d ih =>
    refine step (d + 1) fun n x hn => ?_
    obtain ⟨f, fd, ps, st, N, h1, h2, h3, h4, h5, h6, h7, h8⟩ := h.fns n x hn
    refine ⟨f, fd, ps, h1, h2, h3, ?_, fun ds S z => (cal_len' z).trans h6.symm⟩
    refine FnG.of (k := d + 2) h4 h5 (fun vs H Q E ⟨_, _, _, _, _, e, _⟩ => e) fun cdv A outer s H vs Q E hr hgd hsp => ?_
    obtain ⟨ds, w, rfl, wd, rs, hl, hp⟩ := hsp
    have cs : CxS Γ T (p.gv (p.cal d)) N (defScope st) (d + 2) (cxOf (L2.CX P wl) P wl K mg base N x (defScope st) f cdv A outer s w.H E) (fun cls dd _ H => E cls dd H) := by
      refine ⟨⟨ih, rfl, h5.nd, rfl, ?_, hgd, fun _ => ⟨rfl, hr⟩, takes_of rfl rfl rfl rfl, kept0, fun _ _ _ _ _ z => nomatch z⟩, passes_of rfl, fun _ => rfl, rfl, rfl, h5.kind⟩
      have := hr.un
      show (A.deeper _).units + 64 < cLine
      omega
    refine ⟨_, (okS Γ T (p.gv (p.cal d)) N (d + 2) (p.code n)).b cs h8, startD (p.nv n) ds, w, rfl, wd, env_start rs h7, ?_⟩
    have hlen : ds.length = p.np n := by rw [rs.len, hl, h6]
    change Post T _ w [] (Rep T) (if ds.length = p.np n then outR (ex (p.gv (p.cal d)) (p.code n) (startD (p.nv n) ds) w.S) else .stuck) Q at hp
    rw [if_pos hlen] at hp
    cases hx : ex (p.gv (p.cal d)) (p.code n) (startD (p.nv n) ds) w.S with
    | nx δ1 S1 =>
      rw [hx] at hp
      exact fun w' σ' e wd' st' _ => hp w' .non e wd' st' .non
    | rt r S1 =>
      rw [hx] at hp
      exact fun w' v e wd' st' r' => hp w' v e wd' st' r'
    | ex c v δ1 S1 =>
      rw [hx] at hp
      exact fun w' σ' cls dd e wd' st' _ rx => hp w' cls dd e wd' st' rx
    | bk _ _ => rw [hx] at hp; exact hp.elim
    | ct _ _ => rw [hx] at hp; exact hp.elim
    | stuck => rw [hx] at hp; exact hp.elim
/-- the caller's call of the law, from the promise of its def where no repr is under way -/
theorem end_call {k : Nat} {fa a : Addr} {sp : Sp} {s1 : Shared} {us : List Value} {ns : List Int} {mb : Str → Option Value}
    (kin : K.In s1.heap) (gns : s1.heap.Ns mainGlobals mg) (bns : s1.heap.Ns builtinsNs mb)
    (boot : ∀ x : Str, x ≠ "__name__" → mb x = bootBuiltins x) (nolim : s1.heap.NoLimit) (gens : s1.gens = #[])
    (scr : s1.heap.get? a = some { cls := .type "list", data := .seq us.toArray }) (are : IntsAre us ns)
    (short : ns.length ≤ sizeLine) (room : Room k callerA)
    (prom : ∀ bs : Heap, K.In bs → bs.Ns mainGlobals mg → ∃ (fd : FuncData) (ps : List Str), ps.length = 1 ∧ FnG P wl K mg bs k fa fd ps sp ∧ Binds K fd ps [])
    (says : ∀ H : Hp, SqL K H a (ns.map V.int) → sp [.ref a] H (fun v _ => v = .bl true) fun _ _ _ => False) :
    codeAny (model P wl) callerA (.call (.ref fa) ⟨[.ref a], []⟩)
      (fun r s2 => r = .ok (.ret (.bool true)) ∧ OldK s1.heap s2.heap ∧ s2.os = s1.os ∧ AllBare s2.gens) s1 := by
  have rels := vals_ints are
  have go : ∀ H : Hp, Only H → SqL K H a (ns.map V.int) → HOk P wl H s1.heap → (∀ b, H b ≠ none → b = a) →
      (H a ≠ none → K.lookup a = none) → codeAny (model P wl) callerA (.call (.ref fa) ⟨[.ref a], []⟩)
        (fun r s2 => r = .ok (.ret (.bool true)) ∧ OldK s1.heap s2.heap ∧ s2.os = s1.os ∧ AllBare s2.gens) s1 := by
    intro H only sq hok here outK
    have isA : ∀ {b : Addr} {u : HO}, H b = some u → b = a := fun q => here _ (by rw [q]; simp)
    have free : ∀ {b : Addr} {o : Obj} {es : Array DictEntry} {ep : Nat}, s1.heap.get? b = some o → o.data = .dict es ep → H b = none := fun {b o es ep} e d => by
      match hq : H b with
      | none => rfl
      | some u =>
        have z := isA hq
        subst z
        rw [scr] at e
        cases e
        exact absurd (show Data.seq us.toArray _ = Data.dict es ep from d) (fun z => nomatch z)
    have nsB : ∀ {b : Addr} {m : Str → Option Value}, s1.heap.Ns b m → (hidT s1.heap H).Ns b m :=
      fun ⟨o, es, ep, e, d, r⟩ => ⟨o, es, ep, hidT_get e (free e d), d, r⟩
    have kB : K.In (hidT s1.heap H) := fun b o e => hidT_get (kin b o e) (by
      match hq : H b with
      | none => rfl
      | some u =>
        have z := isA hq
        subst z
        rw [outK (by rw [hq]; simp)] at e
        cases e)
    have md : Mod K mg (hidT s1.heap H) := ⟨kB, nsB gns, ⟨mb, nsB bns, boot⟩, let ⟨mc, q1, q2⟩ := nolim; ⟨mc, nsB q1, q2⟩⟩
    have e0 : Env0 P wl K mg (hidT s1.heap H) callerA [] s1 H :=
      ⟨rfl, md, fun b o e => of_hidT e, Nat.le_of_eq (hidT_size _ _), trivial, fun b hb => absurd (show b ∈ ([] : List Addr) from hb) List.not_mem_nil, hok, .of_eq gens⟩
    obtain ⟨fd, ps, one, F, bd⟩ := prom _ kB (nsB gns)
    have bind := bd s1 [.ref a] kin (by rw [one]; rfl)
    have run := F.run callerA [] s1 H ⟨[.ref a], []⟩ [.ref a] [.ref a] _ _ room rfl e0 bind (.cons rfl .nil) (says H sq)
    refine codeAny_mono run fun r s2 hh => ?_
    match r, hh with
    | .error e, hh =>
      exfalso
      obtain ⟨_, _, _, _, _, _, _, _, _, _, _, _, z⟩ := hh
      exact z
    | .ok (.ret u), hh =>
      obtain ⟨v, H2, os, bare, un, hok2, rv, q⟩ := hh
      have q2 : v = .bl true := q
      subst q2
      have hu : u = Value.bool true := rv
      subst hu
      refine ⟨rfl, OldK.of_keep fun b o e => ?_, os, bare⟩
      match hq : H b with
      | none => exact un.keep b o e hq (fun z => nomatch (show b ∈ ([] : List Addr) from z)) (by simp)
      | some u =>
        rcases only b with z | ⟨ob, xs, z⟩
        · rw [hq] at z
          cases z
        · have k1 := (hok b _ z).1
          have k2 := (hok2 b _ (un.frzs b ob _ z)).1
          rw [e] at k1
          cases k1
          exact k2
  match hk : K.lookup a with
  | some o =>
    have e := kin a o hk
    rw [scr] at e
    cases e
    exact go (fun _ => none) (fun _ => .inl rfl) (.inr ⟨_, us.toArray, _, hk, rfl, rfl, rfl, by rw [List.size_toArray, are.length]; exact short, by simpa using rels⟩) (fun b u z => nomatch (show (none : Option HO) = some u from z)) (fun b z => absurd rfl z) fun z => absurd rfl z
  | none =>
    refine go (fun b => if b = a then some (.frz { cls := .type "list", data := .seq us.toArray } (.lst (ns.map V.int))) else none) (fun b => ?_) (.inl (.inr ⟨_, if_pos rfl⟩)) (fun b u z => ?_) (fun b z => ?_) fun _ => hk
    · by_cases hb : b = a
      · exact .inr ⟨_, _, if_pos hb⟩
      · exact .inl (if_neg hb)
    · by_cases hb : b = a
      · have z2 := (if_pos hb).symm.trans z
        cases z2
        rw [hb]
        exact ⟨scr, by rw [List.length_map]; exact short, us, _, rels, scr⟩
      · exact nomatch (if_neg hb).symm.trans z
    · exact Classical.byContradiction fun hb => z (if_neg hb)
end
/-- what k_head leaves, from the facts of the text and the answer of the evaluator -/
theorem walk_pv {l : PySem.W.OpenLaw} {n dep li : Nat} {q : Program} {loose : List Str} {XP : (Str → Option Value) → Heap → Prop} {YP : World → Heap → Prop} {d : DefRec} {K : Params → PySem.W.Frag} {Γ : Sy} {p : Pg}
    (hn : l.most = some n) (hn2 : n ≤ sizeLine) (hdf : d.params.defaults = []) (hr : Room (dep + 2) callerA) (hli : Γ.fn[li]? = some d.name) (h1 : p.np li = 1)
    (hY : ∀ (w : World) (h : Heap), YP w h → (K w.params).In h)
    (F : ∀ (w : World) (mg : Str → Option Value) (h : Heap), (K w.params).In h → h.Ns mainGlobals mg → ∃ T : Tb, ∀ base : Heap, (K w.params).In base → base.Ns mainGlobals mg → Hd Γ T p l.prog w (K w.params) mg base)
    (law : ∀ ns : List Int, ns.length ≤ n → ∃ S, p.cal dep li [.scr ns] [] = .ok (.bl true) S) :
    PySem.W.WalkO q loose XP YP l.row.toRowW d [] (fun f vs => PySem.call f vs) := by
  refine Att.attach_call hn hdf fun w s₀ s₁ mg mb fa o pm cd doc a vs ns G Y ho hd hcd hmg hobj hints hlen hg => ?_
  have KX := hY w _ Y
  obtain ⟨T, hF⟩ := F w mg _ KX G.T.g
  refine end_call (sp := spEv T 1 (p.cal dep li)) KX G.T.g G.T.b G.T.builtins G.T.nolimit hg hobj hints (Nat.le_trans hlen hn2) hr (fun bs kb nb => ?_) fun H sq => ?_
  · obtain ⟨f, fd, ps, e1, _, e3, e4, e5⟩ := (md_all (hF bs kb nb) dep).fns li _ hli
    have ef : f = fa := by
      rw [hmg] at e1
      cases e1
      rfl
    subst ef
    have one : ps.length = 1 := by
      obtain ⟨S, hS⟩ := law [] (Nat.zero_le _)
      have z := e5 [.scr []] [] (by
        show p.cal dep li [.scr []] [] ≠ .stuck
        rw [hS]
        exact fun z => nomatch z)
      exact z.symm
    rw [one] at e4
    exact ⟨fd, ps, one, e4, e3⟩
  · obtain ⟨S, hS⟩ := law ns hlen
    have hK : K w.params = T.K := by
      obtain ⟨bs, kb, nb⟩ : ∃ bs : Heap, (K w.params).In bs ∧ bs.Ns mainGlobals mg := ⟨_, KX, G.T.g⟩
      exact (hF bs kb nb).hK
    have nl : ∀ b, ¬ Lv ⟨[], [], H, []⟩ b := fun b z => by
      rcases z with z | ⟨_, _, z, _⟩
      · cases z
      · simp at z
    refine ⟨[.scr ns], ⟨[], [], H, []⟩, rfl, ⟨rfl, List.nodup_nil, fun n c a z => by simp at z, fun a z => nomatch z⟩, .cons (.scr ?_) .nil, rfl, ?_⟩
    · rw [hK] at sq
      rcases sq with z | z
      · exact .inr ⟨z, nl _⟩
      · exact .inl (.inr z)
    · rw [hS]
      intro w' v _ _ _ r
      cases r
      rfl
end PV

namespace PV
open PySem L2
section
variable (G : Gv) (δ : Env) (S : Store)
theorem v_var (i : Nat) : ev G (.var i) δ S = match δ[i]? with | some (some d) => .ok d S | _ => .stuck := rfl
theorem v_con (d : D) : ev G (.con d) δ S = .ok d S := rfl
theorem v_glob (x : Nat) : ev G (.glob x) δ S = .ok (G.gl x) S := rfl
theorem v_bin (o : Op2) (a b : C) : ev G (.bin o a b) δ S = (ev G a δ S).bind fun x S1 => (ev G b δ S1).bind fun y S2 => bin2 o x y S2 := rfl
theorem v_neg (a : C) : ev G (.neg a) δ S = (ev G a δ S).bind fun x S1 => match x with | .int i => .ok (.int (-i)) S1 | _ => .stuck := rfl
theorem v_not (a : C) : ev G (.not a) δ S = (ev G a δ S).bind fun x S1 => match truD S1 x with | some b => .ok (.bl (!b)) S1 | none => .stuck := rfl
theorem v_and (a b : C) : ev G (.and a b) δ S = (ev G a δ S).bind fun x S1 => match truD S1 x with | some true => ev G b δ S1 | some false => .ok x S1 | none => .stuck := rfl
theorem v_or (a b : C) : ev G (.or a b) δ S = (ev G a δ S).bind fun x S1 => match truD S1 x with | some true => .ok x S1 | some false => ev G b δ S1 | none => .stuck := rfl
theorem v_ite (c a b : C) : ev G (.ite c a b) δ S = (evT G c δ S).bind fun x S1 => if x then ev G a δ S1 else ev G b δ S1 := rfl
theorem v_cmp (o : CO) (a b : C) : ev G (.cmp o a b) δ S = (ev G a δ S).bind fun x S1 => (ev G b δ S1).bind fun y S2 => optD (cmpD o x y S2) S2 := rfl
theorem v_chain (o p : CO) (a b c : C) : ev G (.chain o p a b c) δ S = (ev G a δ S).bind fun x S1 => (ev G b δ S1).bind fun y S2 => match cmpD o x y S2 with | some true => (ev G c δ S2).bind fun z S3 => optD (cmpD p y z S3) S3 | some false => .ok (.bl false) S2 | none => .stuck := rfl
theorem v_tup (es : C) : ev G (.tup es) δ S = (evs G es δ S).bind fun ds S1 => if fits ds.length then .ok (.tup ds) S1 else .stuck := rfl
theorem v_lst (m : Bool) (es : C) : ev G (.lst m es) δ S = (evs G es δ S).bind fun ds S1 => newL m ds S1 := rfl
theorem v_dct (m : Bool) : ev G (.dct m .nil .nil) δ S = .ok (.dct [] []) S := rfl
theorem v_call (f : Nat) (es : C) : ev G (.call f es) δ S = (evs G es δ S).bind fun ds S1 => G.cal f ds S1 := rfl
theorem v_bi (b : Bi) (es : C) : ev G (.bi b es) δ S = (evs G es δ S).bind fun ds S1 => biD b ds S1 := rfl
theorem v_isi (a : C) (t : Ty) : ev G (.isi a t) δ S = (ev G a δ S).bind fun x S1 => optD (isiD S1 x t) S1 := rfl
theorem v_idx (a i : C) : ev G (.idx a i) δ S = (ev G a δ S).bind fun x S1 => (ev G i δ S1).bind fun y S2 => idx2 x y S2 := rfl
theorem v_sl (m : Bool) (a lo hi : C) : ev G (.sl m a lo hi) δ S = (ev G a δ S).bind fun x S1 => (evO G lo δ S1).bind fun l S2 => (evO G hi δ S2).bind fun h S3 => sl2 m x l h S3 := rfl
theorem v_rev (m : Bool) (a : C) : ev G (.rev m a) δ S = (ev G a δ S).bind fun x S1 => match deref S1 x with | .tup ds => .ok (.tup ds.reverse) S1 | .lst ds => newL m ds.reverse S1 | _ => .stuck := rfl
theorem v_comp (m : Bool) (tg : Tg) (src cnd elt : C) : ev G (.comp m tg src cnd elt) δ S = (evI G src δ S).bind fun its S1 => (compL tg (evT G cnd) (ev G elt) δ its S1).bind fun ds S2 => newL m ds S2 := rfl
theorem v_eget (f : Nat) : ev G (.eget f) δ S = match G.cur with | some (c, v) => if G.ef c = f then .ok v S else .stuck | none => .stuck := rfl
theorem v_app (a e : C) : ev G (.app a e) δ S = (ev G a δ S).bind fun x S1 => if (isL (deref S1 x)).isSome then (ev G e δ S1).bind fun y S2 => appD x y S2 else .stuck := rfl
theorem s_nil : evs G .nil δ S = .ok [] S := rfl
theorem s_cons (a b : C) : evs G (.cons a b) δ S = (ev G a δ S).bind fun x S1 => (evs G b δ S1).bind fun xs S2 => .ok (x :: xs) S2 := rfl
theorem o_nil : evO G .nil δ S = .ok none S := rfl
theorem o_cons (a b : C) : evO G (.cons a b) δ S = (ev G a δ S).bind fun x S1 => match x with | .int i => .ok (some i) S1 | _ => .stuck := rfl
theorem t_nil : evT G .nil δ S = .ok true S := rfl
theorem t_not (a : C) : evT G (.not a) δ S = (evT G a δ S).bind fun b S1 => .ok (!b) S1 := rfl
theorem t_and (a b : C) : evT G (.and a b) δ S = (evT G a δ S).bind fun x S1 => if x then evT G b δ S1 else .ok false S1 := rfl
theorem t_or (a b : C) : evT G (.or a b) δ S = (evT G a δ S).bind fun x S1 => if x then .ok true S1 else evT G b δ S1 := rfl
theorem t_tst (e : C) : evT G (.tst e) δ S = (ev G e δ S).bind fun x S1 => optB (truD S1 x) S1 := rfl
theorem t_cmp (o : CO) (a b : C) : evT G (.tcmp o a b) δ S = (ev G a δ S).bind fun x S1 => (ev G b δ S1).bind fun y S2 => optB (cmpD o x y S2) S2 := rfl
theorem t_chain (o p : CO) (a b c : C) : evT G (.tchain o p a b c) δ S = (ev G a δ S).bind fun x S1 => (ev G b δ S1).bind fun y S2 => match cmpD o x y S2 with | some true => (ev G c δ S2).bind fun z S3 => optB (cmpD p y z S3) S3 | some false => .ok false S2 | none => .stuck := rfl
theorem i_rng (a b : C) : evI G (.rng a b) δ S = (ev G a δ S).bind fun x S1 => (ev G b δ S1).bind fun y S2 => match x, y with | .int i, .int j => if inR i && inR j then .ok (rangeD i j) S2 else .stuck | _, _ => .stuck := rfl
theorem i_enum (a : C) : evI G (.enum a) δ S = (ev G a δ S).bind fun x S1 => match x with | .lst ds => .ok (enumD ds) S1 | _ => .stuck := rfl
theorem i_zip (a b : C) : evI G (.zip a b) δ S = (ev G a δ S).bind fun x S1 => (ev G b δ S1).bind fun y S2 => match zipD x y with | some ds => .ok ds S2 | none => .stuck := rfl
theorem i_tst (a : C) : evI G (.tst a) δ S = (ev G a δ S).bind fun x S1 => itD S1 x := rfl
theorem x_nil : ex G .nil δ S = .nx δ S := rfl
theorem x_cons (a b : C) (h : isFrz a = false) : ex G (.cons a b) δ S = match ex G a δ S with | .nx δ1 S1 => ex G b δ1 S1 | r => r := by
  cases a <;> first | rfl | cases h
theorem c_set (t : Tg) (e : C) (r : C) : ex G (.cons (.set t e) r) δ S = match ex G (.set t e) δ S with | .nx δ1 S1 => ex G r δ1 S1 | z => z := rfl
theorem c_stI (a i e : C) (r : C) : ex G (.cons (.stI a i e) r) δ S = match ex G (.stI a i e) δ S with | .nx δ1 S1 => ex G r δ1 S1 | z => z := rfl
theorem c_expr (e : C) (r : C) : ex G (.cons (.expr e) r) δ S = match ex G (.expr e) δ S with | .nx δ1 S1 => ex G r δ1 S1 | z => z := rfl
theorem c_ret (e : C) (r : C) : ex G (.cons (.ret e) r) δ S = match ex G (.ret e) δ S with | .nx δ1 S1 => ex G r δ1 S1 | z => z := rfl
theorem c_ifs (c a b : C) (r : C) : ex G (.cons (.ifs c a b) r) δ S = match ex G (.ifs c a b) δ S with | .nx δ1 S1 => ex G r δ1 S1 | z => z := rfl
theorem c_for (t : Tg) (s b : C) (r : C) : ex G (.cons (.for_ t s b) r) δ S = match ex G (.for_ t s b) δ S with | .nx δ1 S1 => ex G r δ1 S1 | z => z := rfl
theorem c_raise (x : Nat) (e : C) (r : C) : ex G (.cons (.raise_ x e) r) δ S = match ex G (.raise_ x e) δ S with | .nx δ1 S1 => ex G r δ1 S1 | z => z := rfl
theorem c_try (b : C) (x i : Nat) (h : C) (r : C) : ex G (.cons (.try_ b x i h) r) δ S = match ex G (.try_ b x i h) δ S with | .nx δ1 S1 => ex G r δ1 S1 | z => z := rfl
theorem c_while (c b : C) (r : C) : ex G (.cons (.while_ c b) r) δ S = match ex G (.while_ c b) δ S with | .nx δ1 S1 => ex G r δ1 S1 | z => z := rfl
theorem x_frz (i : Nat) (b : C) : ex G (.cons (.frzV i) b) δ S = match δ[i]? with | some (some d) => (match frzD d S with | .ok e S1 => ex G b (δ.set i (some e)) S1 | _ => .stuck) | _ => .stuck := rfl
theorem x_set (tg : Tg) (e : C) : ex G (.set tg e) δ S = RofS δ (ev G e δ S) fun d S1 => match bindT tg d δ with | some δ1 => .nx δ1 S1 | none => .stuck := rfl
theorem x_stI (a i e : C) : ex G (.stI a i e) δ S = RofS δ (ev G e δ S) fun z S1 => RofS δ (ev G a δ S1) fun x S2 => RofS δ (ev G i δ S2) fun y S3 => RofS δ (setI x y z S3) fun _ S4 => .nx δ S4 := rfl
theorem x_expr (e : C) : ex G (.expr e) δ S = RofS δ (ev G e δ S) fun _ S1 => .nx δ S1 := rfl
theorem x_ret (e : C) : ex G (.ret e) δ S = RofS δ (ev G e δ S) fun d S1 => .rt d S1 := rfl
theorem x_ifs (c a b : C) : ex G (.ifs c a b) δ S = match evT G c δ S with | .ok true S1 => ex G a δ S1 | .ok false S1 => ex G b δ S1 | .ex c v S1 => .ex c v δ S1 | .stuck => .stuck := rfl
theorem x_for (tg : Tg) (src b : C) : ex G (.for_ tg src b) δ S = match evI G src δ S with | .ok its S1 => forL tg (ex G b) its δ S1 | .ex c v S1 => .ex c v δ S1 | .stuck => .stuck := rfl
theorem x_raise (x : Nat) (e : C) : ex G (.raise_ x e) δ S = RofS δ (ev G e δ S) fun d S1 => .ex x d δ S1 := rfl
theorem x_try (b : C) (x i : Nat) (h : C) : ex G (.try_ b x i h) δ S = match ex G b δ S with
    | .ex c v δ1 S1 => if G.sub c x then (match (if i < δ1.length then ev { G with cur := some (c, v) } h (δ1.set i none) S1 else .stuck) with
      | .ok d S2 => .rt d S2
      | _ => .stuck) else .ex c v δ1 S1
    | r => r := rfl
theorem b_ok {α β : Type} (a : α) (S : Store) (f : α → Store → R β) : (R.ok a S).bind f = f a S := rfl
theorem r_ok (d : D) (f : D → Store → RS) : RofS δ (.ok d S) f = f d S := rfl
end
theorem comp_map {tg : Tg} {cnd : Env → Store → R Bool} {elt : F} {δ : Env} {f : D → D} {S : Store} : ∀ (its : List D), (∀ x, x ∈ its → ∃ δ1, bindT tg x (wipeD δ (slots tg)) = some δ1 ∧ cnd δ1 S = .ok true S ∧ elt δ1 S = .ok (f x) S) → compL tg cnd elt δ its S = .ok (its.map f) S
  | [], _ => rfl
  | x :: xs, h => by
    obtain ⟨δ1, h1, h2, h3⟩ := h x List.mem_cons_self
    have ih := comp_map (f := f) (S := S) xs fun y hy => h y (List.mem_cons_of_mem _ hy)
    unfold compL
    simp only [h1, h2, h3, ih]
    rfl
theorem comp_filter {tg : Tg} {cnd : Env → Store → R Bool} {elt : F} {δ : Env} {p : D → Bool} {f : D → D} {S : Store} : ∀ (its : List D), (∀ x, x ∈ its → ∃ δ1, bindT tg x (wipeD δ (slots tg)) = some δ1 ∧ cnd δ1 S = .ok (p x) S ∧ (p x = true → elt δ1 S = .ok (f x) S)) → compL tg cnd elt δ its S = .ok ((its.filter p).map f) S
  | [], _ => rfl
  | x :: xs, h => by
    obtain ⟨δ1, h1, h2, h3⟩ := h x List.mem_cons_self
    have ih := comp_filter (p := p) (f := f) (S := S) xs fun y hy => h y (List.mem_cons_of_mem _ hy)
    unfold compL
    cases hp : p x with
    | true => simp only [h1, h2, hp, h3 hp, ih, List.filter_cons, if_true]; rfl
    | false => simp [h1, h2, hp, ih, List.filter_cons]
/-- a loop whose body goes on, its state kept in P -/
theorem for_inv {tg : Tg} {body : FS} (P : Nat → Env → Store → Prop) (its : List D) (step : ∀ (i : Nat) (x : D) (δ : Env) (S : Store), its[i]? = some x → P i δ S → ∃ δ1, bindT tg x δ = some δ1 ∧ ∃ δ2 S2, body δ1 S = .nx δ2 S2 ∧ P (i + 1) δ2 S2) :
    ∀ (δ : Env) (S : Store), P 0 δ S → ∃ δ2 S2, forL tg body its δ S = .nx δ2 S2 ∧ P its.length δ2 S2 := by
  have key : ∀ (l : List D) (k : Nat), its.drop k = l → ∀ (δ : Env) (S : Store), P k δ S → k ≤ its.length → ∃ δ2 S2, forL tg body l δ S = .nx δ2 S2 ∧ P its.length δ2 S2 := by
    intro l
    induction l with
    | nil =>
      intro k hk δ S hp hle
      have : its.length ≤ k := List.drop_eq_nil_iff.mp hk
      have e : k = its.length := by omega
      subst e
      exact ⟨δ, S, rfl, hp⟩
    | cons x l ih =>
      intro k hk δ S hp hle
      have hx : its[k]? = some x := by
        have : (its.drop k)[0]? = some x := by rw [hk]; rfl
        rw [List.getElem?_drop] at this
        simpa using this
      have hlt : k < its.length := (List.getElem?_eq_some_iff.mp hx).1
      obtain ⟨δ1, h1, δ2, S2, h2, hp2⟩ := step k x δ S hx hp
      have hd : its.drop (k + 1) = l := by
        rw [← List.tail_drop, hk]
        rfl
      obtain ⟨δ3, S3, h3, hp3⟩ := ih (k + 1) hd δ2 S2 hp2 hlt
      refine ⟨δ3, S3, ?_, hp3⟩
      unfold forL
      simp only [h1, h2, h3]
  intro δ S hp
  exact key its 0 (by simp) δ S hp (Nat.zero_le _)
end PV

namespace PV
open PySem

def sumL : List Nat → Nat
  | [] => 0
  | x :: xs => x + 2 + sumL xs
theorem piled_sum : ∀ ts : List Str, piled ts = sumL (ts.map (·.length))
  | [] => by simp [piled, sumL]
  | t :: ts => by
    have := piled_sum ts
    simp [piled, sumL] at this ⊢
    omega
theorem from_le : ∀ (ts : List Str) (k : Nat) (acc : Str), (textFrom k acc ts).length ≤ acc.length + sumL (ts.map (·.length))
  | [], k, acc => Nat.le_refl _
  | t :: r, k, acc => by
    have ih := from_le r (k + 1) (acc ++ (if k > 0 then ", " else "" : String) ++ t)
    have sep : (acc ++ (if k > 0 then ", " else "" : String) ++ t).length = acc.length + (if k > 0 then 2 else 0) + t.length := by
      rw [strLen_append, strLen_append]; split <;> rfl
    rw [sep] at ih
    show (textFrom (k + 1) _ r).length ≤ acc.length + (t.length + 2 + sumL (r.map (·.length)))
    refine Nat.le_trans ih ?_
    split <;> omega
theorem listText_le (ts : List Str) : (listText ts).length ≤ sumL (ts.map (·.length)) + 3 := by
  have h := from_le ts 0 "["
  unfold listText
  rw [strLen_append]
  have e1 : (("[" : String) : Str).length = 1 := rfl
  have e2 : (("]" : String) : Str).length = 1 := rfl
  rw [e1] at h
  rw [e2]
  omega
theorem tupleText_le (ts : List Str) : (tupleText ts).length ≤ sumL (ts.map (·.length)) + 3 := by
  unfold tupleText
  rw [strLen_append, strLen_append]
  have e1 : (("(" : String) : Str).length = 1 := rfl
  rw [e1]
  by_cases hn : ts = []
  · subst hn
    decide +kernel
  · have h := join_length_add ts hn
    rw [piled_sum] at h
    have e2 : ((if ts.length == 1 then ",)" else ")" : String) : Str).length ≤ 2 := by
      split
      · decide +kernel
      · decide +kernel
    omega
/-- small data: at most n items a sequence, k levels -/
def okD (n : Nat) : Nat → D → Bool
  | _, .non => true
  | _, .bl _ => true
  | _, .int i => decide (i.natAbs.log2 < 1920)
  | _, .str x => decide ((reprText x).length ≤ 1921)
  | k + 1, .tup ds => decide (ds.length ≤ n) && ds.all (okD n k)
  | k + 1, .lst ds => decide (ds.length ≤ n) && ds.all (okD n k)
  | _, _ => false
def wMax (n : Nat) : Nat → Nat
  | 0 => 1921
  | k + 1 => n * (wMax n k + 2) + 1924
theorem wMax_ge (n : Nat) : ∀ k, 1921 ≤ wMax n k
  | 0 => Nat.le_refl _
  | k + 1 => by show 1921 ≤ n * (wMax n k + 2) + 1924; omega
structure OkP (S : Store) (d : D) (m k : Nat) (p : PyData) : Prop where
  at_ : toP S d = some p
  sh : p.showable = true
  nd : p.hasDict = false
  dp : p.depth ≤ k
  len : p.shown.length ≤ m
theorem okP_all {S : Store} {n k : Nat} : ∀ {ds : List D}, (∀ d ∈ ds, ∃ p, OkP S d (wMax n k) k p) → ∃ ps, toPs S ds = some ps ∧ PyData.showableAll ps = true ∧ PyData.hasDictAll ps = false ∧ PyData.depthAll ps ≤ k ∧ sumL ((PyData.shownAll ps).map (·.length)) ≤ ds.length * (wMax n k + 2)
  | [], _ => ⟨[], rfl, rfl, rfl, Nat.zero_le _, Nat.zero_le _⟩
  | d :: ds, h => by
    obtain ⟨p, hp⟩ := h d List.mem_cons_self
    obtain ⟨ps, h1, h2, h3, h4, h5⟩ := okP_all (ds := ds) fun e he => h e (List.mem_cons_of_mem _ he)
    refine ⟨p :: ps, ?_, ?_, ?_, ?_, ?_⟩
    · simp only [toPs, hp.at_, h1]
    · simp only [PyData.showableAll, hp.sh, h2, Bool.and_self]
    · simp only [PyData.hasDictAll, hp.nd, h3, Bool.or_self]
    · have := hp.dp
      simp only [PyData.depthAll]
      omega
    · have := hp.len
      simp only [PyData.shownAll, List.map_cons, sumL, List.length_cons, Nat.add_mul]
      omega
theorem okD_P {S : Store} {n : Nat} : ∀ (k : Nat) (d : D), okD n k d = true → ∃ p, OkP S d (wMax n k) k p := by
  intro k
  have leaf : ∀ (k : Nat) (d : D), okD n k d = true → (∀ ds, d ≠ .tup ds) → (∀ ds, d ≠ .lst ds) → ∃ p, OkP S d (wMax n k) k p := by
    intro k d h h1 h2
    have hw := wMax_ge n k
    cases d with
    | non => exact ⟨.none, by simp only [toP], rfl, rfl, Nat.zero_le _, Nat.le_trans (by decide +kernel) hw⟩
    | bl b => exact ⟨.bool b, by simp only [toP], rfl, rfl, Nat.zero_le _, Nat.le_trans (by cases b <;> decide +kernel) hw⟩
    | int i =>
      have hi : i.natAbs.log2 < 1920 := by
        cases k <;> exact of_decide_eq_true h
      exact ⟨.int i, by simp only [toP], decide_eq_true hi, rfl, Nat.zero_le _, Nat.le_trans (PyProof.Rows.int_text_len_1921 hi) hw⟩
    | str x =>
      have hi : (reprText x).length ≤ 1921 := by
        cases k <;> exact of_decide_eq_true h
      exact ⟨.str x, by simp only [toP], rfl, rfl, Nat.zero_le _, Nat.le_trans hi hw⟩
    | tup ds => exact absurd rfl (h1 ds)
    | lst ds => exact absurd rfl (h2 ds)
    | _ => cases k <;> cases h
  induction k with
  | zero =>
    intro d h
    exact leaf 0 d h (fun ds z => by subst z; cases h) (fun ds z => by subst z; cases h)
  | succ k ih =>
    intro d h
    cases d with
    | tup ds =>
      have h' : (decide (ds.length ≤ n) && ds.all (okD n k)) = true := h
      rw [Bool.and_eq_true] at h'
      have hl := of_decide_eq_true h'.1
      obtain ⟨ps, h1, h2, h3, h4, h5⟩ := okP_all (n := n) (k := k) fun e he => ih e (List.all_eq_true.mp h'.2 e he)
      have hm : ds.length * (wMax n k + 2) ≤ n * (wMax n k + 2) := Nat.mul_le_mul_right _ hl
      refine ⟨.tuple ps, by simp only [toP, h1, Option.map_some], by simp only [PyData.showable, h2], by simp only [PyData.hasDict, h3], by simp only [PyData.depth]; omega, ?_⟩
      simp only [PyData.shown]
      have := tupleText_le (PyData.shownAll ps)
      show _ ≤ n * (wMax n k + 2) + 1924
      omega
    | lst ds =>
      have h' : (decide (ds.length ≤ n) && ds.all (okD n k)) = true := h
      rw [Bool.and_eq_true] at h'
      have hl := of_decide_eq_true h'.1
      obtain ⟨ps, h1, h2, h3, h4, h5⟩ := okP_all (n := n) (k := k) fun e he => ih e (List.all_eq_true.mp h'.2 e he)
      have hm : ds.length * (wMax n k + 2) ≤ n * (wMax n k + 2) := Nat.mul_le_mul_right _ hl
      refine ⟨.list ps, by simp only [toP, h1, Option.map_some], by simp only [PyData.showable, h2], by simp only [PyData.hasDict, h3], by simp only [PyData.depth]; omega, ?_⟩
      simp only [PyData.shown]
      have := listText_le (PyData.shownAll ps)
      show _ ≤ n * (wMax n k + 2) + 1924
      omega
    | _ => exact leaf (k + 1) _ h (fun ds z => nomatch z) (fun ds z => nomatch z)
theorem deref_ok {S : Store} {n k : Nat} {d : D} (h : okD n k d = true) : deref S d = d := by
  cases d <;> first | rfl | (cases k <;> cases h)
/-- small data has a repr -/
theorem repr_ok {S : Store} {n k : Nat} {d : D} (h : okD n k d = true) (hk : k ≤ 60) (hw : wMax n k ≤ 16777216) : ∃ t, reprD S d = some t := by
  obtain ⟨p, hp⟩ := okD_P (S := S) k d h
  refine ⟨p.shown, ?_⟩
  unfold reprD
  rw [deref_ok h, hp.at_]
  have f : fits p.shown.length = true := decide_eq_true (Nat.le_trans hp.len hw)
  have g : decide (p.depth ≤ 60) = true := decide_eq_true (Nat.le_trans hp.dp hk)
  simp only [hp.sh, f, hp.nd, g, Bool.not_false, Bool.true_or, Bool.and_self, if_true]
end PV

namespace Law
open PySem L2 PyProof.Rows PV
def top (i : Nat) : Stmt := PySem.Challenge.pw_countedlights_k03_tolerances.main.body.getD i (.Pass ⟨0, 0, 0, 0⟩)
def c_law : C := (.cons (.for_ (.one 1) (.rng (.con (.int 0)) (.bi .max (.cons (.con (.int 1)) (.cons (.bi .min (.cons (.bi .len (.cons (.var 0) .nil)) (.cons (.con (.int 15)) .nil))) .nil)))) (.cons (.set (.one 3) (.call 1 (.cons (.var 0) (.cons (.var 1) .nil)))) (.cons (.set (.one 4) (.lst true (.cons (.con (.int 0)) .nil))) (.cons (.for_ (.one 5) (.rng (.con (.int 0)) (.call 3 (.cons (.var 3) (.cons (.con (.int 9)) .nil)))) (.cons (.expr (.app (.var 4) (.bin .add (.bin .add (.idx (.var 4) (.neg (.con (.int 1)))) (.con (.int 1))) (.call 3 (.cons (.var 3) (.cons (.con (.int 1000)) .nil)))))) .nil)) (.cons (.frzV 4) (.cons (.set (.one 6) (.bi .tuple (.cons (.comp false (.one 8) (.tst (.var 4)) .nil (.tup (.cons (.var 8) (.cons (.call 3 (.cons (.var 3) (.cons (.con (.int 1000)) .nil))) .nil)))) .nil))) (.cons (.for_ (.tup [7, 8]) (.enum (.var 4)) (.cons (.set (.one 9) (.ite (.tcmp .eq (.bin .add (.var 7) (.con (.int 1))) (.bi .len (.cons (.var 4) .nil))) (.con (.int 9999)) (.bin .sub (.idx (.var 4) (.bin .add (.var 7) (.con (.int 1)))) (.con (.int 1))))) (.cons (.for_ (.one 10) (.tst (.lst false (.cons (.var 8) (.cons (.var 9) (.cons (.bin .fdiv (.bin .add (.var 8) (.var 9)) (.con (.int 2))) .nil))))) (.cons (.ifs (.tcmp .ne (.call 4 (.cons (.var 6) (.cons (.var 10) .nil))) (.idx (.idx (.var 6) (.var 7)) (.con (.int 1)))) (.cons (.ret (.con (.bl false))) .nil) .nil) .nil)) .nil))) (.cons (.ifs (.not (.tst (.call 2 (.cons (.call 5 (.cons (.var 3) (.cons (.var 6) .nil))) .nil)))) (.cons (.ret (.con (.bl false))) .nil) .nil) .nil)))))))) (.cons (.set (.one 2) (.bi .tuple (.cons (.comp false (.one 8) (.rng (.con (.int 0)) (.con (.int 10))) .nil (.tup (.cons (.var 8) (.cons (.con (.int 1)) .nil)))) .nil))) (.cons (.ret (.and (.call 2 (.cons (.var 2) .nil)) (.cmp .eq (.call 4 (.cons (.sl false (.var 2) .nil (.cons (.con (.int 9)) .nil)) (.cons (.con (.int 9999)) .nil))) (.con (.int 1))))) .nil)))
def c__law_source : C := (.cons (.set (.one 2) (.con (.int 0))) (.cons (.ifs (.tcmp .lt (.var 1) (.bi .len (.cons (.var 0) .nil))) (.cons (.set (.one 2) (.idx (.var 0) (.var 1))) .nil) .nil) (.cons (.set (.one 3) (.bi .max (.cons (.var 2) (.cons (.bin .sub (.neg (.con (.int 1))) (.var 2)) .nil)))) (.cons (.set (.one 4) (.bin .mod (.bin .add (.bin .add (.bin .mul (.bin .mod (.var 3) (.con (.int 2147483629))) (.con (.int 16807))) (.bin .mul (.con (.int 104729)) (.var 1))) (.con (.int 11))) (.con (.int 2147483647)))) (.cons (.ifs (.tcmp .lt (.var 3) (.bin .pow (.con (.int 10)) (.con (.int 18)))) (.cons (.set (.one 3) (.con (.int 0))) .nil) .nil) (.cons (.ret (.lst true (.cons (.var 3) (.cons (.var 4) .nil)))) .nil))))))
def c__law_refused : C := (.cons (.try_ (.cons (.expr (.call 4 (.cons (.var 0) (.cons (.con (.int 5)) .nil)))) .nil) 0 1 (.cmp .eq (.bi .repr (.cons (.eget 0) .nil)) (.bi .repr (.cons (.var 0) .nil)))) (.cons (.ret (.con (.bl false))) .nil))
def c__law_draw : C := (.cons (.ifs (.tcmp .gt (.idx (.var 0) (.con (.int 0))) (.con (.int 0))) (.cons (.set (.one 2) (.bin .mod (.idx (.var 0) (.con (.int 0))) (.var 1))) (.cons (.stI (.var 0) (.con (.int 0)) (.bin .fdiv (.idx (.var 0) (.con (.int 0))) (.var 1))) (.cons (.ret (.var 2)) .nil))) .nil) (.cons (.stI (.var 0) (.con (.int 1)) (.bin .mod (.bin .add (.bin .mul (.idx (.var 0) (.con (.int 1))) (.con (.int 48271))) (.con (.int 11))) (.con (.int 2147483647)))) (.cons (.ret (.bin .mod (.bin .fdiv (.bin .mod (.bin .mul (.idx (.var 0) (.con (.int 1))) (.idx (.var 0) (.con (.int 1)))) (.con (.int 2147483629))) (.con (.int 64))) (.var 1))) .nil)))
def c_tolerance_of : C := (.cons (.ifs (.not (.tst (.call 7 (.cons (.var 0) .nil)))) (.cons (.raise_ 0 (.var 0)) .nil) .nil) (.cons (.ret (.call 6 (.cons (.var 0) (.cons (.var 1) .nil)))) .nil))
def c__law_changed : C := (.cons (.set (.one 2) (.call 3 (.cons (.var 0) (.cons (.bi .len (.cons (.var 1) .nil)) .nil)))) (.cons (.set (.one 3) (.lst false (.cons (.tup (.cons (.idx (.idx (.var 1) (.var 2)) (.con (.int 0))) (.cons (.con (.int 1000)) .nil))) (.cons (.tup (.cons (.idx (.idx (.var 1) (.var 2)) (.con (.int 0))) (.cons (.neg (.con (.int 1))) .nil))) (.cons (.tup (.cons (.idx (.idx (.var 1) (.var 2)) (.con (.int 0))) .nil)) (.cons (.lst false (.cons (.con (.int 0)) (.cons (.con (.int 1)) .nil))) (.cons (.con .non) (.cons (.tup (.cons (.con (.bl true)) (.cons (.con (.int 1)) .nil))) (.cons (.tup (.cons (.idx (.idx (.var 1) (.var 2)) (.con (.int 0))) (.cons (.con (.bl true)) .nil))) .nil))))))))) (.cons (.set (.one 3) (.bin .add (.var 3) (.lst false (.cons (.tup (.cons (.idx (.idx (.var 1) (.var 2)) (.con (.int 0))) (.cons (.con (.int 1)) (.cons (.con (.int 1)) .nil)))) (.cons (.tup (.cons (.con (.int 10000)) (.cons (.con (.int 1)) .nil))) (.cons (.tup (.cons (.neg (.con (.int 1))) (.cons (.con (.int 1)) .nil))) (.cons (.tup (.cons (.con (.str "0")) (.cons (.con (.int 1)) .nil))) (.cons (.tup (.cons (.idx (.idx (.var 1) (.var 2)) (.con (.int 0))) (.cons (.con (.str "1")) .nil))) .nil)))))))) (.cons (.set (.one 4) (.lst false (.cons (.bin .add (.bin .add (.sl false (.var 1) .nil (.cons (.var 2) .nil)) (.tup (.cons (.idx (.var 3) (.call 3 (.cons (.var 0) (.cons (.con (.int 12)) .nil)))) .nil))) (.sl false (.var 1) (.cons (.bin .add (.var 2) (.con (.int 1))) .nil) .nil)) (.cons (.bin .add (.var 1) (.sl false (.var 1) (.cons (.neg (.con (.int 1))) .nil) .nil)) (.cons (.bi (.list false) (.cons (.var 1) .nil)) (.cons (.tup .nil) .nil)))))) (.cons (.set (.one 4) (.bin .add (.var 4) (.lst false (.cons (.bin .add (.tup (.cons (.tup (.cons (.con (.int 1)) (.cons (.con (.int 1)) .nil))) .nil)) (.sl false (.var 1) (.cons (.con (.int 1)) .nil) .nil)) (.cons (.bin .add (.rev false (.var 1)) (.tup (.cons (.tup (.cons (.con (.int 0)) (.cons (.con (.int 0)) .nil))) .nil))) (.cons (.con .non) (.cons (.dct false .nil .nil) (.cons (.con (.str "table")) (.cons (.con (.int 5)) .nil))))))))) (.cons (.ret (.idx (.var 4) (.idx (.lst false (.cons (.con (.int 0)) (.cons (.con (.int 0)) (.cons (.con (.int 0)) (.cons (.call 3 (.cons (.var 0) (.cons (.con (.int 10)) .nil))) .nil))))) (.call 3 (.cons (.var 0) (.cons (.con (.int 4)) .nil)))))) .nil))))))
def c_find_tolerance : C := (.cons (.ret (.idx (.comp false (.tup [2, 3]) (.tst (.var 0)) (.tcmp .le (.var 2) (.var 1)) (.var 3)) (.neg (.con (.int 1))))) .nil)
def c_is_table : C := (.cons (.ifs (.or (.not (.tst (.isi (.var 0) .tuple))) (.not (.tchain .le .le (.con (.int 1)) (.bi .len (.cons (.var 0) .nil)) (.glob 0)))) (.cons (.ret (.con (.bl false))) .nil) .nil) (.cons (.ifs (.or (.not (.tst (.bi .all (.cons (.comp false (.one 3) (.tst (.var 0)) .nil (.call 8 (.cons (.var 3) .nil))) .nil)))) (.tcmp .ne (.idx (.idx (.var 0) (.con (.int 0))) (.con (.int 0))) (.con (.int 0)))) (.cons (.ret (.con (.bl false))) .nil) .nil) (.cons (.ret (.bi .all (.cons (.comp false (.tup [1, 2]) (.zip (.var 0) (.sl false (.var 0) (.cons (.con (.int 1)) .nil) .nil)) .nil (.cmp .lt (.idx (.var 1) (.con (.int 0))) (.idx (.var 2) (.con (.int 0))))) .nil))) .nil)))
def c_is_step : C := (.cons (.ifs (.or (.not (.tst (.isi (.var 0) .tuple))) (.tcmp .ne (.bi .len (.cons (.var 0) .nil)) (.con (.int 2)))) (.cons (.ret (.con (.bl false))) .nil) .nil) (.cons (.ret (.and (.call 9 (.cons (.idx (.var 0) (.con (.int 0))) (.cons (.con (.int 0)) (.cons (.glob 2) .nil)))) (.call 9 (.cons (.idx (.var 0) (.con (.int 1))) (.cons (.con (.int 0)) (.cons (.glob 1) .nil)))))) .nil))
def c_is_in_range : C := (.cons (.ret (.and (.call 10 (.cons (.var 0) .nil)) (.chain .le .le (.var 1) (.var 0) (.var 2)))) .nil)
def c_is_integer : C := (.cons (.ret (.and (.isi (.var 0) .int) (.not (.isi (.var 0) .bool)))) .nil)
def codes : List C := [c_law, c__law_source, c__law_refused, c__law_draw, c_tolerance_of, c__law_changed, c_find_tolerance, c_is_table, c_is_step, c_is_in_range, c_is_integer]
def pg : Pg := ⟨fun n => codes.getD n .nil, fun n => ([11, 5, 2, 3, 2, 5, 4, 4, 1, 3, 1] : List Nat).getD n 0, fun n => ([1, 2, 1, 2, 2, 2, 2, 1, 1, 3, 1] : List Nat).getD n 0, fun g => ([.int 9, .int 999, .int 9999] : List D).getD g .non, 0, fun k x => decide (k = x), fun _ => 0⟩
def Γ : Sy := ⟨["law", "_law_source", "_law_refused", "_law_draw", "tolerance_of", "_law_changed", "find_tolerance", "is_table", "is_step", "is_in_range", "is_integer"], ["MAX_STEPS", "MAX_TOLERANCE"], fun g => ([none, none, some ("Frame", "MAX_COUNT")] : List (Option (Str × Str))).getD g none, ["InvalidTable"], ["given"], none, [true]⟩
abbrev s0 : Stmt := top 25
abbrev N0 : List Str := ["_law_script", "_law_k", "_law_longer", "_law_source_here", "_law_starts", "_law_attempt", "_law_table", "_law_at", "_law_start", "_law_last", "_law_count"]
theorem sc0 : FnScope N0 ["_law_script"] (defScope s0) := ⟨rfl, rfl, rfl, by decide +kernel, rfl, by decide +kernel, by decide +kernel⟩
theorem ck0 : ckSs Γ N0 (defScope s0) c_law (defBody s0) = true := by decide +kernel
abbrev s1 : Stmt := top 21
abbrev N1 : List Str := ["_law_script", "_law_k", "_law_cell", "_law_number", "_law_seed"]
theorem sc1 : FnScope N1 ["_law_script", "_law_k"] (defScope s1) := ⟨rfl, rfl, rfl, by decide +kernel, rfl, by decide +kernel, by decide +kernel⟩
theorem ck1 : ckSs Γ N1 (defScope s1) c__law_source (defBody s1) = true := by decide +kernel
abbrev s2 : Stmt := top 23
abbrev N2 : List Str := ["_law_thing", "e"]
theorem sc2 : FnScope N2 ["_law_thing"] (defScope s2) := ⟨rfl, rfl, rfl, by decide +kernel, rfl, by decide +kernel, by decide +kernel⟩
theorem ck2 : ckSs Γ N2 (defScope s2) c__law_refused (defBody s2) = true := by decide +kernel
abbrev s3 : Stmt := top 22
abbrev N3 : List Str := ["_law_source_here", "_law_amount", "_law_digit"]
theorem sc3 : FnScope N3 ["_law_source_here", "_law_amount"] (defScope s3) := ⟨rfl, rfl, rfl, by decide +kernel, rfl, by decide +kernel, by decide +kernel⟩
theorem ck3 : ckSs Γ N3 (defScope s3) c__law_draw (defBody s3) = true := by decide +kernel
abbrev s4 : Stmt := top 19
abbrev N4 : List Str := ["table", "count"]
theorem sc4 : FnScope N4 ["table", "count"] (defScope s4) := ⟨rfl, rfl, rfl, by decide +kernel, rfl, by decide +kernel, by decide +kernel⟩
theorem ck4 : ckSs Γ N4 (defScope s4) c_tolerance_of (defBody s4) = true := by decide +kernel
abbrev s5 : Stmt := top 24
abbrev N5 : List Str := ["_law_source_here", "_law_table", "_law_at", "_law_odd", "_law_options"]
theorem sc5 : FnScope N5 ["_law_source_here", "_law_table"] (defScope s5) := ⟨rfl, rfl, rfl, by decide +kernel, rfl, by decide +kernel, by decide +kernel⟩
theorem ck5 : ckSs Γ N5 (defScope s5) c__law_changed (defBody s5) = true := by decide +kernel
abbrev s6 : Stmt := top 18
abbrev N6 : List Str := ["table", "count", "start", "tolerance"]
theorem sc6 : FnScope N6 ["table", "count"] (defScope s6) := ⟨rfl, rfl, rfl, by decide +kernel, rfl, by decide +kernel, by decide +kernel⟩
theorem ck6 : ckSs Γ N6 (defScope s6) c_find_tolerance (defBody s6) = true := by decide +kernel
abbrev s7 : Stmt := top 17
abbrev N7 : List Str := ["obj", "one", "other", "step"]
theorem sc7 : FnScope N7 ["obj"] (defScope s7) := ⟨rfl, rfl, rfl, by decide +kernel, rfl, by decide +kernel, by decide +kernel⟩
theorem ck7 : ckSs Γ N7 (defScope s7) c_is_table (defBody s7) = true := by decide +kernel
abbrev s8 : Stmt := top 16
abbrev N8 : List Str := ["obj"]
theorem sc8 : FnScope N8 ["obj"] (defScope s8) := ⟨rfl, rfl, rfl, by decide +kernel, rfl, by decide +kernel, by decide +kernel⟩
theorem ck8 : ckSs Γ N8 (defScope s8) c_is_step (defBody s8) = true := by decide +kernel
abbrev s9 : Stmt := top 9
abbrev N9 : List Str := ["obj", "low", "high"]
theorem sc9 : FnScope N9 ["obj", "low", "high"] (defScope s9) := ⟨rfl, rfl, rfl, by decide +kernel, rfl, by decide +kernel, by decide +kernel⟩
theorem ck9 : ckSs Γ N9 (defScope s9) c_is_in_range (defBody s9) = true := by decide +kernel
abbrev s10 : Stmt := top 8
abbrev N10 : List Str := ["obj"]
theorem sc10 : FnScope N10 ["obj"] (defScope s10) := ⟨rfl, rfl, rfl, by decide +kernel, rfl, by decide +kernel, by decide +kernel⟩
theorem ck10 : ckSs Γ N10 (defScope s10) c_is_integer (defBody s10) = true := by decide +kernel
end Law

namespace Law
open PySem L2 PyProof.Rows PV
abbrev si0 : Stmt := inClass (top 4) 0
theorem all_mk {P : Program} {w : World} {K : PySem.W.Frag} {h : Heap} {mg : Str → Option Value} (X : K.In h) (G : h.Ns mainGlobals mg)
    {f0 f1 f2 f3 f4 f5 f6 f7 f8 f9 f10 A0 S0 C0 I0 : Addr} {od0 an0 od1 an1 od2 an2 od3 an3 od4 an4 od5 an5 od6 an6 od7 an7 od8 an8 od9 an9 od10 an10 od100 an100 : Option Addr} {sl0 sl1 sl2 sl3 sl4 sl5 sl6 sl7 sl8 sl9 sl10 sl100 : Array (Option Value)} {oc0 kV0 dc0 pm0 cd0 ct0 oc1 kV1 dc1 pm1 cd1 ct1 oc2 kV2 dc2 pm2 cd2 ct2 oc3 kV3 dc3 pm3 cd3 ct3 oc4 kV4 dc4 pm4 cd4 ct4 oc5 kV5 dc5 pm5 cd5 ct5 oc6 kV6 dc6 pm6 cd6 ct6 oc7 kV7 dc7 pm7 cd7 ct7 oc8 kV8 dc8 pm8 cd8 ct8 oc9 kV9 dc9 pm9 cd9 ct9 oc10 kV10 dc10 pm10 cd10 ct10 oc100 kV100 dc100 pm100 cd100 ct100 : Value} {t0 t1 u0 : Tok} {nm0 q0} {bs0} {bm0} {N_0} {sn0} {sub0} {ab0} {col0} {dd0 ka0 kb0 kc0 kd0 ke0}
    (a0 : PySem.W.nsIn K mainGlobals "law" = some (some (.ref f0)))
    (l0 : K.lookup f0 = some ⟨oc0, od0, .func (PySem.W.fnOf "law" "law" (defArgs s0) (defBody s0) (defScope s0) .none kV0 dc0 pm0 an0 cd0 ct0), sl0⟩)
    (c0 : PySem.W.codeIn K cd0 "law" = true)
    (k0 : PySem.W.keepIn K (.ref f0) = true)
    (a1 : PySem.W.nsIn K mainGlobals "_law_source" = some (some (.ref f1)))
    (l1 : K.lookup f1 = some ⟨oc1, od1, .func (PySem.W.fnOf "_law_source" "_law_source" (defArgs s1) (defBody s1) (defScope s1) .none kV1 dc1 pm1 an1 cd1 ct1), sl1⟩)
    (c1 : PySem.W.codeIn K cd1 "_law_source" = true)
    (k1 : PySem.W.keepIn K (.ref f1) = true)
    (a2 : PySem.W.nsIn K mainGlobals "_law_refused" = some (some (.ref f2)))
    (l2 : K.lookup f2 = some ⟨oc2, od2, .func (PySem.W.fnOf "_law_refused" "_law_refused" (defArgs s2) (defBody s2) (defScope s2) .none kV2 dc2 pm2 an2 cd2 ct2), sl2⟩)
    (c2 : PySem.W.codeIn K cd2 "_law_refused" = true)
    (k2 : PySem.W.keepIn K (.ref f2) = true)
    (a3 : PySem.W.nsIn K mainGlobals "_law_draw" = some (some (.ref f3)))
    (l3 : K.lookup f3 = some ⟨oc3, od3, .func (PySem.W.fnOf "_law_draw" "_law_draw" (defArgs s3) (defBody s3) (defScope s3) .none kV3 dc3 pm3 an3 cd3 ct3), sl3⟩)
    (c3 : PySem.W.codeIn K cd3 "_law_draw" = true)
    (k3 : PySem.W.keepIn K (.ref f3) = true)
    (a4 : PySem.W.nsIn K mainGlobals "tolerance_of" = some (some (.ref f4)))
    (l4 : K.lookup f4 = some ⟨oc4, od4, .func (PySem.W.fnOf "tolerance_of" "tolerance_of" (defArgs s4) (defBody s4) (defScope s4) .none kV4 dc4 pm4 an4 cd4 ct4), sl4⟩)
    (c4 : PySem.W.codeIn K cd4 "tolerance_of" = true)
    (k4 : PySem.W.keepIn K (.ref f4) = true)
    (a5 : PySem.W.nsIn K mainGlobals "_law_changed" = some (some (.ref f5)))
    (l5 : K.lookup f5 = some ⟨oc5, od5, .func (PySem.W.fnOf "_law_changed" "_law_changed" (defArgs s5) (defBody s5) (defScope s5) .none kV5 dc5 pm5 an5 cd5 ct5), sl5⟩)
    (c5 : PySem.W.codeIn K cd5 "_law_changed" = true)
    (k5 : PySem.W.keepIn K (.ref f5) = true)
    (a6 : PySem.W.nsIn K mainGlobals "find_tolerance" = some (some (.ref f6)))
    (l6 : K.lookup f6 = some ⟨oc6, od6, .func (PySem.W.fnOf "find_tolerance" "find_tolerance" (defArgs s6) (defBody s6) (defScope s6) .none kV6 dc6 pm6 an6 cd6 ct6), sl6⟩)
    (c6 : PySem.W.codeIn K cd6 "find_tolerance" = true)
    (k6 : PySem.W.keepIn K (.ref f6) = true)
    (a7 : PySem.W.nsIn K mainGlobals "is_table" = some (some (.ref f7)))
    (l7 : K.lookup f7 = some ⟨oc7, od7, .func (PySem.W.fnOf "is_table" "is_table" (defArgs s7) (defBody s7) (defScope s7) .none kV7 dc7 pm7 an7 cd7 ct7), sl7⟩)
    (c7 : PySem.W.codeIn K cd7 "is_table" = true)
    (k7 : PySem.W.keepIn K (.ref f7) = true)
    (a8 : PySem.W.nsIn K mainGlobals "is_step" = some (some (.ref f8)))
    (l8 : K.lookup f8 = some ⟨oc8, od8, .func (PySem.W.fnOf "is_step" "is_step" (defArgs s8) (defBody s8) (defScope s8) .none kV8 dc8 pm8 an8 cd8 ct8), sl8⟩)
    (c8 : PySem.W.codeIn K cd8 "is_step" = true)
    (k8 : PySem.W.keepIn K (.ref f8) = true)
    (a9 : PySem.W.nsIn K mainGlobals "is_in_range" = some (some (.ref f9)))
    (l9 : K.lookup f9 = some ⟨oc9, od9, .func (PySem.W.fnOf "is_in_range" "is_in_range" (defArgs s9) (defBody s9) (defScope s9) .none kV9 dc9 pm9 an9 cd9 ct9), sl9⟩)
    (c9 : PySem.W.codeIn K cd9 "is_in_range" = true)
    (k9 : PySem.W.keepIn K (.ref f9) = true)
    (a10 : PySem.W.nsIn K mainGlobals "is_integer" = some (some (.ref f10)))
    (l10 : K.lookup f10 = some ⟨oc10, od10, .func (PySem.W.fnOf "is_integer" "is_integer" (defArgs s10) (defBody s10) (defScope s10) .none kV10 dc10 pm10 an10 cd10 ct10), sl10⟩)
    (c10 : PySem.W.codeIn K cd10 "is_integer" = true)
    (k10 : PySem.W.keepIn K (.ref f10) = true)
    (g0 : PySem.W.nsIn K mainGlobals "MAX_STEPS" = some (some (.int 9 t0)))
    (g1 : PySem.W.nsIn K mainGlobals "MAX_TOLERANCE" = some (some (.int 999 t1)))
    (b0 : PySem.W.nsIn K mainGlobals "Frame" = some (some (.ref A0)))
    (rd0 : PySem.W.readsIn K A0 (.type "type") = true)
    (ga0 : PySem.W.specialIn K (.ref A0) "__getattribute__" = some (some (.builtin "type.__getattribute__")))
    (at0 : PySem.W.findCls K (.ref A0) (.type "type") "MAX_COUNT" = some (.val (.int 9999 u0)))
    (y0 : PySem.W.nsIn K mainGlobals "SkyError" = some (some (.ref S0)))
    (yr0 : PySem.W.readsIn K S0 (.type "type") = true)
    (yg0 : PySem.W.specialIn K (.ref S0) "__getattribute__" = some (some (.builtin "type.__getattribute__")))
    (yi0 : PySem.W.findCls K (.ref S0) (.type "type") "__init__" = some (.val (.builtin "ValueError.__init__")))
    (x0 : PySem.W.nsIn K mainGlobals "InvalidTable" = some (some (.ref C0)))
    (xga0 : PySem.W.findIn K (.ref C0) "__getattribute__" = some (some (.builtin "BaseException.__getattribute__")))
    (xgg0 : PySem.W.findIn K (.ref C0) "__getattr__" = some none)
    (xex0 : PySem.W.subIn K (.ref C0) (.type "BaseException") = some true)
    (xhd0 : PySem.W.hasDictIn K C0 = true)
    (xno0 : PySem.W.findIn K (.ref C0) "given" = some none)
    (xl0 : K.lookup C0 = some (excClassObj nm0 q0 C0 N_0 bs0 bm0 true sn0 sub0 ab0 col0 dd0 ka0 kb0 kc0 kd0 ke0 "ValueError.__new__"))
    (xv0 : PySem.HandSPX.refsVE bm0 = true)
    (xsa0 : PySem.W.findIn K (.ref C0) "__setattr__" = some (some (.builtin "object.__setattr__")))
    (xty0 : PySem.W.typeIn K (.ref C0) = some (.type "type"))
    (xk0 : PySem.W.keepIn K (.ref C0) = true)
    (xi0 : PySem.W.findIn K (.ref C0) "__init__" = some (some (.ref I0)))
    (xit0 : PySem.W.typeIn K (.ref I0) = some (.type "function"))
    (l100 : K.lookup I0 = some ⟨oc100, od100, .func (PySem.W.fnOf "__init__" "InvalidTable.__init__" (defArgs si0) (defBody si0) (defScope si0) .none kV100 dc100 pm100 an100 cd100 ct100), sl100⟩)
    (c100 : PySem.W.codeIn K cd100 "InvalidTable.__init__" = true)
    (k100 : PySem.W.keepIn K (.ref I0) = true)
    (xs0_0 : PySem.W.exmOne K (.ref C0) (.ref C0) = some true)
    (z_len : PySem.W.nsIn K mainGlobals "len" = some none)
    (z_max : PySem.W.nsIn K mainGlobals "max" = some none)
    (z_min : PySem.W.nsIn K mainGlobals "min" = some none)
    (z_abs : PySem.W.nsIn K mainGlobals "abs" = some none)
    (z_all : PySem.W.nsIn K mainGlobals "all" = some none)
    (z_any : PySem.W.nsIn K mainGlobals "any" = some none)
    (z_sum : PySem.W.nsIn K mainGlobals "sum" = some none)
    (z_list : PySem.W.nsIn K mainGlobals "list" = some none)
    (z_tuple : PySem.W.nsIn K mainGlobals "tuple" = some none)
    (z_repr : PySem.W.nsIn K mainGlobals "repr" = some none)
    (z_int : PySem.W.nsIn K mainGlobals "int" = some none)
    (z_isinstance : PySem.W.nsIn K mainGlobals "isinstance" = some none)
    (z_bool : PySem.W.nsIn K mainGlobals "bool" = some none)
    (z_str : PySem.W.nsIn K mainGlobals "str" = some none)
    (z_dict : PySem.W.nsIn K mainGlobals "dict" = some none)
    (z_range : PySem.W.nsIn K mainGlobals "range" = some none)
    (z_enumerate : PySem.W.nsIn K mainGlobals "enumerate" = some none)
    (z_zip : PySem.W.nsIn K mainGlobals "zip" = some none)
    : ∃ T : Tb, ∀ base : Heap, K.In base → base.Ns mainGlobals mg → Hd Γ T pg P w K mg base := by
  have F0 := fun_mk (st := s0) l0 c0 k0
  have B0 := F0.binds (ps := ["_law_script"]) fun _ _ _ _ _ _ us hl => match us, hl with | [_], _ => rfl
  have F1 := fun_mk (st := s1) l1 c1 k1
  have B1 := F1.binds (ps := ["_law_script", "_law_k"]) fun _ _ _ _ _ _ us hl => match us, hl with | [_, _], _ => rfl
  have F2 := fun_mk (st := s2) l2 c2 k2
  have B2 := F2.binds (ps := ["_law_thing"]) fun _ _ _ _ _ _ us hl => match us, hl with | [_], _ => rfl
  have F3 := fun_mk (st := s3) l3 c3 k3
  have B3 := F3.binds (ps := ["_law_source_here", "_law_amount"]) fun _ _ _ _ _ _ us hl => match us, hl with | [_, _], _ => rfl
  have F4 := fun_mk (st := s4) l4 c4 k4
  have B4 := F4.binds (ps := ["table", "count"]) fun _ _ _ _ _ _ us hl => match us, hl with | [_, _], _ => rfl
  have F5 := fun_mk (st := s5) l5 c5 k5
  have B5 := F5.binds (ps := ["_law_source_here", "_law_table"]) fun _ _ _ _ _ _ us hl => match us, hl with | [_, _], _ => rfl
  have F6 := fun_mk (st := s6) l6 c6 k6
  have B6 := F6.binds (ps := ["table", "count"]) fun _ _ _ _ _ _ us hl => match us, hl with | [_, _], _ => rfl
  have F7 := fun_mk (st := s7) l7 c7 k7
  have B7 := F7.binds (ps := ["obj"]) fun _ _ _ _ _ _ us hl => match us, hl with | [_], _ => rfl
  have F8 := fun_mk (st := s8) l8 c8 k8
  have B8 := F8.binds (ps := ["obj"]) fun _ _ _ _ _ _ us hl => match us, hl with | [_], _ => rfl
  have F9 := fun_mk (st := s9) l9 c9 k9
  have B9 := F9.binds (ps := ["obj", "low", "high"]) fun _ _ _ _ _ _ us hl => match us, hl with | [_, _, _], _ => rfl
  have F10 := fun_mk (st := s10) l10 c10 k10
  have B10 := F10.binds (ps := ["obj"]) fun _ _ _ _ _ _ us hl => match us, hl with | [_], _ => rfl
  have F100 := fun_mk (st := si0) l100 c100 k100
  have B100 := F100.binds (ps := ["self", "given"]) fun _ _ _ _ _ _ us hl => match us, hl with | [_, _], _ => rfl
  have O0 : OexC K C0 := ⟨⟨_, _, _, _, _, _, _, _, _, _, _, _, _, _, _, xl0, xv0⟩, xsa0, xex0, xty0, xk0⟩
  refine ⟨⟨K, fun k => ([C0] : List Addr).getD k 0, fun f => (["given"] : List Str).getD f "", fun _ => 0, 1⟩, fun base kb nb => ?_⟩
  refine ⟨rfl, ?_, ?_, ?_, ?_, rfl, ?_, ?_, ?_, rfl, ?_⟩
  · intro n x hn
    match n, hn with
    | 0, hn => cases hn; exact ⟨f0, _, _, s0, N0, PySem.W.mg_of X G a0, k0, B0, F0, sc0, rfl, rfl, ck0⟩
    | 1, hn => cases hn; exact ⟨f1, _, _, s1, N1, PySem.W.mg_of X G a1, k1, B1, F1, sc1, rfl, rfl, ck1⟩
    | 2, hn => cases hn; exact ⟨f2, _, _, s2, N2, PySem.W.mg_of X G a2, k2, B2, F2, sc2, rfl, rfl, ck2⟩
    | 3, hn => cases hn; exact ⟨f3, _, _, s3, N3, PySem.W.mg_of X G a3, k3, B3, F3, sc3, rfl, rfl, ck3⟩
    | 4, hn => cases hn; exact ⟨f4, _, _, s4, N4, PySem.W.mg_of X G a4, k4, B4, F4, sc4, rfl, rfl, ck4⟩
    | 5, hn => cases hn; exact ⟨f5, _, _, s5, N5, PySem.W.mg_of X G a5, k5, B5, F5, sc5, rfl, rfl, ck5⟩
    | 6, hn => cases hn; exact ⟨f6, _, _, s6, N6, PySem.W.mg_of X G a6, k6, B6, F6, sc6, rfl, rfl, ck6⟩
    | 7, hn => cases hn; exact ⟨f7, _, _, s7, N7, PySem.W.mg_of X G a7, k7, B7, F7, sc7, rfl, rfl, ck7⟩
    | 8, hn => cases hn; exact ⟨f8, _, _, s8, N8, PySem.W.mg_of X G a8, k8, B8, F8, sc8, rfl, rfl, ck8⟩
    | 9, hn => cases hn; exact ⟨f9, _, _, s9, N9, PySem.W.mg_of X G a9, k9, B9, F9, sc9, rfl, rfl, ck9⟩
    | 10, hn => cases hn; exact ⟨f10, _, _, s10, N10, PySem.W.mg_of X G a10, k10, B10, F10, sc10, rfl, rfl, ck10⟩
    | n + 11, hn => exact absurd hn (by simp [Γ])
  · intro g x hg
    match g, hg with
    | 0, hg => cases hg; exact ⟨.int 9, _, PySem.W.mg_of X G g0, ⟨_, rfl⟩, fun w => .int _⟩
    | 1, hg => cases hg; exact ⟨.int 999, _, PySem.W.mg_of X G g1, ⟨_, rfl⟩, fun w => .int _⟩
    | g + 2, hg => exact absurd hg (by simp [Γ])
  · intro g x f hg
    match g, hg with
    | 0, hg => cases hg
    | 1, hg => cases hg
    | 2, hg => cases hg; exact ⟨A0, _, .int 9999, _, PySem.W.mg_of X G b0, ⟨rd0, ga0⟩, ⟨at0, ⟨_, rfl⟩⟩, fun w => .int _⟩
    | g + 3, hg => exact absurd hg (by simp [Γ])
  · intro x hx
    simp only [bltNames, List.mem_cons, List.not_mem_nil, or_false] at hx
    rcases hx with rfl | rfl | rfl | rfl | rfl | rfl | rfl | rfl | rfl | rfl | rfl | rfl | rfl | rfl | rfl | rfl | rfl | rfl
    · exact PySem.W.mg_none_of X G z_len
    · exact PySem.W.mg_none_of X G z_max
    · exact PySem.W.mg_none_of X G z_min
    · exact PySem.W.mg_none_of X G z_abs
    · exact PySem.W.mg_none_of X G z_all
    · exact PySem.W.mg_none_of X G z_any
    · exact PySem.W.mg_none_of X G z_sum
    · exact PySem.W.mg_none_of X G z_list
    · exact PySem.W.mg_none_of X G z_tuple
    · exact PySem.W.mg_none_of X G z_repr
    · exact PySem.W.mg_none_of X G z_int
    · exact PySem.W.mg_none_of X G z_isinstance
    · exact PySem.W.mg_none_of X G z_bool
    · exact PySem.W.mg_none_of X G z_str
    · exact PySem.W.mg_none_of X G z_dict
    · exact PySem.W.mg_none_of X G z_range
    · exact PySem.W.mg_none_of X G z_enumerate
    · exact PySem.W.mg_none_of X G z_zip
  · intro k x hk
    match k, hk with
    | 0, hk => cases hk; exact ⟨PySem.W.mg_of X G x0, ⟨xga0, xgg0, xex0, xhd0⟩, xno0⟩
    | k + 1, hk => exact absurd hk (by simp [Γ])
  · intro k hk
    match k, hk with
    | 0, hk => exact ⟨O0, I0, _, _, xi0, xit0, init_ok F100 ⟨rfl, rfl, rfl, by decide +kernel, rfl, by decide +kernel, by decide +kernel⟩ (show defBody si0 = initB _ _ _ _ _ _ _ _ _ _ _ _ _ _ _ from rfl) (by decide +kernel) (by decide +kernel) (by decide +kernel) (by decide +kernel) (by decide +kernel) O0 xno0 (PySem.W.mg_of X G y0) ⟨yr0, yg0⟩ yi0 (fun env => ⟨_, rfl⟩), B100⟩
    | k + 1, hk => exact absurd hk (by simp [Γ])
  · intro k x hk hx
    match k, x, hk, hx with
    | 0, 0, _, _ => exact xs0_0
    | k + 1, x, hk, _ => exact absurd hk (by simp)
    | _, x + 1, _, hx => exact absurd hx (by simp)
  · intro f n hf
    match f, hf with
    | 0, hf => cases hf; rfl
    | f + 1, hf => exact absurd hf (by simp [Γ])
end Law

namespace Law
open PySem L2 PyProof.Rows PV

theorem cal_eq (d f : Nat) (ds : List D) (S : Store) : pg.cal (d + 1) f ds S = if ds.length = pg.np f then outR (ex (pg.gv (pg.cal d)) (pg.code f) (startD (pg.nv f) ds) S) else .stuck := rfl
theorem gv_cal (c : Nat → List D → Store → R D) : (pg.gv c).cal = c := rfl
theorem gv_gl (c : Nat → List D → Store → R D) : (pg.gv c).gl = pg.gl := rfl
theorem e0 (d : Nat) (a : D) (S : Store) : pg.cal (d + 1) 0 [a] S = outR (ex (pg.gv (pg.cal d)) c_law [some a, none, none, none, none, none, none, none, none, none, none] S) := rfl
theorem e1 (d : Nat) (a b : D) (S : Store) : pg.cal (d + 1) 1 [a, b] S = outR (ex (pg.gv (pg.cal d)) c__law_source [some a, some b, none, none, none] S) := rfl
theorem e2 (d : Nat) (a : D) (S : Store) : pg.cal (d + 1) 2 [a] S = outR (ex (pg.gv (pg.cal d)) c__law_refused [some a, none] S) := rfl
theorem e3 (d : Nat) (a b : D) (S : Store) : pg.cal (d + 1) 3 [a, b] S = outR (ex (pg.gv (pg.cal d)) c__law_draw [some a, some b, none] S) := rfl
theorem e4 (d : Nat) (a b : D) (S : Store) : pg.cal (d + 1) 4 [a, b] S = outR (ex (pg.gv (pg.cal d)) c_tolerance_of [some a, some b] S) := rfl
theorem e5 (d : Nat) (a b : D) (S : Store) : pg.cal (d + 1) 5 [a, b] S = outR (ex (pg.gv (pg.cal d)) c__law_changed [some a, some b, none, none, none] S) := rfl
theorem e6 (d : Nat) (a b : D) (S : Store) : pg.cal (d + 1) 6 [a, b] S = outR (ex (pg.gv (pg.cal d)) c_find_tolerance [some a, some b, none, none] S) := rfl
theorem e7 (d : Nat) (a : D) (S : Store) : pg.cal (d + 1) 7 [a] S = outR (ex (pg.gv (pg.cal d)) c_is_table [some a, none, none, none] S) := rfl
theorem e8 (d : Nat) (a : D) (S : Store) : pg.cal (d + 1) 8 [a] S = outR (ex (pg.gv (pg.cal d)) c_is_step [some a] S) := rfl
theorem e9 (d : Nat) (a b c : D) (S : Store) : pg.cal (d + 1) 9 [a, b, c] S = outR (ex (pg.gv (pg.cal d)) c_is_in_range [some a, some b, some c] S) := rfl
theorem e10 (d : Nat) (a : D) (S : Store) : pg.cal (d + 1) 10 [a] S = outR (ex (pg.gv (pg.cal d)) c_is_integer [some a] S) := rfl
theorem gl0 (c : Nat → List D → Store → R D) : (pg.gv c).gl 0 = .int 9 := rfl
theorem gl1 (c : Nat → List D → Store → R D) : (pg.gv c).gl 1 = .int 999 := rfl
theorem gl2 (c : Nat → List D → Store → R D) : (pg.gv c).gl 2 = .int 9999 := rfl
/-- the pool at r -/
def Src (S : Store) (r : Nat) : Prop := ∃ n s : Int, S[r]? = some (.lst [.int n, .int s]) ∧ 0 ≤ s ∧ s < 2147483647
theorem mul_ok {i j : Int} (hi : i.natAbs < 2 ^ 400000) (hj : j.natAbs < 2 ^ 400000) : mulOk i j = true := by
  have h : ∀ k : Nat, k < 2 ^ 400000 → k.log2 ≤ 400000 := fun k hk => by
    by_cases h0 : k = 0
    · subst h0; exact Nat.zero_le _
    · exact Nat.le_of_lt ((Nat.log2_lt h0).mpr hk)
  unfold mulOk
  have a := h _ hi
  have b := h _ hj
  exact decide_eq_true (by omega)
theorem small {i : Int} (h : i.natAbs < 4294967296) : i.natAbs < 2 ^ 400000 := Nat.lt_of_lt_of_le h (Nat.pow_le_pow_right (n := 2) (i := 32) (by decide) (by decide))
theorem draw_ok {d r : Nat} {S : Store} {m : Int} (hS : Src S r) (h0 : 0 < m) (h1 : m ≤ 100000) :
    ∃ (g n' s' : Int), pg.cal (d + 1) 3 [.ref r, .int m] S = .ok (.int g) (S.set r (.lst [.int n', .int s'])) ∧ 0 ≤ g ∧ g < m ∧ 0 ≤ s' ∧ s' < 2147483647 := by
  obtain ⟨n, s, hS, hs0, hs1⟩ := hS
  have hl : r < S.length := (List.getElem?_eq_some_iff.mp hS).1
  have hm2 : m.natAbs.log2 < 9000 := by
    have : m.natAbs < 2 ^ 17 := by omega
    have := (Nat.log2_lt (n := m.natAbs) (k := 17) (by omega)).mpr this
    omega
  by_cases hn : 0 < n
  · refine ⟨n % m, n / m, s, ?_, Int.emod_nonneg _ (by omega), Int.emod_lt_of_pos _ h0, hs0, hs1⟩
    rw [cal_eq]
    simp [pg, codes, c__law_draw, Pg.gv, startD, ex, ev, evs, evT, RofS, R.bind, idx2, deref, hS, ixD, atI, ixN, optB, cmpD, hn, bin2, h0, hm2, setI, bindT, outR]
  · have k1 : mulOk s 48271 = true := mul_ok (small (by omega)) (small (by decide))
    have e : ∀ t : Int, 0 ≤ t → t < 2147483647 → mulOk t t = true := fun t a b => mul_ok (small (by omega)) (small (by omega))
    have ht0 : 0 ≤ (s * 48271 + 11) % 2147483647 := Int.emod_nonneg _ (by decide)
    have ht1 : (s * 48271 + 11) % 2147483647 < 2147483647 := Int.emod_lt_of_pos _ (by decide)
    have k2 := e _ ht0 ht1
    refine ⟨(s * 48271 + 11) % 2147483647 * ((s * 48271 + 11) % 2147483647) % 2147483629 / 64 % m, n, (s * 48271 + 11) % 2147483647, ?_, Int.emod_nonneg _ (by omega), Int.emod_lt_of_pos _ h0, ht0, ht1⟩
    have l64 : Nat.log2 64 < 9000 := by decide +kernel
    rw [cal_eq]
    simp [pg, codes, c__law_draw, Pg.gv, startD, ex, ev, evs, evT, RofS, R.bind, idx2, deref, hS, ixD, atI, ixN, optB, cmpD, hn, bin2, h0, k1, k2, setI, bindT, outR, List.getElem?_set_self hl, l64]
theorem Src.after {S : Store} {r : Nat} (h : Src S r) {n' s' : Int} (a : 0 ≤ s') (b : s' < 2147483647) : Src (S.set r (.lst [.int n', .int s'])) r := by
  obtain ⟨n, s, hS, _⟩ := h
  exact ⟨n', s', List.getElem?_set_self (List.getElem?_eq_some_iff.mp hS).1, a, b⟩
/-- data without cells -/
def plain : D → Bool
  | .ref _ => false
  | .scr _ => false
  | .obj _ _ _ => false
  | _ => true
def isInt : D → Bool
  | .int _ => true
  | _ => false
theorem integer_ok {d : Nat} {x : D} {S : Store} (h : plain x = true) : pg.cal (d + 1) 10 [x] S = .ok (.bl (isInt x)) S := by
  rw [e10]
  cases x <;> first | (cases h; done) | (simp [c_is_integer, ex, ev, RofS, R.bind, isiD, deref, optD, truD, outR, isInt])
def inRange (x : D) (lo hi : Int) : Bool := match x with
  | .int i => decide (lo ≤ i) && decide (i ≤ hi)
  | _ => false
theorem range_ok {d : Nat} {x : D} {S : Store} {lo hi : Int} (h : plain x = true) : pg.cal (d + 2) 9 [x, .int lo, .int hi] S = .ok (.bl (inRange x lo hi)) S := by
  rw [e9]
  have hx := integer_ok (d := d) (S := S) h
  simp only [c_is_in_range, ex, ev, evs, gv_cal, R.bind, RofS, List.getElem?_cons_zero, List.getElem?_cons_succ, hx]
  cases x <;> first | (cases h; done) | (simp [deref, truD, isInt, outR, inRange]; done) | skip
  rename_i i
  by_cases h1 : lo ≤ i <;> simp [deref, truD, isInt, outR, inRange, cmpD, optD, h1]
def isStep (x : D) : Bool := match x with
  | .tup [a, b] => inRange a 0 9999 && inRange b 0 999
  | _ => false
def plain2 : D → Bool
  | .tup ds => ds.all plain
  | d => plain d
theorem step_ok {d : Nat} {x : D} {S : Store} (h : plain2 x = true) : pg.cal (d + 3) 8 [x] S = .ok (.bl (isStep x)) S := by
  rw [e8]
  cases x with
  | tup ds =>
    match ds, h with
    | [a, b], h =>
      have h' : (plain a && (plain b && true)) = true := h
      rw [Bool.and_eq_true, Bool.and_eq_true] at h'
      have ha := range_ok (d := d) (S := S) (lo := 0) (hi := 9999) h'.1
      have hb := range_ok (d := d) (S := S) (lo := 0) (hi := 999) h'.2.1
      simp [c_is_step, ex, ev, evs, evT, gv_cal, gl1, gl2, R.bind, RofS, isiD, deref, optD, optB, truD, biD, biLen, lenD, cmpD, eqD, idx2, ixD, atI, ixN, ha, hb, outR, isStep]
      cases inRange a 0 9999 <;> simp [deref, truD]
    | [], _ => simp [c_is_step, ex, ev, evs, evT, gv_cal, R.bind, RofS, isiD, deref, optD, optB, truD, biD, biLen, lenD, cmpD, eqD, outR, isStep]
    | [_], _ => simp [c_is_step, ex, ev, evs, evT, gv_cal, R.bind, RofS, isiD, deref, optD, optB, truD, biD, biLen, lenD, cmpD, eqD, outR, isStep]
    | _ :: _ :: _ :: r, _ =>
      have : ¬ ((r.length : Int) + 1 + 1 + 1 = 2) := by omega
      simp [c_is_step, ex, ev, evs, evT, gv_cal, R.bind, RofS, isiD, deref, optD, optB, truD, biD, biLen, lenD, cmpD, eqD, outR, isStep, this]
  | _ => first | (cases h; done) | (simp [c_is_step, ex, ev, evs, evT, gv_cal, R.bind, RofS, isiD, deref, optD, optB, truD, outR, isStep])
end Law

namespace Law
open PV

def mkP (p : Int × Int) : D := .tup [.int p.1, .int p.2]
theorem steps_ps : ∀ {ds : List D}, ds.all isStep = true → ∃ ps : List (Int × Int), ds = ps.map mkP ∧ ∀ p ∈ ps, 0 ≤ p.1 ∧ p.1 ≤ 9999 ∧ 0 ≤ p.2 ∧ p.2 ≤ 999
  | [], _ => ⟨[], rfl, fun p h => nomatch h⟩
  | x :: xs, h => by
    rw [List.all_cons, Bool.and_eq_true] at h
    obtain ⟨ps, rfl, hp⟩ := steps_ps h.2
    have hx := h.1
    unfold isStep at hx
    split at hx
    · rename_i a b
      rw [Bool.and_eq_true] at hx
      obtain ⟨h1, h2⟩ := hx
      unfold inRange at h1 h2
      split at h1
      · rename_i i
        split at h2
        · rename_i j
          simp only [Bool.and_eq_true, decide_eq_true_eq] at h1 h2
          refine ⟨(i, j) :: ps, rfl, fun p hp' => ?_⟩
          rcases List.mem_cons.mp hp' with e | e
          · subst e; exact ⟨h1.1, h1.2, h2.1, h2.2⟩
          · exact hp p e
        · cases h2
      · cases h1
    · cases hx
theorem isStep_mk {p : Int × Int} (h : 0 ≤ p.1 ∧ p.1 ≤ 9999 ∧ 0 ≤ p.2 ∧ p.2 ≤ 999) : isStep (mkP p) = true := by
  simp [isStep, mkP, inRange, h.1, h.2.1, h.2.2.1, h.2.2.2]
def incr (ps : List (Int × Int)) : Bool := (ps.zip (ps.drop 1)).all fun q => decide (q.1.1 < q.2.1)
def isTab (ds : List D) : Bool := decide (1 ≤ ds.length) && decide (ds.length ≤ 9) && ds.all isStep
def plain3 : D → Bool
  | .tup ds => ds.all plain2
  | d => plain d
theorem bls_map {α : Type} (f : α → Bool) : ∀ l : List α, blsD (l.map fun x => .bl (f x)) = some (l.map f)
  | [] => rfl
  | x :: xs => by simp [blsD, bls_map f xs]
theorem zip_mk : ∀ (ps qs : List (Int × Int)), ((ps.map mkP).zip (qs.map mkP)).map (fun p => D.tup [p.1, p.2]) = (ps.zip qs).map fun q => D.tup [mkP q.1, mkP q.2]
  | [], _ => rfl
  | _ :: _, [] => rfl
  | p :: ps, q :: qs => by simp [zip_mk ps qs]
theorem cut1 {α : Type} (x : α) (xs : List α) : cutD (x :: xs) (some 1) none = xs := by
  simp [cutD, HT.sIx]
theorem plain2_mk (p : Int × Int) : plain2 (mkP p) = true := rfl
/-- the steps' turn of is_table -/
theorem comp_steps {d : Nat} {ds : List D} {S : Store} {δ : Env} (hδ : ∃ a b c e, δ = [a, b, c, e]) (h : ds.all plain2 = true) :
    compL (.one 3) (evT (pg.gv (pg.cal (d + 3))) .nil) (ev (pg.gv (pg.cal (d + 3))) (.call 8 (.cons (.var 3) .nil))) δ ds S = .ok (ds.map fun x => .bl (isStep x)) S := by
  obtain ⟨a, b, c, e, rfl⟩ := hδ
  refine comp_map ds fun x hx => ⟨[a, b, c, some x], rfl, rfl, ?_⟩
  have hp := List.all_eq_true.mp h x hx
  rw [v_call]
  exact step_ok hp
theorem comp_less {d : Nat} {qs : List ((Int × Int) × (Int × Int))} {S : Store} {δ : Env} (hδ : ∃ a b c e, δ = [a, b, c, e]) :
    compL (.tup [1, 2]) (evT (pg.gv (pg.cal (d + 3))) .nil) (ev (pg.gv (pg.cal (d + 3))) (.cmp .lt (.idx (.var 1) (.con (.int 0))) (.idx (.var 2) (.con (.int 0))))) δ (qs.map fun q => D.tup [mkP q.1, mkP q.2]) S = .ok (qs.map fun q => .bl (decide (q.1.1 < q.2.1))) S := by
  obtain ⟨a, b, c, e, rfl⟩ := hδ
  have key := comp_map (tg := .tup [1, 2]) (cnd := evT (pg.gv (pg.cal (d + 3))) .nil) (elt := ev (pg.gv (pg.cal (d + 3))) (.cmp .lt (.idx (.var 1) (.con (.int 0))) (.idx (.var 2) (.con (.int 0))))) (δ := [a, b, c, e]) (S := S)
    (f := fun x => match x with | .tup [.tup [.int i, _], .tup [.int j, _]] => .bl (decide (i < j)) | _ => .non) (qs.map fun q => D.tup [mkP q.1, mkP q.2]) fun x hx => ?_
  · rw [key, List.map_map]
    rfl
  · obtain ⟨q, _, rfl⟩ := List.mem_map.mp hx
    exact ⟨[a, some (mkP q.1), some (mkP q.2), e], rfl, rfl, rfl⟩
abbrev G4 (d : Nat) : Gv := pg.gv (pg.cal (d + 3))
abbrev kT1 : C := .or (.not (.tst (.isi (.var 0) .tuple))) (.not (.tchain .le .le (.con (.int 1)) (.bi .len (.cons (.var 0) .nil)) (.glob 0)))
abbrev kA1 : C := .bi .all (.cons (.comp false (.one 3) (.tst (.var 0)) .nil (.call 8 (.cons (.var 3) .nil))) .nil)
abbrev kN1 : C := .tcmp .ne (.idx (.idx (.var 0) (.con (.int 0))) (.con (.int 0))) (.con (.int 0))
abbrev kA2 : C := .bi .all (.cons (.comp false (.tup [1, 2]) (.zip (.var 0) (.sl false (.var 0) (.cons (.con (.int 1)) .nil) .nil)) .nil (.cmp .lt (.idx (.var 1) (.con (.int 0))) (.idx (.var 2) (.con (.int 0))))) .nil)
theorem table_gen {d : Nat} {x : D} {S : Store} {b1 b2 b3 b4 : Bool} (h1 : evT (G4 d) kT1 [some x, none, none, none] S = .ok b1 S) (h2 : b1 = false → ev (G4 d) kA1 [some x, none, none, none] S = .ok (.bl b2) S)
    (h3 : b1 = false → b2 = true → evT (G4 d) kN1 [some x, none, none, none] S = .ok b3 S) (h4 : b1 = false → b2 = true → b3 = false → ev (G4 d) kA2 [some x, none, none, none] S = .ok (.bl b4) S) :
    pg.cal (d + 4) 7 [x] S = .ok (.bl (!b1 && (b2 && (!b3 && b4)))) S := by
  have e : c_is_table = .cons (.ifs kT1 (.cons (.ret (.con (.bl false))) .nil) .nil) (.cons (.ifs (.or (.not (.tst kA1)) kN1) (.cons (.ret (.con (.bl false))) .nil) .nil) (.cons (.ret kA2) .nil)) := rfl
  rw [e7, e, c_ifs, x_ifs, h1]
  cases b1 with
  | true => rfl
  | false =>
    have q2 := h2 rfl
    simp only [x_nil, c_ifs, x_ifs, t_or, t_not, t_tst, q2, b_ok]
    cases b2 with
    | false => rfl
    | true =>
      have q3 := h3 rfl rfl
      simp only [deref, truD, optB, b_ok, Bool.not_true, Bool.false_eq_true, if_false, q3]
      cases b3 with
      | true => rfl
      | false =>
        have q4 := h4 rfl rfl rfl
        simp only [c_ret, x_ret, q4, r_ok]
        rfl
theorem t1_tup {d : Nat} {ds : List D} {S : Store} : evT (G4 d) kT1 [some (.tup ds), none, none, none] S = .ok (!(decide (1 ≤ ds.length) && decide (ds.length ≤ 9))) S := by
  have i1 : ((1 : Int) ≤ ds.length) = (1 ≤ ds.length) := by rw [← Int.natCast_one, Int.ofNat_le]
  have i2 : ((ds.length : Int) ≤ 9) = (ds.length ≤ 9) := propext (by omega)
  show (R.bind _ _) = _
  simp only [kT1, t_or, t_not, t_tst, t_chain, v_isi, v_var, v_con, v_glob, v_bi, s_cons, s_nil, b_ok, List.getElem?_cons_zero, isiD, deref, optD, optB, truD, biD, biLen, lenD, cmpD, gl0, Bool.not_true, Bool.false_eq_true, if_false]
  by_cases h1 : 1 ≤ ds.length
  · have h1' : (1 : Int) ≤ ds.length := by omega
    by_cases h2 : ds.length ≤ 9
    · have h2' : (ds.length : Int) ≤ 9 := by omega
      simp [h1, h2, h1', h2', optB, R.bind]
    · have h2' : ¬ (ds.length : Int) ≤ 9 := by omega
      simp [h1, h2, h1', h2', optB, R.bind]
  · have h1' : ¬ (1 : Int) ≤ ds.length := by omega
    simp [h1, h1', optB, R.bind]
theorem a1_tup {d : Nat} {ds : List D} {S : Store} (hp : ds.all plain2 = true) (h9 : ds.length ≤ 9) : ev (G4 d) kA1 [some (.tup ds), none, none, none] S = .ok (.bl (ds.all isStep)) S := by
  have hc := comp_steps (d := d) (S := S) (δ := [some (.tup ds), none, none, none]) ⟨_, _, _, _, rfl⟩ hp
  have f9 : fits (ds.map fun x => D.bl (isStep x)).length = true := decide_eq_true (by rw [List.length_map]; omega)
  have e : ((ds.map isStep).all id) = ds.all isStep := by rw [List.all_map]; rfl
  simp only [kA1, v_bi, v_comp, i_tst, v_var, s_cons, s_nil, b_ok, List.getElem?_cons_zero, itD, hc, newL, f9, if_true, if_false, Bool.false_eq_true, biD, biAll, deref, isL, Option.bind_some, bls_map, e]
theorem n1_tup {d : Nat} {p : Int × Int} {ps : List (Int × Int)} {S : Store} : evT (G4 d) kN1 [some (.tup ((p :: ps).map mkP)), none, none, none] S = .ok (!decide (p.1 = 0)) S := by
  have h : (0 : Int) < (ps.length : Int) + 1 := by omega
  simp [kN1, t_cmp, v_idx, v_var, v_con, R.bind, idx2, deref, ixD, L2.atI, L2.ixN, mkP, optB, cmpD, eqD, h]
theorem a2_tup {d : Nat} {p : Int × Int} {ps : List (Int × Int)} {S : Store} (h9 : ps.length ≤ 9) : ev (G4 d) kA2 [some (.tup ((p :: ps).map mkP)), none, none, none] S = .ok (.bl (incr (p :: ps))) S := by
  have hq := comp_less (d := d) (qs := (p :: ps).zip ps) (S := S) (δ := [some (.tup ((p :: ps).map mkP)), none, none, none]) ⟨_, _, _, _, rfl⟩
  have hz : (((p :: ps).map mkP).zip (ps.map mkP)).map (fun (x, y) => D.tup [x, y]) = _ := zip_mk (p :: ps) ps
  have hcut : cutD ((p :: ps).map mkP) (some 1) none = ps.map mkP := cut1 _ _
  have hi : ((((p :: ps).zip ps).map fun q => decide (q.1.1 < q.2.1)).all id) = incr (p :: ps) := by
    rw [List.all_map]
    rfl
  have fz : fits (((p :: ps).zip ps).map fun q => D.bl (decide (q.1.1 < q.2.1))).length = true := by
    refine decide_eq_true ?_
    rw [List.length_map, List.length_zip]
    simp only [List.length_cons]
    omega
  simp only [kA2, v_bi, v_comp, i_zip, v_sl, o_cons, o_nil, v_con, v_var, s_cons, s_nil, b_ok, List.getElem?_cons_zero, sl2, deref, hcut, zipD, hz, hq, newL, fz, if_true, if_false, Bool.false_eq_true, biD, biAll, isL, Option.bind_some, bls_map, hi]
theorem table_yes {d : Nat} {p : Int × Int} {ps : List (Int × Int)} {S : Store} (hl : ps.length ≤ 8) (hr : ∀ q ∈ p :: ps, 0 ≤ q.1 ∧ q.1 ≤ 9999 ∧ 0 ≤ q.2 ∧ q.2 ≤ 999) (h0 : p.1 = 0) (hi : incr (p :: ps) = true) : pg.cal (d + 4) 7 [.tup ((p :: ps).map mkP)] S = .ok (.bl true) S := by
  have ha : ((p :: ps).map mkP).all isStep = true := by
    rw [List.all_eq_true]
    intro x hx
    obtain ⟨q, hq, rfl⟩ := List.mem_map.mp hx
    exact isStep_mk (hr q hq)
  have hp : ((p :: ps).map mkP).all plain2 = true := by
    rw [List.all_eq_true]
    intro x hx
    obtain ⟨q, hq, rfl⟩ := List.mem_map.mp hx
    rfl
  have h9 : ((p :: ps).map mkP).length ≤ 9 := by simp; omega
  have h1 : 1 ≤ ((p :: ps).map mkP).length := by simp
  have key := table_gen (d := d) (S := S) (t1_tup (ds := (p :: ps).map mkP)) (fun _ => a1_tup hp h9) (fun _ _ => n1_tup) (fun _ _ _ => a2_tup (by omega))
  rw [key, ha, hi, h0]
  simp [h9, h1]
  omega
theorem table_no {d : Nat} {x : D} {S : Store} (h : plain3 x = true) (hn : ∀ (p : Int × Int) (ps : List (Int × Int)), x = .tup ((p :: ps).map mkP) → ps.length ≤ 8 → (∀ q ∈ p :: ps, 0 ≤ q.1 ∧ q.1 ≤ 9999 ∧ 0 ≤ q.2 ∧ q.2 ≤ 999) → p.1 = 0 → incr (p :: ps) = false) : pg.cal (d + 4) 7 [x] S = .ok (.bl false) S := by
  cases x with
  | tup ds =>
    have hp : ds.all plain2 = true := h
    by_cases hb : (!(decide (1 ≤ ds.length) && decide (ds.length ≤ 9))) = true
    · rw [table_gen (b2 := false) (b3 := false) (b4 := false) t1_tup (fun z => by rw [hb] at z; cases z) (fun z => by rw [hb] at z; cases z) (fun z => by rw [hb] at z; cases z), hb]
      rfl
    · have hb' : (!(decide (1 ≤ ds.length) && decide (ds.length ≤ 9))) = false := Bool.eq_false_iff.mpr hb
      have hl : 1 ≤ ds.length ∧ ds.length ≤ 9 := by
        have z : (decide (1 ≤ ds.length) && decide (ds.length ≤ 9)) = true := by simpa only [Bool.not_eq_false'] using hb'
        rw [Bool.and_eq_true] at z
        exact ⟨of_decide_eq_true z.1, of_decide_eq_true z.2⟩
      by_cases ha : ds.all isStep = true
      · obtain ⟨ps, rfl, hr⟩ := steps_ps ha
        cases ps with
        | nil => simp at hl
        | cons p ps =>
          have hl2 : ps.length ≤ 8 := by
            have := hl.2
            simp at this
            omega
          have key := table_gen (d := d) (S := S) (t1_tup (ds := (p :: ps).map mkP)) (fun _ => a1_tup hp hl.2) (fun _ _ => n1_tup) (fun _ _ _ => a2_tup (by omega))
          rw [key]
          by_cases h0 : p.1 = 0
          · rw [hn p ps rfl hl2 hr h0]
            simp
          · simp [h0]
      · have ha' : ds.all isStep = false := by simpa using ha
        rw [table_gen (b3 := false) (b4 := false) t1_tup (fun _ => a1_tup hp hl.2) (fun _ z => by rw [ha'] at z; cases z) (fun _ z => by rw [ha'] at z; cases z), ha']
        simp
  | _ => first | (cases h; done) | rfl
end Law

namespace Law
open PV

theorem last_at {α : Type} {l : List α} {x : α} (h : l.getLast? = some x) : L2.atI l (-1) = some x := by
  have hne : l ≠ [] := fun z => by rw [z] at h; cases h
  have hl : 0 < l.length := List.length_pos_iff.mpr hne
  unfold L2.atI L2.ixN
  rw [if_neg (by omega), if_pos (by omega)]
  show l[((-1 : Int) + (l.length : Nat)).toNat]? = some x
  have e : ((-1 : Int) + (l.length : Nat)).toNat = l.length - 1 := by omega
  rw [e, ← List.getLast?_eq_getElem?]
  exact h
theorem find_ok {d : Nat} {ps : List (Int × Int)} {c : Int} {q : Int × Int} {S : Store} (hl : ps.length ≤ 1000) (h : (ps.filter fun p => decide (p.1 ≤ c)).getLast? = some q) : pg.cal (d + 1) 6 [.tup (ps.map mkP), .int c] S = .ok (.int q.2) S := by
  have hc : compL (.tup [2, 3]) (evT (pg.gv (pg.cal d)) (.tcmp .le (.var 2) (.var 1))) (ev (pg.gv (pg.cal d)) (.var 3)) [some (.tup (ps.map mkP)), some (.int c), none, none] (ps.map mkP) S = .ok ((ps.filter fun p => decide (p.1 ≤ c)).map fun p => D.int p.2) S := by
    rw [comp_filter (p := fun x => match x with | .tup [.int i, _] => decide (i ≤ c) | _ => false) (f := fun x => match x with | .tup [_, y] => y | _ => .non) (ps.map mkP) fun x hx => ?_]
    · rw [List.filter_map, List.map_map]
      rfl
    · obtain ⟨p, _, rfl⟩ := List.mem_map.mp hx
      exact ⟨[some (.tup (ps.map mkP)), some (.int c), some (.int p.1), some (.int p.2)], rfl, rfl, fun _ => rfl⟩
  have ff : fits ((ps.filter fun p => decide (p.1 ≤ c)).map fun p => D.int p.2).length = true := by
    refine decide_eq_true ?_
    rw [List.length_map]
    exact Nat.le_trans (List.length_filter_le _ _) (by omega)
  have hx : L2.atI ((ps.filter fun p => decide (p.1 ≤ c)).map fun p => D.int p.2) (-1) = some (.int q.2) := last_at (by rw [List.getLast?_map, h]; rfl)
  rw [e6]
  simp only [c_find_tolerance, c_ret, x_ret, v_idx, v_comp, i_tst, v_var, v_neg, v_con, b_ok, List.getElem?_cons_zero, itD, hc, newL, ff, if_true, if_false, Bool.false_eq_true, idx2, deref, ixD, hx, r_ok, outR]
theorem tol_yes {d : Nat} {p : Int × Int} {ps : List (Int × Int)} {c : Int} {q : Int × Int} {S : Store} (hl : ps.length ≤ 8) (hr : ∀ q ∈ p :: ps, 0 ≤ q.1 ∧ q.1 ≤ 9999 ∧ 0 ≤ q.2 ∧ q.2 ≤ 999) (h0 : p.1 = 0) (hi : incr (p :: ps) = true) (h : ((p :: ps).filter fun p => decide (p.1 ≤ c)).getLast? = some q) :
    pg.cal (d + 5) 4 [.tup ((p :: ps).map mkP), .int c] S = .ok (.int q.2) S := by
  have ht := table_yes (d := d) (S := S) hl hr h0 hi
  have hf := find_ok (d := d + 3) (S := S) (c := c) (q := q) (ps := p :: ps) (by simp; omega) h
  rw [e4]
  simp only [c_tolerance_of, c_ifs, c_ret, x_ifs, x_ret, x_nil, t_not, t_tst, v_call, v_var, s_cons, s_nil, b_ok, List.getElem?_cons_zero, List.getElem?_cons_succ, gv_cal, ht, hf, truD, deref, optB, Bool.not_true, r_ok, outR]
theorem tol_no {d : Nat} {x : D} {c : Int} {S : Store} (ht : pg.cal (d + 4) 7 [x] S = .ok (.bl false) S) : pg.cal (d + 5) 4 [x, .int c] S = .ex 0 x S := by
  rw [e4]
  simp only [c_tolerance_of, c_ifs, c_ret, c_raise, x_ifs, x_ret, x_raise, x_nil, t_not, t_tst, v_call, v_var, s_cons, s_nil, b_ok, List.getElem?_cons_zero, List.getElem?_cons_succ, gv_cal, ht, truD, deref, optB, Bool.not_false, r_ok, outR]
theorem refused_ok {d : Nat} {x : D} {S : Store} {t : PySem.Str} (ht : pg.cal (d + 4) 7 [x] S = .ok (.bl false) S) (hr : reprD S x = some t) : pg.cal (d + 6) 2 [x] S = .ok (.bl true) S := by
  have hn := tol_no (c := 5) ht
  have hsub : ∀ c : Nat → List D → Store → R D, (pg.gv c).sub 0 0 = true := fun _ => rfl
  have hef : ∀ c : Nat → List D → Store → R D, (pg.gv c).ef 0 = 0 := fun _ => rfl
  rw [e2]
  simp only [c__law_refused, c_try, c_expr, x_try, x_expr, x_nil, v_call, v_var, v_con, v_cmp, v_bi, v_eget, s_cons, s_nil, b_ok, List.getElem?_cons_zero, List.getElem?_cons_succ, gv_cal, hn, RofS, R.bind, hsub, hef, if_true, List.length_cons, List.length_nil, List.set_cons_succ, List.set_cons_zero, biD, biRepr, hr, optD, cmpD, eqD, decide_true]
  rfl
end Law

namespace Law
open PV
abbrev k1 : C := (.set (.one 2) (.call 3 (.cons (.var 0) (.cons (.bi .len (.cons (.var 1) .nil)) .nil))))
abbrev k2 : C := (.set (.one 3) (.lst false (.cons (.tup (.cons (.idx (.idx (.var 1) (.var 2)) (.con (.int 0))) (.cons (.con (.int 1000)) .nil))) (.cons (.tup (.cons (.idx (.idx (.var 1) (.var 2)) (.con (.int 0))) (.cons (.neg (.con (.int 1))) .nil))) (.cons (.tup (.cons (.idx (.idx (.var 1) (.var 2)) (.con (.int 0))) .nil)) (.cons (.lst false (.cons (.con (.int 0)) (.cons (.con (.int 1)) .nil))) (.cons (.con .non) (.cons (.tup (.cons (.con (.bl true)) (.cons (.con (.int 1)) .nil))) (.cons (.tup (.cons (.idx (.idx (.var 1) (.var 2)) (.con (.int 0))) (.cons (.con (.bl true)) .nil))) .nil)))))))))
abbrev k3 : C := (.set (.one 3) (.bin .add (.var 3) (.lst false (.cons (.tup (.cons (.idx (.idx (.var 1) (.var 2)) (.con (.int 0))) (.cons (.con (.int 1)) (.cons (.con (.int 1)) .nil)))) (.cons (.tup (.cons (.con (.int 10000)) (.cons (.con (.int 1)) .nil))) (.cons (.tup (.cons (.neg (.con (.int 1))) (.cons (.con (.int 1)) .nil))) (.cons (.tup (.cons (.con (.str "0")) (.cons (.con (.int 1)) .nil))) (.cons (.tup (.cons (.idx (.idx (.var 1) (.var 2)) (.con (.int 0))) (.cons (.con (.str "1")) .nil))) .nil))))))))
abbrev k4 : C := (.set (.one 4) (.lst false (.cons (.bin .add (.bin .add (.sl false (.var 1) .nil (.cons (.var 2) .nil)) (.tup (.cons (.idx (.var 3) (.call 3 (.cons (.var 0) (.cons (.con (.int 12)) .nil)))) .nil))) (.sl false (.var 1) (.cons (.bin .add (.var 2) (.con (.int 1))) .nil) .nil)) (.cons (.bin .add (.var 1) (.sl false (.var 1) (.cons (.neg (.con (.int 1))) .nil) .nil)) (.cons (.bi (.list false) (.cons (.var 1) .nil)) (.cons (.tup .nil) .nil))))))
abbrev k5 : C := (.set (.one 4) (.bin .add (.var 4) (.lst false (.cons (.bin .add (.tup (.cons (.tup (.cons (.con (.int 1)) (.cons (.con (.int 1)) .nil))) .nil)) (.sl false (.var 1) (.cons (.con (.int 1)) .nil) .nil)) (.cons (.bin .add (.rev false (.var 1)) (.tup (.cons (.tup (.cons (.con (.int 0)) (.cons (.con (.int 0)) .nil))) .nil))) (.cons (.con .non) (.cons (.dct false .nil .nil) (.cons (.con (.str "table")) (.cons (.con (.int 5)) .nil)))))))))
abbrev k6 : C := (.ret (.idx (.var 4) (.idx (.lst false (.cons (.con (.int 0)) (.cons (.con (.int 0)) (.cons (.con (.int 0)) (.cons (.call 3 (.cons (.var 0) (.cons (.con (.int 10)) .nil))) .nil))))) (.call 3 (.cons (.var 0) (.cons (.con (.int 4)) .nil))))))
theorem changed_code : c__law_changed = .cons k1 (.cons k2 (.cons k3 (.cons k4 (.cons k5 (.cons k6 .nil))))) := rfl
def odds1 (a : Int) : List D := [.tup [.int a, .int 1000], .tup [.int a, .int (-1)], .tup [.int a], .lst [.int 0, .int 1], .non, .tup [.bl true, .int 1], .tup [.int a, .bl true]]
def odds2 (a : Int) : List D := [.tup [.int a, .int 1, .int 1], .tup [.int 10000, .int 1], .tup [.int (-1), .int 1], .tup [.str "0", .int 1], .tup [.int a, .str "1"]]
def opts1 (L : List D) (g : Nat) (o l : D) : List D := [.tup (L.take g ++ [o] ++ L.drop (g + 1)), .tup (L ++ [l]), .lst L, .tup []]
def opts2 (L : List D) : List D := [.tup ([.tup [.int 1, .int 1]] ++ L.drop 1), .tup (L.reverse ++ [.tup [.int 0, .int 0]]), .non, .dct [] [], .str "table", .int 5]
theorem at_nat {α : Type} {l : List α} {i : Int} {x : α} (h0 : 0 ≤ i) (h : l[i.toNat]? = some x) : L2.atI l i = some x := by
  have hl : i.toNat < l.length := (List.getElem?_eq_some_iff.mp h).1
  unfold L2.atI L2.ixN
  rw [if_pos h0, if_pos (by omega)]
  exact h
theorem at_some {α : Type} {l : List α} {i : Int} (h0 : 0 ≤ i) (h1 : i < l.length) : ∃ x, x ∈ l ∧ L2.atI l i = some x := by
  have hl : i.toNat < l.length := by omega
  exact ⟨l[i.toNat], List.getElem_mem hl, at_nat h0 (List.getElem?_eq_getElem hl)⟩
theorem cut_to {α : Type} (l : List α) {i : Int} (h0 : 0 ≤ i) (h1 : i < l.length) : cutD l none (some i) = l.take i.toNat := by
  have : ¬ (i < 0) := by omega
  have e : min i.toNat l.length = i.toNat := by omega
  simp [cutD, HT.sIx, this, e]
theorem cut_from {α : Type} (l : List α) {i : Int} (h0 : 0 ≤ i) (h1 : i < l.length) : cutD l (some (i + 1)) none = l.drop (i.toNat + 1) := by
  have : ¬ (i + 1 < 0) := by omega
  have e : min (i + 1).toNat l.length = i.toNat + 1 := by omega
  simp only [cutD, HT.sIx, this, if_false, e]
  rw [List.take_of_length_le (by rw [List.length_drop]; exact Nat.le_refl _)]
theorem cut_last {α : Type} {l : List α} {x : α} (h : l.getLast? = some x) : cutD l (some (-1)) none = [x] := by
  have hne : l ≠ [] := fun z => by rw [z] at h; cases h
  have hl : 0 < l.length := List.length_pos_iff.mpr hne
  have e : ((-1 : Int) + (l.length : Nat)).toNat = l.length - 1 := by omega
  simp only [cutD, HT.sIx, show ((-1 : Int) < 0) from by decide, if_true, e]
  rw [List.take_of_length_le (by rw [List.length_drop]; exact Nat.le_refl _)]
  have hx : l[l.length - 1]? = some x := by rw [← List.getLast?_eq_getElem?]; exact h
  have hlt : l.length - 1 < l.length := by omega
  have hv : l[l.length - 1] = x := by
    rw [List.getElem?_eq_getElem hlt] at hx
    exact Option.some.inj hx
  rw [List.drop_eq_getElem_cons hlt, hv, List.drop_of_length_le (by omega)]
theorem cut_one {α : Type} {l : List α} (h : 1 ≤ l.length) : cutD l (some 1) none = l.drop 1 := by
  cases l with
  | nil => simp at h
  | cons x xs => exact cut1 x xs
theorem fit {n : Nat} (h : n ≤ 1000) : fits n = true := decide_eq_true (by omega)
theorem changed_ok {d r : Nat} {S : Store} {L : List (Int × Int)} (hS : Src S r) (h1 : 1 ≤ L.length) (h9 : L.length ≤ 9) :
    ∃ (q : Int × Int) (g : Nat) (o l x : D) (S' : Store), pg.cal (d + 2) 5 [.ref r, .tup (L.map mkP)] S = .ok x S' ∧ Src S' r ∧ q ∈ L ∧ g < L.length ∧ o ∈ odds1 q.1 ++ odds2 q.1 ∧ (L.map mkP).getLast? = some l ∧ x ∈ opts1 (L.map mkP) g o l ++ opts2 (L.map mkP) := by
  have hlen : (L.map mkP).length = L.length := List.length_map _
  generalize hM : L.map mkP = M at hlen ⊢
  have hM1 : 1 ≤ M.length := by omega
  have hM9 : M.length ≤ 9 := by omega
  obtain ⟨l, hl⟩ : ∃ l, M.getLast? = some l := by
    cases hh : M.getLast? with
    | some l => exact ⟨l, rfl⟩
    | none =>
      rw [List.getLast?_eq_none_iff] at hh
      rw [hh] at hM1
      simp at hM1
  obtain ⟨g1, n1, s1, hd1, a1, b1, c1, e1'⟩ := draw_ok (d := d) (m := (M.length : Int)) hS (by omega) (by omega)
  have hS1 := hS.after (n' := n1) c1 e1'
  generalize S.set r (.lst [.int n1, .int s1]) = S1 at hd1 hS1
  obtain ⟨g2, n2, s2, hd2, a2, b2, c2, e2'⟩ := draw_ok (d := d) (m := 12) hS1 (by decide) (by decide)
  have hS2 := hS1.after (n' := n2) c2 e2'
  generalize S1.set r (.lst [.int n2, .int s2]) = S2 at hd2 hS2
  obtain ⟨g3, n3, s3, hd3, a3, b3, c3, e3'⟩ := draw_ok (d := d) (m := 10) hS2 (by decide) (by decide)
  have hS3 := hS2.after (n' := n3) c3 e3'
  generalize S2.set r (.lst [.int n3, .int s3]) = S3 at hd3 hS3
  obtain ⟨g4, n4, s4, hd4, a4, b4, c4, e4'⟩ := draw_ok (d := d) (m := 4) hS3 (by decide) (by decide)
  have hS4 := hS3.after (n' := n4) c4 e4'
  generalize S3.set r (.lst [.int n4, .int s4]) = S4 at hd4 hS4
  obtain ⟨m, hm, hatM⟩ := at_some (l := M) a1 (by omega)
  obtain ⟨q, hq, rfl⟩ : ∃ q, q ∈ L ∧ mkP q = m := by
    rw [← hM] at hm
    exact List.mem_map.mp hm
  have hI : ∀ S, idx2 (.tup M) (.int g1) S = .ok (mkP q) S := fun S => by
    simp only [idx2, deref, ixD, hatM]
  have hI0 : ∀ S, idx2 (mkP q) (.int 0) S = .ok (.int q.1) S := fun S => rfl
  obtain ⟨o, ho, hatO⟩ := at_some (l := odds1 q.1 ++ odds2 q.1) a2 (by simpa [odds1, odds2] using b2)
  have hO : ∀ S, idx2 (.lst (odds1 q.1 ++ odds2 q.1)) (.int g2) S = .ok o S := fun S => by
    simp only [idx2, deref, ixD, hatO]
  -- the statements
  have t1 : ex (pg.gv (pg.cal (d + 1))) k1 [some (.ref r), some (.tup M), none, none, none] S = .nx [some (.ref r), some (.tup M), some (.int g1), none, none] S1 := by
    simp only [k1, x_set, v_call, v_bi, v_var, s_cons, s_nil, b_ok, List.getElem?_cons_zero, List.getElem?_cons_succ, gv_cal, biD, biLen, lenD, deref, hd1, r_ok]
    rfl
  have t2 : ex (pg.gv (pg.cal (d + 1))) k2 [some (.ref r), some (.tup M), some (.int g1), none, none] S1 = .nx [some (.ref r), some (.tup M), some (.int g1), some (.lst (odds1 q.1)), none] S1 := by
    simp only [k2, x_set, v_lst, v_tup, v_idx, v_var, v_con, v_neg, s_cons, s_nil, b_ok, List.getElem?_cons_zero, List.getElem?_cons_succ, hI, hI0, r_ok, List.length_cons, List.length_nil, newL]
    rfl
  have t3 : ex (pg.gv (pg.cal (d + 1))) k3 [some (.ref r), some (.tup M), some (.int g1), some (.lst (odds1 q.1)), none] S1 = .nx [some (.ref r), some (.tup M), some (.int g1), some (.lst (odds1 q.1 ++ odds2 q.1)), none] S1 := by
    simp only [k3, x_set, v_bin, v_lst, v_tup, v_idx, v_var, v_con, v_neg, s_cons, s_nil, b_ok, List.getElem?_cons_zero, List.getElem?_cons_succ, hI, hI0, r_ok, List.length_cons, List.length_nil, newL]
    rfl
  have fa : fits (M.take g1.toNat ++ [o] ++ M.drop (g1.toNat + 1)).length = true := fit (by simp; omega)
  have t4 : ex (pg.gv (pg.cal (d + 1))) k4 [some (.ref r), some (.tup M), some (.int g1), some (.lst (odds1 q.1 ++ odds2 q.1)), none] S1 = .nx [some (.ref r), some (.tup M), some (.int g1), some (.lst (odds1 q.1 ++ odds2 q.1)), some (.lst (opts1 M g1.toNat o l))] S2 := by
    have f1 : fits ((M.take g1.toNat).length + 1) = true := fit (by rw [List.length_take]; omega)
    have f2 : fits ((M.take g1.toNat ++ [o]).length + (M.drop (g1.toNat + 1)).length) = true := fit (by simp; omega)
    have f3 : fits (M.length + 1) = true := fit (by omega)
    have f4 : fits M.length = true := fit (by omega)
    simp only [k4, x_set, v_bin, v_lst, v_tup, v_sl, v_idx, v_call, v_bi, v_var, v_con, v_neg, s_cons, s_nil, o_cons, o_nil, b_ok, List.getElem?_cons_zero, List.getElem?_cons_succ, gv_cal, bin2, sl2, deref, cut_to M a1 (by omega), cut_from M a1 (by omega), cut_last hl, hd2, hO, biD, biList, newL, List.length_cons, List.length_nil, Nat.zero_add, f1, f2, f3, f4, if_true, if_false, Bool.false_eq_true, r_ok, show fits 1 = true from rfl, show fits 0 = true from rfl]
    rfl
  have t5 : ex (pg.gv (pg.cal (d + 1))) k5 [some (.ref r), some (.tup M), some (.int g1), some (.lst (odds1 q.1 ++ odds2 q.1)), some (.lst (opts1 M g1.toNat o l))] S2 = .nx [some (.ref r), some (.tup M), some (.int g1), some (.lst (odds1 q.1 ++ odds2 q.1)), some (.lst (opts1 M g1.toNat o l ++ opts2 M))] S2 := by
    have f1 : fits (1 + (M.drop 1).length) = true := fit (by rw [List.length_drop]; omega)
    have f2 : fits (M.reverse.length + 1) = true := fit (by rw [List.length_reverse]; omega)
    simp only [k5, x_set, v_bin, v_lst, v_tup, v_sl, v_rev, v_dct, v_var, v_con, s_cons, s_nil, o_cons, o_nil, b_ok, List.getElem?_cons_zero, List.getElem?_cons_succ, bin2, sl2, deref, cut_one hM1, newL, List.length_cons, List.length_nil, Nat.zero_add, f1, f2, if_true, if_false, Bool.false_eq_true, r_ok, show fits 1 = true from rfl, show fits 2 = true from rfl]
    rfl
  obtain ⟨j, hj, hatJ⟩ := at_some (l := [D.int 0, .int 0, .int 0, .int g3]) a4 (by simpa using b4)
  have hJ : ∃ i : Int, j = .int i ∧ 0 ≤ i ∧ i < 10 := by
    simp at hj
    rcases hj with h | h
    · exact ⟨0, h, by decide, by decide⟩
    · exact ⟨g3, h, a3, b3⟩
  obtain ⟨i, rfl, i0, i1⟩ := hJ
  obtain ⟨x, hx, hatX⟩ := at_some (l := opts1 M g1.toNat o l ++ opts2 M) i0 (by simpa [opts1, opts2] using i1)
  have t6 : ex (pg.gv (pg.cal (d + 1))) k6 [some (.ref r), some (.tup M), some (.int g1), some (.lst (odds1 q.1 ++ odds2 q.1)), some (.lst (opts1 M g1.toNat o l ++ opts2 M))] S2 = .rt x S4 := by
    simp only [k6, x_ret, v_idx, v_lst, v_call, v_var, v_con, s_cons, s_nil, b_ok, List.getElem?_cons_zero, List.getElem?_cons_succ, gv_cal, hd3, hd4, newL, List.length_cons, List.length_nil, show fits (0 + 1 + 1 + 1 + 1) = true from rfl, if_true, if_false, Bool.false_eq_true, idx2, deref, ixD, hatJ, hatX, r_ok]
  refine ⟨q, g1.toNat, o, l, x, S4, ?_, hS4, hq, by omega, ho, hl, hx⟩
  rw [e5, changed_code, c_set, t1]
  simp only []
  rw [c_set, t2]
  simp only []
  rw [c_set, t3]
  simp only []
  rw [c_set, t4]
  simp only []
  rw [c_set, t5]
  simp only []
  rw [c_ret, t6]
  rfl
end Law

namespace Law
open PV

/-- a table that is one -/
structure Tbl (L : List (Int × Int)) : Prop where
  ne : 1 ≤ L.length
  le : L.length ≤ 9
  rg : ∀ q ∈ L, 0 ≤ q.1 ∧ q.1 ≤ 9999 ∧ 0 ≤ q.2 ∧ q.2 ≤ 999
  hd : ∀ p ps, L = p :: ps → p.1 = 0
  up : incr L = true
theorem incr_pw : ∀ {ps : List (Int × Int)}, incr ps = true → ps.Pairwise fun a b => a.1 < b.1
  | [], _ => .nil
  | [a], _ => .cons (fun _ h => nomatch h) .nil
  | a :: b :: r, h => by
    have h' : (decide (a.1 < b.1) && incr (b :: r)) = true := h
    rw [Bool.and_eq_true] at h'
    have hab := of_decide_eq_true h'.1
    have ih := incr_pw h'.2
    refine .cons (fun x hx => ?_) ih
    rcases List.mem_cons.mp hx with e | e
    · rw [e]; exact hab
    · have := List.rel_of_pairwise_cons ih e
      omega
theorem mkP_inj {a b : Int × Int} (h : mkP a = mkP b) : a = b := by
  obtain ⟨a1, a2⟩ := a
  obtain ⟨b1, b2⟩ := b
  simp [mkP] at h
  rw [h.1, h.2]
theorem map_inj : ∀ {a b : List (Int × Int)}, a.map mkP = b.map mkP → a = b
  | [], [], _ => rfl
  | [], _ :: _, h => nomatch h
  | _ :: _, [], h => nomatch h
  | x :: xs, y :: ys, h => by
    rw [List.map_cons, List.map_cons] at h
    injection h with h1 h2
    rw [mkP_inj h1, map_inj h2]
theorem log_ok {i : Int} (h : i.natAbs ≤ 100000) : i.natAbs.log2 < 1920 := by
  by_cases h0 : i.natAbs = 0
  · rw [h0]; decide +kernel
  · have := (Nat.log2_lt (k := 17) h0).mpr (by omega)
    omega
theorem odd_ok {a : Int} (ha : 0 ≤ a ∧ a ≤ 9999) {o : D} (h : o ∈ odds1 a ++ odds2 a) : isStep o = false ∧ plain2 o = true ∧ okD 80 1 o = true := by
  have l1 : a.natAbs.log2 < 1920 := log_ok (by omega)
  have l2 : Nat.log2 1000 < 1920 := by decide +kernel
  have l3 : Nat.log2 1 < 1920 := by decide +kernel
  have l4 : Nat.log2 10000 < 1920 := by decide +kernel
  have l5 : Nat.log2 0 < 1920 := by decide +kernel
  have r1 : (PySem.reprText "0").length ≤ 1921 := by decide +kernel
  have r2 : (PySem.reprText "1").length ≤ 1921 := by decide +kernel
  simp only [odds1, odds2, List.cons_append, List.nil_append, List.mem_cons, List.not_mem_nil, or_false] at h
  rcases h with h | h | h | h | h | h | h | h | h | h | h | h <;> subst h <;> simp [isStep, inRange, plain2, plain, okD, l1, l2, l3, l4, l5, r1, r2]
theorem mk_ok {q : Int × Int} (h : 0 ≤ q.1 ∧ q.1 ≤ 9999 ∧ 0 ≤ q.2 ∧ q.2 ≤ 999) : okD 80 1 (mkP q) = true := by
  have l1 : q.1.natAbs.log2 < 1920 := log_ok (by omega)
  have l2 : q.2.natAbs.log2 < 1920 := log_ok (by omega)
  simp [mkP, okD, l1, l2]
theorem seq_ok {ds : List D} (hl : ds.length ≤ 80) (h : ∀ d ∈ ds, okD 80 1 d = true) : okD 80 2 (.tup ds) = true ∧ okD 80 2 (.lst ds) = true := by
  have e : (decide (ds.length ≤ 80) && ds.all (okD 80 1)) = true := by
    rw [Bool.and_eq_true]
    exact ⟨decide_eq_true hl, List.all_eq_true.mpr h⟩
  exact ⟨e, e⟩
theorem tup_no {d : Nat} {ds : List D} {S : Store} (hl : ds.length ≤ 80) (hp : ∀ x ∈ ds, plain2 x = true ∧ okD 80 1 x = true)
    (hn : ∀ (p : Int × Int) (ps : List (Int × Int)), ds = (p :: ps).map mkP → (∀ q ∈ p :: ps, 0 ≤ q.1 ∧ q.1 ≤ 9999 ∧ 0 ≤ q.2 ∧ q.2 ≤ 999) → p.1 = 0 → incr (p :: ps) = true → False) : pg.cal (d + 4) 7 [.tup ds] S = .ok (.bl false) S ∧ ∃ t, reprD S (.tup ds) = some t := by
  refine ⟨table_no (List.all_eq_true.mpr fun x hx => (hp x hx).1) fun p ps e _ hr h0 => ?_, repr_ok (seq_ok hl fun x hx => (hp x hx).2).1 (by decide) (by decide)⟩
  have e' : ds = (p :: ps).map mkP := by injection e
  cases hi : incr (p :: ps) with
  | false => rfl
  | true => exact (hn p ps e' hr h0 hi).elim
theorem opt_no {d g : Nat} {L : List (Int × Int)} {q : Int × Int} {o l x : D} {S : Store} (T : Tbl L) (hq : q ∈ L) (ho : o ∈ odds1 q.1 ++ odds2 q.1) (hl : (L.map mkP).getLast? = some l) (hx : x ∈ opts1 (L.map mkP) g o l ++ opts2 (L.map mkP)) :
    pg.cal (d + 4) 7 [x] S = .ok (.bl false) S ∧ ∃ t, reprD S x = some t := by
  have ne := T.ne
  have le := T.le
  obtain ⟨o1, o2, o3⟩ := odd_ok ⟨(T.rg q hq).1, (T.rg q hq).2.1⟩ ho
  have hM : ∀ x ∈ L.map mkP, plain2 x = true ∧ okD 80 1 x = true := fun x hx => by
    obtain ⟨p, hp, rfl⟩ := List.mem_map.mp hx
    exact ⟨rfl, mk_ok (T.rg p hp)⟩
  have pw := incr_pw T.up
  obtain ⟨p0, L', rfl⟩ : ∃ p0 L', L = p0 :: L' := by
    cases L with
    | nil => simp at ne
    | cons a b => exact ⟨a, b, rfl⟩
  have h00 := T.hd p0 L' rfl
  have hlen : ((p0 :: L').map mkP).length ≤ 9 := by rw [List.length_map]; exact le
  have hll : ∃ z ∈ p0 :: L', l = mkP z := by
    have := List.mem_of_getLast? hl
    obtain ⟨z, hz, e⟩ := List.mem_map.mp this
    exact ⟨z, hz, e.symm⟩
  obtain ⟨z, hz, rfl⟩ := hll
  generalize hMM : (p0 :: L').map mkP = M at hM hlen hl hx
  simp only [opts1, opts2, List.cons_append, List.nil_append, List.mem_cons, List.not_mem_nil, or_false] at hx
  rcases hx with h | h | h | h | h | h | h | h | h | h <;> subst h
  · -- one step replaced
    refine tup_no ?_ (fun y hy => ?_) fun p ps e hr _ _ => ?_
    · simp; omega
    · rcases List.mem_append.mp hy with h | h
      · rcases List.mem_append.mp h with h | h
        · exact hM y (List.mem_of_mem_take h)
        · rw [List.mem_singleton.mp h]
          exact ⟨o2, o3⟩
      · exact hM y (List.mem_of_mem_drop h)
    · have hm : o ∈ (p :: ps).map mkP := by rw [← e]; simp
      obtain ⟨w, hw, rfl⟩ := List.mem_map.mp hm
      rw [isStep_mk (hr w hw)] at o1
      cases o1
  · -- the last one twice
    refine tup_no (by simp; omega) (fun y hy => ?_) fun p ps e hr _ hi => ?_
    · rcases List.mem_append.mp hy with h | h
      · exact hM y h
      · rw [List.mem_singleton.mp h]
        exact ⟨rfl, mk_ok (T.rg z hz)⟩
    · have e2 : ((p0 :: L') ++ [z]).map mkP = (p :: ps).map mkP := by rw [List.map_append, hMM]; exact e
      have e3 := map_inj e2
      have pw2 := incr_pw hi
      rw [← e3] at pw2
      have := (List.pairwise_append.mp pw2).2.2 z hz z List.mem_cons_self
      omega
  · exact ⟨rfl, repr_ok (seq_ok (by omega) fun y hy => (hM y hy).2).2 (by decide) (by decide)⟩
  · exact tup_no (by simp) (fun y hy => nomatch hy) fun p ps e _ _ _ => nomatch e
  · -- another first step
    refine tup_no (by simp; omega) (fun y hy => ?_) fun p ps e _ h0 _ => ?_
    · rcases List.mem_cons.mp hy with h | h
      · subst h
        exact ⟨rfl, by decide +kernel⟩
      · exact hM y (List.mem_of_mem_drop h)
    · rw [List.map_cons] at e
      injection e with e1 _
      have : p = (1, 1) := mkP_inj (show mkP p = mkP (1, 1) from e1.symm)
      rw [this] at h0
      exact absurd h0 (by decide)
  · -- backwards
    refine tup_no (by simp; omega) (fun y hy => ?_) fun p ps e hr _ hi => ?_
    · rcases List.mem_append.mp hy with h | h
      · exact hM y (List.mem_reverse.mp h)
      · rw [List.mem_singleton.mp h]
        exact ⟨rfl, by decide +kernel⟩
    · have e2 : ((p0 :: L').reverse ++ [(0, 0)]).map mkP = (p :: ps).map mkP := by rw [List.map_append, List.map_reverse, hMM]; exact e
      have e3 := map_inj e2
      have pw2 := incr_pw hi
      rw [← e3] at pw2
      have := (List.pairwise_append.mp pw2).2.2 p0 (List.mem_reverse.mpr List.mem_cons_self) (0, 0) List.mem_cons_self
      rw [h00] at this
      exact absurd this (by decide)
  · exact ⟨rfl, repr_ok (n := 80) (k := 2) rfl (by decide) (by decide)⟩
  · exact ⟨rfl, _, rfl⟩
  · exact ⟨rfl, repr_ok (n := 80) (k := 2) (by decide +kernel) (by decide) (by decide)⟩
  · exact ⟨rfl, repr_ok (n := 80) (k := 2) (by decide +kernel) (by decide) (by decide)⟩
end Law

namespace Law
open PV

def srcRest : C := (.cons (.set (.one 3) (.bi .max (.cons (.var 2) (.cons (.bin .sub (.neg (.con (.int 1))) (.var 2)) .nil)))) (.cons (.set (.one 4) (.bin .mod (.bin .add (.bin .add (.bin .mul (.bin .mod (.var 3) (.con (.int 2147483629))) (.con (.int 16807))) (.bin .mul (.con (.int 104729)) (.var 1))) (.con (.int 11))) (.con (.int 2147483647)))) (.cons (.ifs (.tcmp .lt (.var 3) (.bin .pow (.con (.int 10)) (.con (.int 18)))) (.cons (.set (.one 3) (.con (.int 0))) .nil) .nil) (.cons (.ret (.lst true (.cons (.var 3) (.cons (.var 4) .nil)))) .nil))))
theorem source_ok {d : Nat} {ns : List Int} {k : Int} {S : Store} (h0 : 0 ≤ k) (h1 : k < 1000) :
    ∃ n s : Int, pg.cal (d + 1) 1 [.scr ns, .int k] S = .ok (.ref S.length) (S ++ [.lst [.int n, .int s]]) ∧ 0 ≤ s ∧ s < 2147483647 := by
  -- from any cell on
  have rest : ∀ c : Int, ∃ n s : Int, ex (pg.gv (pg.cal d)) srcRest [some (.scr ns), some (.int k), some (.int c), none, none] S = .rt (.ref S.length) (S ++ [.lst [.int n, .int s]]) ∧ 0 ≤ s ∧ s < 2147483647 := by
    intro c
    generalize hm : (if (-1 - c) > c then (-1 - c) else c) = m
    have e1 : biD .max [D.int c, .int (-1 - c)] S = .ok (.int m) S := by rw [← hm]; rfl
    have a0 : 0 ≤ m % 2147483629 := Int.emod_nonneg _ (by decide)
    have a1 : m % 2147483629 < 2147483629 := Int.emod_lt_of_pos _ (by decide)
    have k1 : mulOk (m % 2147483629) 16807 = true := mul_ok (small (by omega)) (small (by decide))
    have k2 : mulOk 104729 k = true := mul_ok (small (by decide)) (small (by omega))
    have b0 : 0 ≤ (m % 2147483629 * 16807 + 104729 * k + 11) % 2147483647 := Int.emod_nonneg _ (by decide)
    have b1 : (m % 2147483629 * 16807 + 104729 * k + 11) % 2147483647 < 2147483647 := Int.emod_lt_of_pos _ (by decide)
    refine ⟨if m < 10 ^ 18 then 0 else m, (m % 2147483629 * 16807 + 104729 * k + 11) % 2147483647, ?_, b0, b1⟩
    generalize hs : (m % 2147483629 * 16807 + 104729 * k + 11) % 2147483647 = s
    have e2 : ev (pg.gv (pg.cal d)) (.bin .mod (.bin .add (.bin .add (.bin .mul (.bin .mod (.var 3) (.con (.int 2147483629))) (.con (.int 16807))) (.bin .mul (.con (.int 104729)) (.var 1))) (.con (.int 11))) (.con (.int 2147483647))) [some (.scr ns), some (.int k), some (.int c), some (.int m), none] S = .ok (.int s) S := by
      rw [← hs]
      simp [v_bin, v_var, v_con, b_ok, bin2, deref, k1, k2]
    have e3 : ev (pg.gv (pg.cal d)) (.bin .pow (.con (.int 10)) (.con (.int 18))) [some (.scr ns), some (.int k), some (.int c), some (.int m), some (.int s)] S = .ok (.int (10 ^ 18)) S := rfl
    have e4 : ev (pg.gv (pg.cal d)) (.bi .max (.cons (.var 2) (.cons (.bin .sub (.neg (.con (.int 1))) (.var 2)) .nil))) [some (.scr ns), some (.int k), some (.int c), none, none] S = .ok (.int m) S := by
      rw [← e1]; rfl
    simp only [srcRest, c_set, c_ifs, c_ret, x_set, x_ifs, x_ret, e4, r_ok, bindT, List.set_cons_succ, List.set_cons_zero, e2, t_cmp, v_var, List.getElem?_cons_zero, List.getElem?_cons_succ, b_ok, e3, cmpD, optB, x_nil]
    by_cases hlt : m < 10 ^ 18
    · simp only [hlt, decide_true, if_true, x_set, v_con, r_ok, bindT, c_ret, x_ret, c_set, x_nil, v_lst, s_cons, s_nil, v_var, List.getElem?_cons_zero, List.getElem?_cons_succ, List.set_cons_succ, List.set_cons_zero, b_ok, newL, List.length_cons, List.length_nil]
      rfl
    · simp only [hlt, decide_false, if_false, x_set, v_con, r_ok, bindT, c_ret, x_ret, x_nil, v_lst, s_cons, s_nil, v_var, List.getElem?_cons_zero, List.getElem?_cons_succ, b_ok, newL, List.length_cons, List.length_nil]
      rfl
  rw [e1]
  have hk : c__law_source = .cons (.set (.one 2) (.con (.int 0))) (.cons (.ifs (.tcmp .lt (.var 1) (.bi .len (.cons (.var 0) .nil))) (.cons (.set (.one 2) (.idx (.var 0) (.var 1))) .nil) .nil) srcRest) := rfl
  rw [hk]
  by_cases hlt : k < ns.length
  · obtain ⟨c, hc, hat⟩ := at_some (l := ns) h0 hlt
    obtain ⟨n, s, hr, h2⟩ := rest c
    refine ⟨n, s, ?_, h2⟩
    simp only [c_set, c_ifs, x_set, x_ifs, v_con, r_ok, bindT, List.set_cons_succ, List.set_cons_zero, t_cmp, v_var, v_bi, s_cons, s_nil, b_ok, List.getElem?_cons_zero, List.getElem?_cons_succ, biD, biLen, lenD, deref, cmpD, optB, hlt, decide_true, x_nil, v_idx, idx2, ixD, hat]
    rw [hr]
    rfl
  · obtain ⟨n, s, hr, h2⟩ := rest 0
    refine ⟨n, s, ?_, h2⟩
    simp only [c_set, c_ifs, x_set, x_ifs, v_con, r_ok, bindT, List.set_cons_succ, List.set_cons_zero, t_cmp, v_var, v_bi, s_cons, s_nil, b_ok, List.getElem?_cons_zero, List.getElem?_cons_succ, biD, biLen, lenD, deref, cmpD, optB, hlt, decide_false, x_nil]
    rw [hr]
    rfl
/-- the steps of a table, each with a drawn tolerance -/
theorem comp_draw {d r : Nat} {δ : Env} (hδ : ∃ x0 x1 x2 x4 x5 x6 x7 x8 x9 x10, δ = [x0, x1, x2, some (.ref r), x4, x5, x6, x7, x8, x9, x10]) : ∀ (st : List Int) (S : Store), Src S r →
    ∃ (L : List (Int × Int)) (S' : Store), compL (.one 8) (evT (pg.gv (pg.cal (d + 1))) .nil) (ev (pg.gv (pg.cal (d + 1))) (.tup (.cons (.var 8) (.cons (.call 3 (.cons (.var 3) (.cons (.con (.int 1000)) .nil))) .nil)))) δ (st.map .int) S = .ok (L.map mkP) S' ∧ Src S' r ∧ L.map (·.1) = st ∧ (∀ q ∈ L, 0 ≤ q.2 ∧ q.2 ≤ 999)
  | [], S, hS => ⟨[], S, rfl, hS, rfl, fun _ h => nomatch h⟩
  | i :: st, S, hS => by
    obtain ⟨x0, x1, x2, x4, x5, x6, x7, x8, x9, x10, rfl⟩ := hδ
    obtain ⟨g, n, s, hd, a, b, c, e⟩ := draw_ok (d := d) (m := 1000) hS (by decide) (by decide)
    have hS1 := hS.after (n' := n) c e
    generalize S.set r (.lst [.int n, .int s]) = S1 at hd hS1
    obtain ⟨L, S', h1, h2, h3, h4⟩ := comp_draw (d := d) ⟨x0, x1, x2, x4, x5, x6, x7, x8, x9, x10, rfl⟩ st S1 hS1
    have he : ev (pg.gv (pg.cal (d + 1))) (.tup (.cons (.var 8) (.cons (.call 3 (.cons (.var 3) (.cons (.con (.int 1000)) .nil))) .nil))) [x0, x1, x2, some (.ref r), x4, x5, x6, x7, some (.int i), x9, x10] S = .ok (mkP (i, g)) S1 := by
      simp only [v_tup, v_call, v_var, v_con, s_cons, s_nil, b_ok, List.getElem?_cons_zero, List.getElem?_cons_succ, gv_cal, hd, List.length_cons, List.length_nil]
      rfl
    have hb : bindT (.one 8) (.int i) (wipeD [x0, x1, x2, some (.ref r), x4, x5, x6, x7, x8, x9, x10] (slots (.one 8))) = some [x0, x1, x2, some (.ref r), x4, x5, x6, x7, some (.int i), x9, x10] := rfl
    refine ⟨(i, g) :: L, S', ?_, h2, by rw [List.map_cons, h3], fun q hq => ?_⟩
    · rw [List.map_cons]
      unfold compL
      simp only [hb, t_nil, he, h1]
      rfl
    · rcases List.mem_cons.mp hq with z | z
      · subst z; exact ⟨a, by show g ≤ 999; omega⟩
      · exact h4 q z
end Law

namespace Law
open PV
def b1 : C := (.set (.one 3) (.call 1 (.cons (.var 0) (.cons (.var 1) .nil))))
def b2 : C := (.set (.one 4) (.lst true (.cons (.con (.int 0)) .nil)))
def b3s : C := (.expr (.app (.var 4) (.bin .add (.bin .add (.idx (.var 4) (.neg (.con (.int 1)))) (.con (.int 1))) (.call 3 (.cons (.var 3) (.cons (.con (.int 1000)) .nil))))))
def b3 : C := (.for_ (.one 5) (.rng (.con (.int 0)) (.call 3 (.cons (.var 3) (.cons (.con (.int 9)) .nil)))) (.cons b3s .nil))
def b5 : C := (.set (.one 6) (.bi .tuple (.cons (.comp false (.one 8) (.tst (.var 4)) .nil (.tup (.cons (.var 8) (.cons (.call 3 (.cons (.var 3) (.cons (.con (.int 1000)) .nil))) .nil)))) .nil)))
def i1 : C := (.set (.one 9) (.ite (.tcmp .eq (.bin .add (.var 7) (.con (.int 1))) (.bi .len (.cons (.var 4) .nil))) (.con (.int 9999)) (.bin .sub (.idx (.var 4) (.bin .add (.var 7) (.con (.int 1)))) (.con (.int 1)))))
def i2s : C := (.ifs (.tcmp .ne (.call 4 (.cons (.var 6) (.cons (.var 10) .nil))) (.idx (.idx (.var 6) (.var 7)) (.con (.int 1)))) (.cons (.ret (.con (.bl false))) .nil) .nil)
def i2 : C := (.for_ (.one 10) (.tst (.lst false (.cons (.var 8) (.cons (.var 9) (.cons (.bin .fdiv (.bin .add (.var 8) (.var 9)) (.con (.int 2))) .nil))))) (.cons i2s .nil))
def b6 : C := (.for_ (.tup [7, 8]) (.enum (.var 4)) (.cons i1 (.cons i2 .nil)))
def b7 : C := (.ifs (.not (.tst (.call 2 (.cons (.call 5 (.cons (.var 3) (.cons (.var 6) .nil))) .nil)))) (.cons (.ret (.con (.bl false))) .nil) .nil)
def bb : C := (.cons b1 (.cons b2 (.cons b3 (.cons (.frzV 4) (.cons b5 (.cons b6 (.cons b7 .nil)))))))
def w1 : C := (.set (.one 2) (.bi .tuple (.cons (.comp false (.one 8) (.rng (.con (.int 0)) (.con (.int 10))) .nil (.tup (.cons (.var 8) (.cons (.con (.int 1)) .nil)))) .nil)))
def w2 : C := (.ret (.and (.call 2 (.cons (.var 2) .nil)) (.cmp .eq (.call 4 (.cons (.sl false (.var 2) .nil (.cons (.con (.int 9)) .nil)) (.cons (.con (.int 9999)) .nil))) (.con (.int 1)))))
theorem law_code : c_law = .cons (.for_ (.one 1) (.rng (.con (.int 0)) (.bi .max (.cons (.con (.int 1)) (.cons (.bi .min (.cons (.bi .len (.cons (.var 0) .nil)) (.cons (.con (.int 15)) .nil))) .nil)))) bb) (.cons w1 (.cons w2 .nil)) := rfl
theorem filter_at {c : Int} : ∀ {L : List (Int × Int)} {j : Nat} {q : Int × Int}, (L.Pairwise fun a b => a.1 < b.1) → L[j]? = some q → q.1 ≤ c → (∀ q', L[j + 1]? = some q' → c < q'.1) → (L.filter fun p => decide (p.1 ≤ c)).getLast? = some q
  | a :: L, 0, q, pw, hq, h1, h2 => by
    have e : a = q := by simpa using hq
    subst e
    have none : L.filter (fun p => decide (p.1 ≤ c)) = [] := by
      rw [List.filter_eq_nil_iff]
      intro x hx
      cases L with
      | nil => cases hx
      | cons b L =>
        have hb := h2 b rfl
        have pw2 := (List.pairwise_cons.mp pw).2
        rcases List.mem_cons.mp hx with z | z
        · subst z; simp; omega
        · have := (List.pairwise_cons.mp pw2).1 x z
          simp; omega
    rw [List.filter_cons, if_pos (by simpa using h1), none]
    rfl
  | a :: L, j + 1, q, pw, hq, h1, h2 => by
    have hq' : L[j]? = some q := by simpa using hq
    have hm : q ∈ L := List.mem_of_getElem? hq'
    have ha := (List.pairwise_cons.mp pw).1 q hm
    have ih := filter_at (c := c) (List.pairwise_cons.mp pw).2 hq' h1 fun q' z => h2 q' (by simpa using z)
    rw [List.filter_cons, if_pos (by simp; omega), List.getLast?_cons, ih]
    rfl
structure St (st : List Int) (i : Nat) : Prop where
  len : st.length = i + 1
  hd : st.head? = some 0
  pw : st.Pairwise fun a b => a < b
  ub : ∀ x ∈ st, 0 ≤ x ∧ x ≤ 1000 * i
theorem St.add {st : List Int} {i : Nat} (h : St st i) {z g : Int} (hz : st.getLast? = some z) (a : 0 ≤ g) (b : g < 1000) : St (st ++ [z + 1 + g]) (i + 1) := by
  have hm := List.mem_of_getLast? hz
  have hub := h.ub z hm
  refine ⟨by rw [List.length_append, h.len]; rfl, ?_, ?_, fun x hx => ?_⟩
  · have := h.hd
    cases st with
    | nil => cases this
    | cons x xs => exact this
  · refine List.pairwise_append.mpr ⟨h.pw, .cons (fun _ z => nomatch z) .nil, fun x hx y hy => ?_⟩
    rw [List.mem_singleton.mp hy]
    have : x ≤ z := by
      have e : st = st.dropLast ++ [z] := by
        have hne : st ≠ [] := fun q => by rw [q] at hz; cases hz
        have := List.dropLast_concat_getLast hne
        rw [List.getLast?_eq_some_getLast hne] at hz
        rw [← Option.some.inj hz]
        exact this.symm
      rw [e] at hx
      rcases List.mem_append.mp hx with q | q
      · have pw := h.pw
        rw [e] at pw
        have := (List.pairwise_append.mp pw).2.2 x q z List.mem_cons_self
        omega
      · rw [List.mem_singleton.mp q]; exact Int.le_refl _
    omega
  · rcases List.mem_append.mp hx with q | q
    · have := h.ub x q
      omega
    · rw [List.mem_singleton.mp q]
      omega
theorem starts_ok {d r r2 : Nat} {S : Store} {x0 x1 x2 x5 x6 x7 x8 x9 x10 : Option D} (hS : Src S r) (h2 : S[r2]? = some (.lst [.int 0])) (hne : r ≠ r2) :
    ∃ (st : List Int) (i : Nat) (y5 : Option D) (S' : Store), i ≤ 8 ∧ ex (pg.gv (pg.cal (d + 1))) b3 [x0, x1, x2, some (.ref r), some (.ref r2), x5, x6, x7, x8, x9, x10] S = .nx [x0, x1, x2, some (.ref r), some (.ref r2), y5, x6, x7, x8, x9, x10] S' ∧ St st i ∧ Src S' r ∧ S'[r2]? = some (.lst (st.map .int)) := by
  obtain ⟨g, n, s, hd, a, b, c, e⟩ := draw_ok (d := d) (m := 9) hS (by decide) (by decide)
  have hS1 := hS.after (n' := n) c e
  have h21 : (S.set r (.lst [.int n, .int s]))[r2]? = some (.lst [.int 0]) := by rw [List.getElem?_set_ne hne]; exact h2
  generalize S.set r (.lst [.int n, .int s]) = S1 at hd hS1 h21
  have hin : (inR 0 && inR g) = true := by
    simp only [inR, Bool.and_eq_true, decide_eq_true_eq]
    omega
  have hev : evI (pg.gv (pg.cal (d + 1))) (.rng (.con (.int 0)) (.call 3 (.cons (.var 3) (.cons (.con (.int 9)) .nil)))) [x0, x1, x2, some (.ref r), some (.ref r2), x5, x6, x7, x8, x9, x10] S = .ok (rangeD 0 g) S1 := by
    simp only [i_rng, v_con, v_call, v_var, s_cons, s_nil, b_ok, List.getElem?_cons_zero, List.getElem?_cons_succ, gv_cal, hd, hin, if_true]
  have hlen : (rangeD 0 g).length = g.toNat := by simp [rangeD]
  obtain ⟨δ2, S2, hf, st, y5, hδ, hst, hs2, hr2⟩ := for_inv (tg := .one 5) (body := ex (pg.gv (pg.cal (d + 1))) (.cons b3s .nil))
    (fun i δ S => ∃ (st : List Int) (y5 : Option D), δ = [x0, x1, x2, some (.ref r), some (.ref r2), y5, x6, x7, x8, x9, x10] ∧ St st i ∧ Src S r ∧ S[r2]? = some (.lst (st.map .int))) (rangeD 0 g) (fun i x δ S hx hp => by
      obtain ⟨st, y5, rfl, hst, hs, hr⟩ := hp
      refine ⟨[x0, x1, x2, some (.ref r), some (.ref r2), some x, x6, x7, x8, x9, x10], rfl, ?_⟩
      have hi : i < 9 := by
        have := (List.getElem?_eq_some_iff.mp hx).1
        omega
      obtain ⟨z, hz⟩ : ∃ z, st.getLast? = some z := by
        cases hh : st.getLast? with
        | some l => exact ⟨l, rfl⟩
        | none =>
          rw [List.getLast?_eq_none_iff] at hh
          have := hst.len
          rw [hh] at this
          cases this
      have hat : L2.atI (st.map D.int) (-1) = some (.int z) := last_at (by rw [List.getLast?_map, hz]; rfl)
      obtain ⟨g', n', s', hd', a', b', c', e'⟩ := draw_ok (d := d) (m := 1000) hs (by decide) (by decide)
      have hs1 := hs.after (n' := n') c' e'
      have hr1 : (S.set r (.lst [.int n', .int s']))[r2]? = some (.lst (st.map .int)) := by rw [List.getElem?_set_ne hne]; exact hr
      generalize S.set r (.lst [.int n', .int s']) = S1 at hd' hs1 hr1
      have hl2 : r2 < S1.length := (List.getElem?_eq_some_iff.mp hr1).1
      have ff : fits ((st.map D.int).length + 1) = true := fit (by rw [List.length_map, hst.len]; omega)
      refine ⟨[x0, x1, x2, some (.ref r), some (.ref r2), some x, x6, x7, x8, x9, x10], S1.set r2 (.lst ((st ++ [z + 1 + g']).map .int)), ?_, st ++ [z + 1 + g'], some x, rfl, hst.add hz a' b', ?_, List.getElem?_set_self hl2⟩
      · simp only [b3s, c_expr, x_expr, v_app, v_var, v_bin, v_idx, v_neg, v_con, v_call, s_cons, s_nil, b_ok, List.getElem?_cons_zero, List.getElem?_cons_succ, deref, hr, isL, Option.isSome_some, if_true, idx2, ixD, hat, bin2, gv_cal, hd', appD, hr1, ff, r_ok, x_nil, List.map_append, List.map_cons, List.map_nil]
      · obtain ⟨n0, s0, h0, hh⟩ := hs1
        exact ⟨n0, s0, by rw [List.getElem?_set_ne (Ne.symm hne)]; exact h0, hh⟩) _ S1 ⟨[0], x5, rfl, ⟨rfl, rfl, .cons (fun _ z => nomatch z) .nil, fun x hx => by rw [List.mem_singleton.mp hx]; decide⟩, hS1, h21⟩
  subst hδ
  refine ⟨st, (rangeD 0 g).length, y5, S2, by omega, ?_, hst, hs2, hr2⟩
  rw [b3, x_for, hev]
  exact hf
end Law

namespace Law
open PV

abbrev G6 : Gv := pg.gv (pg.cal 6)
theorem enum_get {ds : List D} {i : Nat} {x : D} (h : (enumD ds)[i]? = some x) : ∃ d, ds[i]? = some d ∧ x = .tup [.int i, d] := by
  unfold enumD at h
  rw [List.getElem?_map, List.getElem?_zipIdx] at h
  cases hd : ds[i]? with
  | none => rw [hd] at h; cases h
  | some d =>
    rw [hd] at h
    simp at h
    exact ⟨d, rfl, h.symm⟩
theorem enum_len (ds : List D) : (enumD ds).length = ds.length := by simp [enumD]
theorem tol_tbl {d : Nat} {L : List (Int × Int)} {i : Nat} {q : Int × Int} {c : Int} {S : Store} (T : Tbl L) (hq : L[i]? = some q) (h1 : q.1 ≤ c) (h2 : ∀ q', L[i + 1]? = some q' → c < q'.1) : pg.cal (d + 5) 4 [.tup (L.map mkP), .int c] S = .ok (.int q.2) S := by
  have hf := filter_at (incr_pw T.up) hq h1 h2
  have le := T.le
  have ne := T.ne
  match L, T, hf with
  | p :: ps, T, hf => exact tol_yes (by simpa using le) T.rg (T.hd p ps rfl) T.up hf
theorem cnt_ok {L : List (Int × Int)} {i : Nat} {q : Int × Int} {c : Int} {S : Store} {x0 x1 x2 x3 x4 x5 x8 x9 : Option D} (T : Tbl L) (hq : L[i]? = some q) (h1 : q.1 ≤ c) (h2 : ∀ q', L[i + 1]? = some q' → c < q'.1) :
    ex G6 (.cons i2s .nil) [x0, x1, x2, x3, x4, x5, some (.tup (L.map mkP)), some (.int i), x8, x9, some (.int c)] S = .nx [x0, x1, x2, x3, x4, x5, some (.tup (L.map mkP)), some (.int i), x8, x9, some (.int c)] S := by
  have ht : pg.cal 6 4 [.tup (L.map mkP), .int c] S = .ok (.int q.2) S := tol_tbl (d := 1) T hq h1 h2
  have hat : L2.atI (L.map mkP) (i : Int) = some (mkP q) := at_nat (by omega) (by rw [Int.toNat_natCast, List.getElem?_map, hq]; rfl)
  have hI : idx2 (.tup (L.map mkP)) (.int (i : Int)) S = .ok (mkP q) S := by simp only [idx2, deref, ixD, hat]
  have hI1 : idx2 (mkP q) (.int 1) S = .ok (.int q.2) S := rfl
  simp only [i2s, c_ifs, x_ifs, t_cmp, v_call, v_idx, v_var, v_con, s_cons, s_nil, b_ok, List.getElem?_cons_zero, List.getElem?_cons_succ, gv_cal, ht, hI, hI1, cmpD, eqD, decide_true, Option.map_some, Bool.not_true, optB, x_nil]
theorem i2_ok {L : List (Int × Int)} {i : Nat} {q : Int × Int} {b : Int} {S : Store} {x0 x1 x2 x3 x4 x5 x10 : Option D} (T : Tbl L) (hq : L[i]? = some q) (h1 : q.1 ≤ b) (h2 : ∀ q', L[i + 1]? = some q' → b < q'.1) :
    ∃ y10, ex G6 i2 [x0, x1, x2, x3, x4, x5, some (.tup (L.map mkP)), some (.int i), some (.int q.1), some (.int b), x10] S = .nx [x0, x1, x2, x3, x4, x5, some (.tup (L.map mkP)), some (.int i), some (.int q.1), some (.int b), y10] S := by
  have l2 : Nat.log2 2 < 9000 := by decide +kernel
  have hev : evI G6 (.tst (.lst false (.cons (.var 8) (.cons (.var 9) (.cons (.bin .fdiv (.bin .add (.var 8) (.var 9)) (.con (.int 2))) .nil))))) [x0, x1, x2, x3, x4, x5, some (.tup (L.map mkP)), some (.int i), some (.int q.1), some (.int b), x10] S = .ok [.int q.1, .int b, .int ((q.1 + b) / 2)] S := by
    simp [i_tst, v_lst, s_cons, s_nil, v_var, v_bin, v_con, b_ok, bin2, deref, l2, newL, fits, itD]
  have c1 := cnt_ok (S := S) (x0 := x0) (x1 := x1) (x2 := x2) (x3 := x3) (x4 := x4) (x5 := x5) (x8 := some (.int q.1)) (x9 := some (.int b)) (c := q.1) T hq (Int.le_refl _) fun q' z => by have := h2 q' z; omega
  have c2 := cnt_ok (S := S) (x0 := x0) (x1 := x1) (x2 := x2) (x3 := x3) (x4 := x4) (x5 := x5) (x8 := some (.int q.1)) (x9 := some (.int b)) (c := b) T hq h1 h2
  have c3 := cnt_ok (S := S) (x0 := x0) (x1 := x1) (x2 := x2) (x3 := x3) (x4 := x4) (x5 := x5) (x8 := some (.int q.1)) (x9 := some (.int b)) (c := (q.1 + b) / 2) T hq (by omega) fun q' z => by have := h2 q' z; omega
  refine ⟨some (.int ((q.1 + b) / 2)), ?_⟩
  rw [i2, x_for, hev]
  simp only [forL, bindT, List.set_cons_succ, List.set_cons_zero, c1, c2, c3]
theorem b6_ok {L : List (Int × Int)} {st : List Int} {S : Store} {x0 x1 x2 x3 x5 x7 x8 x9 x10 : Option D} (T : Tbl L) (hst : L.map (·.1) = st) :
    ∃ y7 y8 y9 y10, ex G6 b6 [x0, x1, x2, x3, some (.lst (st.map .int)), x5, some (.tup (L.map mkP)), x7, x8, x9, x10] S = .nx [x0, x1, x2, x3, some (.lst (st.map .int)), x5, some (.tup (L.map mkP)), y7, y8, y9, y10] S := by
  have hev : evI G6 (.enum (.var 4)) [x0, x1, x2, x3, some (.lst (st.map .int)), x5, some (.tup (L.map mkP)), x7, x8, x9, x10] S = .ok (enumD (st.map .int)) S := rfl
  obtain ⟨δ2, S2, hf, ⟨y7, y8, y9, y10, hδ⟩, hS⟩ := for_inv (tg := .tup [7, 8]) (body := ex G6 (.cons i1 (.cons i2 .nil)))
    (fun i δ S' => (∃ y7 y8 y9 y10, δ = [x0, x1, x2, x3, some (.lst (st.map .int)), x5, some (.tup (L.map mkP)), y7, y8, y9, y10]) ∧ S' = S) (enumD (st.map .int)) (fun i x δ S' hx hp => by
      obtain ⟨⟨y7, y8, y9, y10, rfl⟩, rfl⟩ := hp
      obtain ⟨d, hd, rfl⟩ := enum_get hx
      rw [List.getElem?_map] at hd
      cases hs : st[i]? with
      | none => rw [hs] at hd; cases hd
      | some s =>
        rw [hs] at hd
        cases hd
        obtain ⟨q, hq, rfl⟩ : ∃ q, L[i]? = some q ∧ q.1 = s := by
          rw [← hst, List.getElem?_map] at hs
          cases hq : L[i]? with
          | none => rw [hq] at hs; cases hs
          | some q =>
            rw [hq] at hs
            exact ⟨q, rfl, Option.some.inj hs⟩
        have hil : i < L.length := (List.getElem?_eq_some_iff.mp hq).1
        have hlen : st.length = L.length := by rw [← hst, List.length_map]
        refine ⟨[x0, x1, x2, x3, some (.lst (st.map .int)), x5, some (.tup (L.map mkP)), some (.int i), some (.int q.1), y9, y10], rfl, ?_⟩
        have key : ∃ b : Int, ex G6 i1 [x0, x1, x2, x3, some (.lst (st.map .int)), x5, some (.tup (L.map mkP)), some (.int i), some (.int q.1), y9, y10] S' = .nx [x0, x1, x2, x3, some (.lst (st.map .int)), x5, some (.tup (L.map mkP)), some (.int i), some (.int q.1), some (.int b), y10] S' ∧ q.1 ≤ b ∧ ∀ q', L[i + 1]? = some q' → b < q'.1 := by
          by_cases hl : i + 1 = L.length
          · have e : ((i : Int) + 1 = (List.length (List.map D.int st) : Nat)) := by rw [List.length_map]; omega
            refine ⟨9999, ?_, (T.rg q (List.mem_of_getElem? hq)).2.1, fun q' z => ?_⟩
            · simp only [i1, x_set, v_ite, t_cmp, v_bin, v_bi, v_var, v_con, s_cons, s_nil, b_ok, List.getElem?_cons_zero, List.getElem?_cons_succ, bin2, deref, biD, biLen, lenD, cmpD, eqD, e, decide_true, optB, if_true, r_ok, bindT, List.set_cons_succ, List.set_cons_zero]
            · rw [hl, List.getElem?_eq_none (Nat.le_refl _)] at z
              cases z
          · have hi1 : i + 1 < L.length := by omega
            have e : ¬ ((i : Int) + 1 = (List.length (List.map D.int st) : Nat)) := by rw [List.length_map]; omega
            have hq1 : L[i + 1]? = some L[i + 1] := List.getElem?_eq_getElem hi1
            have hat : L2.atI (st.map D.int) ((i : Int) + 1) = some (.int L[i + 1].1) := at_nat (by omega) (by
              have : ((i : Int) + 1).toNat = i + 1 := by omega
              rw [this, List.getElem?_map, ← hst, List.getElem?_map, hq1]
              rfl)
            have hlt : q.1 < L[i + 1].1 := by
              have pw := incr_pw T.up
              have := List.pairwise_iff_getElem.mp pw i (i + 1) hil hi1 (by omega)
              have eq : L[i] = q := by
                rw [List.getElem?_eq_getElem hil] at hq
                exact Option.some.inj hq
              rw [eq] at this
              exact this
            refine ⟨L[i + 1].1 - 1, ?_, by omega, fun q' z => ?_⟩
            · simp only [i1, x_set, v_ite, t_cmp, v_bin, v_bi, v_idx, v_var, v_con, s_cons, s_nil, b_ok, List.getElem?_cons_zero, List.getElem?_cons_succ, bin2, deref, biD, biLen, lenD, cmpD, eqD, e, decide_false, optB, if_false, Bool.false_eq_true, idx2, ixD, hat, r_ok, bindT, List.set_cons_succ, List.set_cons_zero]
            · rw [hq1] at z
              rw [← Option.some.inj z]
              omega
        obtain ⟨b, hb, h1, h2⟩ := key
        obtain ⟨y, hy⟩ := i2_ok (S := S') (x0 := x0) (x1 := x1) (x2 := x2) (x3 := x3) (x4 := some (.lst (st.map .int))) (x5 := x5) (x10 := y10) T hq h1 h2
        refine ⟨[x0, x1, x2, x3, some (.lst (st.map .int)), x5, some (.tup (L.map mkP)), some (.int i), some (.int q.1), some (.int b), y], S', ?_, ⟨_, _, _, _, rfl⟩, rfl⟩
        have a1 : ex G6 (.cons i1 (.cons i2 .nil)) [x0, x1, x2, x3, some (.lst (st.map .int)), x5, some (.tup (L.map mkP)), some (.int i), some (.int q.1), y9, y10] S' = _ := x_cons _ _ _ _ _ rfl
        rw [a1, hb]
        simp only []
        rw [x_cons _ _ _ _ _ rfl, hy]
        rfl) _ S ⟨⟨x7, x8, x9, x10, rfl⟩, rfl⟩
  subst hδ hS
  refine ⟨y7, y8, y9, y10, ?_⟩
  rw [b6, x_for, hev]
  exact hf
end Law

namespace Law
open PV

theorem incr_of : ∀ {L : List (Int × Int)}, ((L.map (·.1)).Pairwise fun a b => a < b) → incr L = true
  | [], _ => rfl
  | [_], _ => rfl
  | a :: b :: r, h => by
    have h' := List.pairwise_cons.mp h
    show (decide (a.1 < b.1) && incr (b :: r)) = true
    rw [incr_of h'.2, decide_eq_true (h'.1 b.1 List.mem_cons_self)]
    rfl
theorem tbl_of {L : List (Int × Int)} {st : List Int} {i : Nat} (hs : St st i) (hi : i ≤ 8) (e : L.map (·.1) = st) (ht : ∀ q ∈ L, 0 ≤ q.2 ∧ q.2 ≤ 999) : Tbl L := by
  have hl : L.length = i + 1 := by rw [← hs.len, ← e, List.length_map]
  refine ⟨by omega, by omega, fun q hq => ?_, fun p ps hp => ?_, incr_of (by rw [e]; exact hs.pw)⟩
  · have := hs.ub q.1 (by rw [← e]; exact List.mem_map_of_mem hq)
    have := ht q hq
    omega
  · have := hs.hd
    rw [← e, hp] at this
    exact Option.some.inj this
theorem body_ok {ns : List Int} {k : Int} {S : Store} {x2 x3 x4 x5 x6 x7 x8 x9 x10 : Option D} (h0 : 0 ≤ k) (h1 : k < 1000) :
    ∃ y2 y3 y4 y5 y6 y7 y8 y9 y10 S', ex G6 bb [some (.scr ns), some (.int k), x2, x3, x4, x5, x6, x7, x8, x9, x10] S = .nx [some (.scr ns), some (.int k), y2, y3, y4, y5, y6, y7, y8, y9, y10] S' := by
  obtain ⟨n, s, hs, s0, s1⟩ := source_ok (d := 5) (ns := ns) (S := S) h0 h1
  have hs' : pg.cal 6 1 [.scr ns, .int k] S = .ok (.ref S.length) (S ++ [.lst [.int n, .int s]]) := hs
  -- the pool, then the list of starts
  have a1 : ex G6 b1 [some (.scr ns), some (.int k), x2, x3, x4, x5, x6, x7, x8, x9, x10] S = .nx [some (.scr ns), some (.int k), x2, some (.ref S.length), x4, x5, x6, x7, x8, x9, x10] (S ++ [.lst [.int n, .int s]]) := by
    simp only [b1, x_set, v_call, v_var, s_cons, s_nil, b_ok, List.getElem?_cons_zero, List.getElem?_cons_succ, gv_cal, hs', r_ok, bindT, List.set_cons_succ, List.set_cons_zero]
  have a2 : ex G6 b2 [some (.scr ns), some (.int k), x2, some (.ref S.length), x4, x5, x6, x7, x8, x9, x10] (S ++ [.lst [.int n, .int s]]) = .nx [some (.scr ns), some (.int k), x2, some (.ref S.length), some (.ref (S.length + 1)), x5, x6, x7, x8, x9, x10] (S ++ [.lst [.int n, .int s]] ++ [.lst [.int 0]]) := by
    have hl : (S ++ [Cell.lst [.int n, .int s]]).length = S.length + 1 := by simp
    simp only [b2, x_set, v_lst, v_con, s_cons, s_nil, b_ok, newL, List.length_cons, List.length_nil, show fits (0 + 1) = true from rfl, if_true, hl, r_ok, bindT, List.set_cons_succ, List.set_cons_zero]
  have hsrc : Src (S ++ [.lst [.int n, .int s]] ++ [.lst [.int 0]]) S.length := by
    refine ⟨n, s, ?_, s0, s1⟩
    rw [List.append_assoc, List.getElem?_append_right (Nat.le_refl _), Nat.sub_self]
    rfl
  have hst0 : (S ++ [Cell.lst [.int n, .int s]] ++ [.lst [.int 0]])[S.length + 1]? = some (.lst [.int 0]) := by
    rw [List.append_assoc, List.getElem?_append_right (by omega)]
    have : S.length + 1 - S.length = 1 := by omega
    rw [this]
    rfl
  generalize S ++ [Cell.lst [.int n, .int s]] ++ [.lst [.int 0]] = S1 at a2 hsrc hst0
  have hne : S.length ≠ S.length + 1 := by omega
  obtain ⟨st, i, y5, S2, hi, a3', hst, hsrc2, hcell⟩ := starts_ok (d := 5) (x0 := some (.scr ns)) (x1 := some (.int k)) (x2 := x2) (x5 := x5) (x6 := x6) (x7 := x7) (x8 := x8) (x9 := x9) (x10 := x10) hsrc hst0 hne
  have a3 : ex G6 b3 [some (.scr ns), some (.int k), x2, some (.ref S.length), some (.ref (S.length + 1)), x5, x6, x7, x8, x9, x10] S1 = .nx [some (.scr ns), some (.int k), x2, some (.ref S.length), some (.ref (S.length + 1)), y5, x6, x7, x8, x9, x10] S2 := a3'
  generalize S.length + 1 = r2 at a2 a3 hne hcell hst0
  generalize S.length = r at a1 a2 a3 hsrc hsrc2 hne
  have hsrc3 : Src (S2.set r2 .dead) r := by
    obtain ⟨n0, s0, q1, q2⟩ := hsrc2
    exact ⟨n0, s0, by rw [List.getElem?_set_ne (Ne.symm hne)]; exact q1, q2⟩
  have hfz : frzD (.ref r2) S2 = .ok (.lst (st.map .int)) (S2.set r2 .dead) := by
    simp only [frzD, hcell]
  generalize S2.set r2 .dead = S3 at hsrc3 hfz
  -- the table
  obtain ⟨L, S4, hc, hsrc4, hL, hT⟩ := comp_draw (d := 5) (r := r) ⟨some (.scr ns), some (.int k), x2, some (.lst (st.map .int)), y5, x6, x7, x8, x9, x10, rfl⟩ st S3 hsrc3
  have T := tbl_of hst hi hL hT
  have fL : fits (L.map mkP).length = true := fit (by rw [List.length_map]; have := T.le; omega)
  have hc' : compL (.one 8) (evT G6 .nil) (ev G6 (.tup (.cons (.var 8) (.cons (.call 3 (.cons (.var 3) (.cons (.con (.int 1000)) .nil))) .nil)))) [some (.scr ns), some (.int k), x2, some (.ref r), some (.lst (st.map .int)), y5, x6, x7, x8, x9, x10] (st.map .int) S3 = .ok (L.map mkP) S4 := hc
  have a5 : ex G6 b5 [some (.scr ns), some (.int k), x2, some (.ref r), some (.lst (st.map .int)), y5, x6, x7, x8, x9, x10] S3 = .nx [some (.scr ns), some (.int k), x2, some (.ref r), some (.lst (st.map .int)), y5, some (.tup (L.map mkP)), x7, x8, x9, x10] S4 := by
    simp only [b5, x_set, v_bi, v_comp, i_tst, v_var, s_cons, s_nil, b_ok, List.getElem?_cons_zero, List.getElem?_cons_succ, itD, hc', newL, fL, if_true, if_false, Bool.false_eq_true, biD, biTuple, deref, r_ok, bindT, List.set_cons_succ, List.set_cons_zero]
  obtain ⟨y7, y8, y9, y10, a6⟩ := b6_ok (S := S4) (x0 := some (.scr ns)) (x1 := some (.int k)) (x2 := x2) (x3 := some (.ref r)) (x5 := y5) (x7 := x7) (x8 := x8) (x9 := x9) (x10 := x10) T hL
  obtain ⟨q, g, o, l, x, S5, hch, _, hq, _, ho, hl, hx⟩ := changed_ok (d := 4) hsrc4 T.ne T.le
  have hch' : pg.cal 6 5 [.ref r, .tup (L.map mkP)] S4 = .ok x S5 := hch
  obtain ⟨hno, t, hrep⟩ := opt_no (d := 0) (S := S5) T hq ho hl hx
  have hrf : pg.cal 6 2 [x] S5 = .ok (.bl true) S5 := refused_ok (d := 0) hno hrep
  have a7 : ex G6 b7 [some (.scr ns), some (.int k), x2, some (.ref r), some (.lst (st.map .int)), y5, some (.tup (L.map mkP)), y7, y8, y9, y10] S4 = .nx [some (.scr ns), some (.int k), x2, some (.ref r), some (.lst (st.map .int)), y5, some (.tup (L.map mkP)), y7, y8, y9, y10] S5 := by
    simp only [b7, x_ifs, t_not, t_tst, v_call, v_var, s_cons, s_nil, b_ok, List.getElem?_cons_zero, List.getElem?_cons_succ, gv_cal, hch', hrf, truD, deref, optB, Bool.not_true, x_nil]
  refine ⟨x2, some (.ref r), some (.lst (st.map .int)), y5, some (.tup (L.map mkP)), y7, y8, y9, y10, S5, ?_⟩
  rw [bb, x_cons _ _ _ _ _ rfl, a1]
  simp only []
  rw [x_cons _ _ _ _ _ rfl, a2]
  simp only []
  rw [x_cons _ _ _ _ _ rfl, a3]
  simp only []
  rw [x_frz]
  simp only [List.getElem?_cons_zero, List.getElem?_cons_succ, hfz, List.set_cons_succ, List.set_cons_zero]
  rw [x_cons _ _ _ _ _ rfl, a5]
  simp only []
  rw [x_cons _ _ _ _ _ rfl, a6]
  simp only []
  rw [x_cons _ _ _ _ _ rfl, a7]
  rfl
abbrev L10 : List (Int × Int) := [(0, 1), (1, 1), (2, 1), (3, 1), (4, 1), (5, 1), (6, 1), (7, 1), (8, 1), (9, 1)]
theorem long_no {S : Store} : pg.cal 6 2 [.tup (L10.map mkP)] S = .ok (.bl true) S := by
  obtain ⟨t, ht⟩ := repr_ok (S := S) (n := 80) (k := 2) (d := .tup (L10.map mkP)) (by decide +kernel) (by decide) (by decide)
  refine refused_ok (d := 0) (table_no (by decide +kernel) fun p ps e hl => ?_) ht
  have e' : L10.map mkP = (p :: ps).map mkP := by injection e
  have := congrArg List.length e'
  rw [List.length_map, List.length_map] at this
  simp at this
  omega
theorem short_tbl : Tbl (L10.take 9) := ⟨by decide, by decide, by decide, fun p ps h => by injection h with h1 _; rw [← h1], by decide +kernel⟩
theorem law_ok : ∀ ns : List Int, ns.length ≤ 63 → ∃ S, pg.cal 7 0 [.scr ns] [] = .ok (.bl true) S := by
  intro ns hn
  obtain ⟨m, hm, m0, m1⟩ : ∃ m : Int, evI G6 (.rng (.con (.int 0)) (.bi .max (.cons (.con (.int 1)) (.cons (.bi .min (.cons (.bi .len (.cons (.var 0) .nil)) (.cons (.con (.int 15)) .nil))) .nil)))) [some (.scr ns), none, none, none, none, none, none, none, none, none, none] [] = .ok (rangeD 0 m) [] ∧ 0 ≤ m ∧ m ≤ 63 := by
    generalize ha : (if (15 : Int) < (ns.length : Nat) then 15 else ((ns.length : Nat) : Int)) = a
    have ha2 : a ≤ 63 := by rw [← ha]; split <;> omega
    refine ⟨if a > 1 then a else 1, ?_, by split <;> omega, by split <;> omega⟩
    have hin : (inR 0 && inR (if a > 1 then a else 1)) = true := by
      simp only [inR, Bool.and_eq_true, decide_eq_true_eq]
      split <;> omega
    simp only [i_rng, v_con, v_bi, v_var, s_cons, s_nil, b_ok, List.getElem?_cons_zero, biD, biLen, lenD, deref, biMin, biMax, ha, hin, if_true]
  have hlen : (rangeD 0 m).length = m.toNat := by simp [rangeD]
  obtain ⟨δ2, S2, hf, y1, y2, y3, y4, y5, y6, y7, y8, y9, y10, rfl⟩ := for_inv (tg := .one 1) (body := ex G6 bb)
    (fun _ δ _ => ∃ y1 y2 y3 y4 y5 y6 y7 y8 y9 y10, δ = [some (.scr ns), y1, y2, y3, y4, y5, y6, y7, y8, y9, y10]) (rangeD 0 m) (fun i x δ S hx hp => by
      obtain ⟨y1, y2, y3, y4, y5, y6, y7, y8, y9, y10, rfl⟩ := hp
      have hi := (List.getElem?_eq_some_iff.mp hx).1
      have hxe : x = .int (i : Int) := by
        unfold rangeD at hx
        rw [List.getElem?_map, List.getElem?_range (by simpa [rangeD] using hi)] at hx
        simpa using hx.symm
      subst hxe
      obtain ⟨z2, z3, z4, z5, z6, z7, z8, z9, z10, S', hb⟩ := body_ok (ns := ns) (k := (i : Int)) (S := S) (x2 := y2) (x3 := y3) (x4 := y4) (x5 := y5) (x6 := y6) (x7 := y7) (x8 := y8) (x9 := y9) (x10 := y10) (by omega) (by omega)
      exact ⟨[some (.scr ns), some (.int (i : Int)), y2, y3, y4, y5, y6, y7, y8, y9, y10], rfl, [some (.scr ns), some (.int (i : Int)), z2, z3, z4, z5, z6, z7, z8, z9, z10], S', hb, some (.int (i : Int)), z2, z3, z4, z5, z6, z7, z8, z9, z10, rfl⟩) [some (.scr ns), none, none, none, none, none, none, none, none, none, none] [] ⟨none, none, none, none, none, none, none, none, none, none, rfl⟩
  refine ⟨S2, ?_⟩
  have hw1 : ex G6 w1 [some (.scr ns), y1, y2, y3, y4, y5, y6, y7, y8, y9, y10] S2 = .nx [some (.scr ns), y1, some (.tup (L10.map mkP)), y3, y4, y5, y6, y7, y8, y9, y10] S2 := rfl
  have ht : pg.cal 6 4 [.tup ((L10.take 9).map mkP), .int 9999] S2 = .ok (.int 1) S2 := tol_tbl (d := 1) (i := 8) (q := (8, 1)) short_tbl rfl (by decide) (fun q' z => nomatch z)
  have hcut : cutD (L10.map mkP) none (some 9) = (L10.take 9).map mkP := rfl
  have hw2 : ex G6 w2 [some (.scr ns), y1, some (.tup (L10.map mkP)), y3, y4, y5, y6, y7, y8, y9, y10] S2 = .rt (.bl true) S2 := by
    simp only [w2, x_ret, v_and, v_call, v_cmp, v_sl, v_var, v_con, o_cons, o_nil, s_cons, s_nil, b_ok, List.getElem?_cons_zero, List.getElem?_cons_succ, gv_cal, long_no, truD, deref, sl2, hcut, ht, cmpD, eqD, decide_true, optD, r_ok]
  rw [e0, law_code, x_cons _ _ _ _ _ rfl, x_for, hm]
  simp only [hf]
  rw [x_cons _ _ _ _ _ rfl, hw1]
  simp only []
  rw [x_cons _ _ _ _ _ rfl, hw2]
  rfl
end Law

open PySem PySem.W PyProof.Rows
set_option maxRecDepth 100000 in
set_option maxHeartbeats 0 in
theorem PySem.Challenge.cw_countedlights_k03_tolerances_holds : PySem.Challenge.rw_countedlights_k03_tolerances.Holds := by
  w_on; o_law; k_head; (case hw => w_witness2)
  k_fill
  refine PV.walk_pv (l := PySem.Challenge.rw_countedlights_k03_tolerances) (n := 63) (dep := 7) (li := 0) (Γ := Law.Γ) (p := Law.pg) rfl (by decide) rfl ⟨rfl, by decide, by decide⟩ rfl rfl (fun w h Y => PySem.W.kIn_of Y) ?F Law.law_ok
  case F =>
    intro w mg h KX G
    refine' Law.all_mk KX G ?q_a0 ?q_l0 ?q_c0 ?q_k0 ?q_a1 ?q_l1 ?q_c1 ?q_k1 ?q_a2 ?q_l2 ?q_c2 ?q_k2 ?q_a3 ?q_l3 ?q_c3 ?q_k3 ?q_a4 ?q_l4 ?q_c4 ?q_k4 ?q_a5 ?q_l5 ?q_c5 ?q_k5 ?q_a6 ?q_l6 ?q_c6 ?q_k6 ?q_a7 ?q_l7 ?q_c7 ?q_k7 ?q_a8 ?q_l8 ?q_c8 ?q_k8 ?q_a9 ?q_l9 ?q_c9 ?q_k9 ?q_a10 ?q_l10 ?q_c10 ?q_k10 ?q_g0 ?q_g1 ?q_b0 ?q_rd0 ?q_ga0 ?q_at0 ?q_y0 ?q_yr0 ?q_yg0 ?q_yi0 ?q_x0 ?q_xga0 ?q_xgg0 ?q_xex0 ?q_xhd0 ?q_xno0 ?q_xl0 ?q_xv0 ?q_xsa0 ?q_xty0 ?q_xk0 ?q_xi0 ?q_xit0 ?q_l100 ?q_c100 ?q_k100 ?q_xs0_0 ?q_z_len ?q_z_max ?q_z_min ?q_z_abs ?q_z_all ?q_z_any ?q_z_sum ?q_z_list ?q_z_tuple ?q_z_repr ?q_z_int ?q_z_isinstance ?q_z_bool ?q_z_str ?q_z_dict ?q_z_range ?q_z_enumerate ?q_z_zip
    (case q_a0 => first | k_is | rfl)
    (case q_l0 => first | k_is | rfl)
    (case q_c0 => first | k_is | rfl)
    (case q_k0 => first | k_is | rfl)
    (case q_a1 => first | k_is | rfl)
    (case q_l1 => first | k_is | rfl)
    (case q_c1 => first | k_is | rfl)
    (case q_k1 => first | k_is | rfl)
    (case q_a2 => first | k_is | rfl)
    (case q_l2 => first | k_is | rfl)
    (case q_c2 => first | k_is | rfl)
    (case q_k2 => first | k_is | rfl)
    (case q_a3 => first | k_is | rfl)
    (case q_l3 => first | k_is | rfl)
    (case q_c3 => first | k_is | rfl)
    (case q_k3 => first | k_is | rfl)
    (case q_a4 => first | k_is | rfl)
    (case q_l4 => first | k_is | rfl)
    (case q_c4 => first | k_is | rfl)
    (case q_k4 => first | k_is | rfl)
    (case q_a5 => first | k_is | rfl)
    (case q_l5 => first | k_is | rfl)
    (case q_c5 => first | k_is | rfl)
    (case q_k5 => first | k_is | rfl)
    (case q_a6 => first | k_is | rfl)
    (case q_l6 => first | k_is | rfl)
    (case q_c6 => first | k_is | rfl)
    (case q_k6 => first | k_is | rfl)
    (case q_a7 => first | k_is | rfl)
    (case q_l7 => first | k_is | rfl)
    (case q_c7 => first | k_is | rfl)
    (case q_k7 => first | k_is | rfl)
    (case q_a8 => first | k_is | rfl)
    (case q_l8 => first | k_is | rfl)
    (case q_c8 => first | k_is | rfl)
    (case q_k8 => first | k_is | rfl)
    (case q_a9 => first | k_is | rfl)
    (case q_l9 => first | k_is | rfl)
    (case q_c9 => first | k_is | rfl)
    (case q_k9 => first | k_is | rfl)
    (case q_a10 => first | k_is | rfl)
    (case q_l10 => first | k_is | rfl)
    (case q_c10 => first | k_is | rfl)
    (case q_k10 => first | k_is | rfl)
    (case q_g0 => first | k_is | rfl)
    (case q_g1 => first | k_is | rfl)
    (case q_b0 => first | k_is | rfl)
    (case q_rd0 => first | k_is | rfl)
    (case q_ga0 => first | k_is | rfl)
    (case q_at0 => first | k_is | rfl)
    (case q_y0 => first | k_is | rfl)
    (case q_yr0 => first | k_is | rfl)
    (case q_yg0 => first | k_is | rfl)
    (case q_yi0 => first | k_is | rfl)
    (case q_x0 => first | k_is | rfl)
    (case q_xga0 => first | k_is | rfl)
    (case q_xgg0 => first | k_is | rfl)
    (case q_xex0 => first | k_is | rfl)
    (case q_xhd0 => first | k_is | rfl)
    (case q_xno0 => first | k_is | rfl)
    (case q_xl0 => first | k_is | rfl)
    (case q_xv0 => first | k_is | rfl)
    (case q_xsa0 => first | k_is | rfl)
    (case q_xty0 => first | k_is | rfl)
    (case q_xk0 => first | k_is | rfl)
    (case q_xi0 => first | k_is | rfl)
    (case q_xit0 => first | k_is | rfl)
    (case q_l100 => first | k_is | rfl)
    (case q_c100 => first | k_is | rfl)
    (case q_k100 => first | k_is | rfl)
    (case q_xs0_0 => first | k_is | rfl)
    (case q_z_len => first | k_is | rfl)
    (case q_z_max => first | k_is | rfl)
    (case q_z_min => first | k_is | rfl)
    (case q_z_abs => first | k_is | rfl)
    (case q_z_all => first | k_is | rfl)
    (case q_z_any => first | k_is | rfl)
    (case q_z_sum => first | k_is | rfl)
    (case q_z_list => first | k_is | rfl)
    (case q_z_tuple => first | k_is | rfl)
    (case q_z_repr => first | k_is | rfl)
    (case q_z_int => first | k_is | rfl)
    (case q_z_isinstance => first | k_is | rfl)
    (case q_z_bool => first | k_is | rfl)
    (case q_z_str => first | k_is | rfl)
    (case q_z_dict => first | k_is | rfl)
    (case q_z_range => first | k_is | rfl)
    (case q_z_enumerate => first | k_is | rfl)
    (case q_z_zip => first | k_is | rfl)

