import PyProof.Rows.All
import Wide.All
import OpenK.AllK
import Wide.FinOn
import HandS.ForMost
import HandS.ForExc
import HandS.CallSlots
import HandS.ExcInit
import HandS.ExcValue
import HandS.Walk
import HandS.Wide
import HandS.IsInst
import HandS.Flow
import HandS.Zip
import PyProof.ReprRoads
import HandS.TupAny
import HandS.TupLe
import HandS.RaiseMore
import HandS.Deep
import HandS.Star
import HandS.ExcField
import PyProof.Rows.MatchSeqLen
import HandS.Property
import HandS.Conv
import HandS.Strs
import HandS.TupSets
import HandS.SetFor
import HandS.Style
import HandS.ClsMeth
import HandS.ExcIs
import HandS.TryMany
import HandS.Defaults
import HandS.Ends
import PySem.Challenge.RW_countedlights_k26_exceptions
set_option Elab.async false
set_option linter.all false
set_option maxRecDepth 100000
set_option maxHeartbeats 4000000
namespace PV
open PySem L2

/-! data as trees, a store of changing things -/
inductive D where
  | non | bl (b : Bool) | int (i : Int) | str (x : Str)
  | tup (ds : List D) | lst (ds : List D) | dct (ks vs : List D) | dtt (ks vs : List D)
  | obj (c : Nat) (fs : List Nat) (vs : List D)
  | scr (ns : List Int)
  | emp
  | ref (n : Nat)
  | err (c : Nat) (v : D)
inductive Cell where
  | lst (ds : List D) | dct (ks vs : List D) | dtt (ks vs : List D) | ins (c : Nat) (fs : List Nat) (vs : List D) | dead
abbrev Store := List Cell
abbrev Env := List (Option D)
inductive R (α : Type) where
  | ok (a : α) (S : Store) | ex (c : Nat) (v : D) (S : Store) | stuck
def R.bind {α β : Type} (r : R α) (f : α → Store → R β) : R β := match r with
  | .ok a S => f a S
  | .ex c v S => .ex c v S
  | .stuck => .stuck

/-- a class that a clause or an isinstance names: of the text, or built in -/
inductive Tc where | own (a : Addr) | bi (n : String)
def Tc.val : Tc → Value
  | .own a => .ref a
  | .bi n => .type n
def Tc.v : Tc → V
  | .own a => .ref a
  | .bi n => .ty n
theorem Tc.rel (t : Tc) : RelV t.v t.val := by cases t <;> rfl
theorem Tc.one (t : Tc) {u : Value} (h : RelV t.v u) : u = t.val := by cases t <;> exact h
/-- what is fixed: the written part, the classes' places, the fields' names -/
structure Tb where
  K : PySem.W.Frag
  cls : Nat → Addr
  fld : Nat → Str
  ef : Nat → Option Nat
  nc : Nat
  tv : Nat → Tc
  kls : Nat → Addr
  fa : Nat → Addr
  sa : Nat → Addr
  nf : Nat
  inj : ∀ f g, f < nf → g < nf → fld f = fld g → f = g
structure Wo where
  S : Store
  r : List Addr
  H : Hp
  x : List Addr
def Lv (w : Wo) (a : Addr) : Prop := a ∈ w.x ∨ ∃ (n : Nat) (c : Cell), w.S[n]? = some c ∧ c ≠ .dead ∧ w.r[n]? = some a
def flds (T : Tb) : List Nat → List V → List (Str × V)
  | f :: fs, v :: vs => (T.fld f, v) :: flds T fs vs
  | _, _ => []
def keyD : D → Option Key
  | .int i => some (.inl i)
  | .str x => some (.inr x)
  | _ => none
def pairK : List D → List V → Option (List (Key × V))
  | [], [] => some []
  | k :: ks, v :: vs => match keyD k, pairK ks vs with
    | some q, some r => some ((q, v) :: r)
    | _, _ => none
  | _, _ => none
def keysD : List D → Option (List Key)
  | [] => some []
  | d :: ds => match keyD d, keysD ds with
    | some q, some r => some (q :: r)
    | _, _ => none
def keyT : D → Option (List Key)
  | .tup ds => keysD ds
  | _ => none
def pairT : List D → List V → Option (List (List Key × V))
  | [], [] => some []
  | k :: ks, v :: vs => match keyT k, pairT ks vs with
    | some q, some r => some ((q, v) :: r)
    | _, _ => none
  | _, _ => none
/-- the names of an object's fields, each a known one -/
def FsOk (T : Tb) (fs : List Nat) (n : Nat) : Prop := fs.length = n ∧ ∀ f, f ∈ fs → f < T.nf
abbrev H0 : Hp := fun _ => none
/-- a sequence that stands still; the script: of the written part, or tracked -/
def StT (T : Tb) (w : Wo) (a : Addr) (vs : List V) : Prop := w.H a = some (.tup vs) ∧ ¬ Lv w a
def StL (T : Tb) (w : Wo) (a : Addr) (vs : List V) : Prop := w.H a = some (.lst vs) ∧ ¬ Lv w a
def StS (T : Tb) (w : Wo) (a : Addr) (vs : List V) : Prop := SqL T.K H0 a vs ∨ (Rd w.H a (.lst vs) ∧ ¬ Lv w a)

mutual
inductive Rep (T : Tb) (w : Wo) : D → V → Prop where
  | non : Rep T w .non .non
  | bl (b : Bool) : Rep T w (.bl b) (.bl b)
  | int (i : Int) : Rep T w (.int i) (.int i)
  | str (x : Str) : Rep T w (.str x) (.str x)
  | tup {a : Addr} {vs : List V} {ds : List D} : StT T w a vs → Reps T w ds vs → Rep T w (.tup ds) (.ref a)
  | lst {a : Addr} {vs : List V} {ds : List D} : StL T w a vs → Reps T w ds vs → Rep T w (.lst ds) (.ref a)
  | dct {a : Addr} {kvs : List (Key × V)} {ks vs : List D} {us : List V} : w.H a = some (.dK kvs) → ¬ Lv w a → pairK ks us = some kvs → Reps T w vs us → Rep T w (.dct ks vs) (.ref a)
  | dtt {a : Addr} {kvs : List (List Key × V)} {ks vs : List D} {us : List V} : w.H a = some (.dT kvs) → ¬ Lv w a → pairT ks us = some kvs → Reps T w vs us → Rep T w (.dtt ks vs) (.ref a)
  | obj {a dx : Addr} {us : List V} {c : Nat} {fs : List Nat} {vs : List D} : w.H a = some (.ins (T.kls c) dx (flds T fs us)) → ¬ Lv w a → FsOk T fs vs.length → Reps T w vs us → Rep T w (.obj c fs vs) (.ref a)
  | scr {a : Addr} {ns : List Int} : StS T w a (ns.map V.int) → Rep T w (.scr ns) (.ref a)
  | emp {a : Addr} : SqT T.K H0 a [] → Rep T w .emp (.ref a)
  | ref {n : Nat} {a : Addr} : w.r[n]? = some a → Rep T w (.ref n) (.ref a)
  | err {a d : Addr} {c f : Nat} {v : D} {u : V} : T.ef c = some f → c < T.nc → w.H a = some (exo a (T.cls c) (some d)) → ¬ Lv w a → w.H d = some (exd d [(T.fld f, u)]) → ¬ Lv w d → Rep T w v u → Rep T w (.err c v) (.ref a)
  | er0 {a : Addr} {c : Nat} : T.ef c = none → c < T.nc → w.H a = some (ExO (.ref (T.cls c)) a) → ¬ Lv w a → Rep T w (.err c .non) (.ref a)
inductive Reps (T : Tb) (w : Wo) : List D → List V → Prop where
  | nil : Reps T w [] []
  | cons {d : D} {v : V} {ds : List D} {vs : List V} : Rep T w d v → Reps T w ds vs → Reps T w (d :: ds) (v :: vs)
end

structure Mon (w w' : Wo) : Prop where
  pre : ∀ (n : Nat) (a : Addr), w.r[n]? = some a → w'.r[n]? = some a
  keep : ∀ a o, w.H a = some o → ¬ Lv w a → w'.H a = some o ∧ ¬ Lv w' a
structure Step (w w' : Wo) : Prop extends Mon w w' where
  ex : w'.x = w.x
  hx : ∀ a, a ∈ w.x → w'.H a = w.H a
theorem Mon.refl (w : Wo) : Mon w w := ⟨fun _ _ h => h, fun _ _ h l => ⟨h, l⟩⟩
theorem Mon.trans {a b c : Wo} (x : Mon a b) (y : Mon b c) : Mon a c :=
  ⟨fun n p h => y.pre n p (x.pre n p h), fun p o h l => let ⟨h1, l1⟩ := x.keep p o h l; y.keep p o h1 l1⟩
theorem Step.refl (w : Wo) : Step w w := ⟨Mon.refl w, rfl, fun _ _ => rfl⟩
theorem Step.trans {a b c : Wo} (x : Step a b) (y : Step b c) : Step a c :=
  ⟨x.toMon.trans y.toMon, y.ex.trans x.ex, fun p hp => (y.hx p (by rw [x.ex]; exact hp)).trans (x.hx p hp)⟩
theorem StT.mono {T : Tb} {w w' : Wo} (st : Mon w w') {a : Addr} {vs : List V} (h : StT T w a vs) : StT T w' a vs := st.keep _ _ h.1 h.2
theorem StL.mono {T : Tb} {w w' : Wo} (st : Mon w w') {a : Addr} {vs : List V} (h : StL T w a vs) : StL T w' a vs := st.keep _ _ h.1 h.2
theorem StS.mono {T : Tb} {w w' : Wo} (st : Mon w w') {a : Addr} {vs : List V} (h : StS T w a vs) : StS T w' a vs := by
  rcases h with h | ⟨h | ⟨o, h⟩, l⟩
  · exact .inl h
  · obtain ⟨h1, l1⟩ := st.keep _ _ h l
    exact .inr ⟨.inl h1, l1⟩
  · obtain ⟨h1, l1⟩ := st.keep _ _ h l
    exact .inr ⟨.inr ⟨o, h1⟩, l1⟩
theorem StT.sq {T : Tb} {w : Wo} {a : Addr} {vs : List V} (h : StT T w a vs) : SqT T.K w.H a vs := SqT.of h.1
theorem StL.sq {T : Tb} {w : Wo} {a : Addr} {vs : List V} (h : StL T w a vs) : SqL T.K w.H a vs := SqL.of h.1
theorem StS.sq {T : Tb} {w : Wo} {a : Addr} {vs : List V} (h : StS T w a vs) : SqL T.K w.H a vs := by
  rcases h with (h | h) | ⟨h, _⟩
  · rcases h with h | ⟨_, h⟩ <;> cases h
  · exact .inr h
  · exact .inl h
mutual
theorem Rep.mono {T : Tb} {w w' : Wo} (st : Mon w w') : ∀ {d : D} {v : V}, Rep T w d v → Rep T w' d v
  | _, _, .non => .non
  | _, _, .bl b => .bl b
  | _, _, .int i => .int i
  | _, _, .str x => .str x
  | _, _, .tup h r => .tup (h.mono st) (Reps.mono st r)
  | _, _, .lst h r => .lst (h.mono st) (Reps.mono st r)
  | _, _, .dct h l p r => .dct (st.keep _ _ h l).1 (st.keep _ _ h l).2 p (Reps.mono st r)
  | _, _, .dtt h l p r => .dtt (st.keep _ _ h l).1 (st.keep _ _ h l).2 p (Reps.mono st r)
  | _, _, .obj h l p r => .obj (st.keep _ _ h l).1 (st.keep _ _ h l).2 p (Reps.mono st r)
  | _, _, .scr h => .scr (h.mono st)
  | _, _, .emp h => .emp h
  | _, _, .ref h => .ref (st.pre _ _ h)
  | _, _, .err e k h l h2 l2 r => .err e k (st.keep _ _ h l).1 (st.keep _ _ h l).2 (st.keep _ _ h2 l2).1 (st.keep _ _ h2 l2).2 (Rep.mono st r)
  | _, _, .er0 e k h l => .er0 e k (st.keep _ _ h l).1 (st.keep _ _ h l).2
theorem Reps.mono {T : Tb} {w w' : Wo} (st : Mon w w') : ∀ {ds : List D} {vs : List V}, Reps T w ds vs → Reps T w' ds vs
  | _, _, .nil => .nil
  | _, _, .cons h r => .cons (Rep.mono st h) (Reps.mono st r)
end
/-- the written empty tuple -/
theorem emp_sq {K : PySem.W.Frag} {a : Addr} {H : Hp} (h : SqT K H0 a []) : SqT K H a [] := by
  rcases h with (h | ⟨o, h⟩) | h
  · cases h
  · cases h
  · exact .inr h
theorem emp_ty {K : PySem.W.Frag} {a : Addr} (h : SqT K H0 a []) : ∃ o, K.lookup a = some o ∧ o.cls = .type "tuple" := by
  rcases h with (h | ⟨o, h⟩) | ⟨o, its, n, h1, h2, _⟩
  · cases h
  · cases h
  · exact ⟨o, h1, h2⟩
def CellOk (T : Tb) (w : Wo) (a : Addr) : Cell → Prop
  | .lst ds => ∃ vs, w.H a = some (.lst vs) ∧ Reps T w ds vs
  | .dct ks vs => ∃ kvs us, w.H a = some (.dK kvs) ∧ pairK ks us = some kvs ∧ Reps T w vs us
  | .dtt ks vs => ∃ kvs us, w.H a = some (.dT kvs) ∧ pairT ks us = some kvs ∧ Reps T w vs us
  | .ins c fs vs => ∃ dx us, w.H a = some (.ins (T.kls c) dx (flds T fs us)) ∧ FsOk T fs vs.length ∧ Reps T w vs us
  | .dead => ∃ o, w.H a = some o
structure Wd (T : Tb) (w : Wo) : Prop where
  len : w.r.length = w.S.length
  nd : w.r.Nodup
  cell : ∀ (n : Nat) (c : Cell) (a : Addr), w.S[n]? = some c → w.r[n]? = some a → CellOk T w a c
  res : ∀ a, a ∈ w.x → a ∉ w.r ∧ ∃ o, w.H a = some o
theorem CellOk.there {T : Tb} {w : Wo} {a : Addr} {c : Cell} (h : CellOk T w a c) : ∃ o, w.H a = some o := by
  cases c with
  | lst ds => obtain ⟨_, h, _⟩ := h; exact ⟨_, h⟩
  | dct ks vs => obtain ⟨_, _, h, _⟩ := h; exact ⟨_, h⟩
  | dtt ks vs => obtain ⟨_, _, h, _⟩ := h; exact ⟨_, h⟩
  | ins c fs vs => obtain ⟨_, _, h, _⟩ := h; exact ⟨_, h⟩
  | dead => exact h
theorem Wd.place {T : Tb} {w : Wo} (W : Wd T w) {n : Nat} {c : Cell} (h : w.S[n]? = some c) : ∃ a, w.r[n]? = some a := by
  have : n < w.r.length := by
    rw [W.len]
    exact (List.getElem?_eq_some_iff.mp h).1
  exact ⟨w.r[n], List.getElem?_eq_getElem this⟩
theorem Wd.cellAt {T : Tb} {w : Wo} (W : Wd T w) {n : Nat} {a : Addr} (h : w.r[n]? = some a) : ∃ c, w.S[n]? = some c := by
  have : n < w.S.length := by
    rw [← W.len]
    exact (List.getElem?_eq_some_iff.mp h).1
  exact ⟨w.S[n], List.getElem?_eq_getElem this⟩
theorem Wd.there {T : Tb} {w : Wo} (W : Wd T w) {n : Nat} {a : Addr} (h : w.r[n]? = some a) : ∃ o, w.H a = some o := by
  obtain ⟨c, hc⟩ := W.cellAt h
  exact (W.cell n c a hc h).there
theorem Wd.ne {T : Tb} {w : Wo} (W : Wd T w) {n m : Nat} {a : Addr} (h : w.r[n]? = some a) (h' : w.r[m]? = some a) : n = m := by
  obtain ⟨h1, e1⟩ := List.getElem?_eq_some_iff.mp h
  obtain ⟨h2, e2⟩ := List.getElem?_eq_some_iff.mp h'
  exact (List.getElem_inj W.nd).mp (e1.trans e2.symm)
/-- a cell of the same kind of place whose heap object stands, after a step that leaves its own address -/
theorem CellOk.mono {T : Tb} {w w' : Wo} (st : Mon w w') {a : Addr} {c : Cell} (h : CellOk T w a c) (e : w'.H a = w.H a) : CellOk T w' a c := by
  cases c with
  | lst ds => obtain ⟨vs, h, r⟩ := h; exact ⟨vs, by rw [e]; exact h, r.mono st⟩
  | dct ks vs => obtain ⟨k, u, h, p, r⟩ := h; exact ⟨k, u, by rw [e]; exact h, p, r.mono st⟩
  | dtt ks vs => obtain ⟨k, u, h, p, r⟩ := h; exact ⟨k, u, by rw [e]; exact h, p, r.mono st⟩
  | ins c fs vs => obtain ⟨k, u, h, p, r⟩ := h; exact ⟨k, u, by rw [e]; exact h, p, r.mono st⟩
  | dead => obtain ⟨o, h⟩ := h; exact ⟨o, by rw [e]; exact h⟩
/-- a new thing that stands still -/
theorem Wd.still {T : Tb} {w : Wo} (W : Wd T w) {p : Addr} (hp : w.H p = none) (o : HO) :
    Wd T ⟨w.S, w.r, upd w.H p o, w.x⟩ ∧ Step w ⟨w.S, w.r, upd w.H p o, w.x⟩ ∧ ¬ Lv (⟨w.S, w.r, upd w.H p o, w.x⟩ : Wo) p := by
  have st : Step w ⟨w.S, w.r, upd w.H p o, w.x⟩ := ⟨⟨fun _ _ h => h, fun a u h l => ⟨by show upd w.H p o a = _; rw [upd_ne (ne_of_none h hp)]; exact h, l⟩⟩, rfl, fun a ha => by
    obtain ⟨_, u, hu⟩ := W.res a ha
    show upd w.H p o a = _
    rw [upd_ne (ne_of_none hu hp)]⟩
  refine ⟨⟨W.len, W.nd, fun n c a h1 h2 => ?_, fun a ha => ?_⟩, st, fun l => ?_⟩
  · have := W.cell n c a h1 h2
    refine this.mono st.toMon ?_
    obtain ⟨u, hu⟩ := this.there
    show upd w.H p o a = _
    rw [upd_ne (ne_of_none hu hp)]
  · obtain ⟨h1, u, hu⟩ := W.res a ha
    exact ⟨h1, u, by show upd w.H p o a = _; rw [upd_ne (ne_of_none hu hp)]; exact hu⟩
  · rcases l with l | ⟨n, c, h1, _, h2⟩
    · obtain ⟨_, u, hu⟩ := W.res p l
      rw [hp] at hu
      cases hu
    · obtain ⟨u, hu⟩ := W.there h2
      rw [hp] at hu
      cases hu
/-- a new cell of the store -/
theorem Wd.alloc {T : Tb} {w : Wo} (W : Wd T w) {p : Addr} (hp : w.H p = none) {o : HO} {c : Cell} (hc : ∀ w', Step w w' → w'.H = upd w.H p o → CellOk T w' p c) :
    Wd T ⟨w.S ++ [c], w.r ++ [p], upd w.H p o, w.x⟩ ∧ Step w ⟨w.S ++ [c], w.r ++ [p], upd w.H p o, w.x⟩ ∧ (w.r ++ [p])[w.S.length]? = some p := by
  have hnp : ∀ a, a ∈ w.r → a ≠ p := fun a ha e => by
    obtain ⟨n, hn, e2⟩ := List.getElem_of_mem ha
    obtain ⟨u, hu⟩ := W.there (n := n) (a := a) (by rw [List.getElem?_eq_getElem hn, e2])
    rw [e, hp] at hu
    cases hu
  have hxp : ∀ a, a ∈ w.x → a ≠ p := fun a ha e => by
    obtain ⟨_, u, hu⟩ := W.res a ha
    rw [e, hp] at hu
    cases hu
  have st : Step w ⟨w.S ++ [c], w.r ++ [p], upd w.H p o, w.x⟩ := by
    refine ⟨⟨fun n a h => ?_, fun a u h l => ⟨by show upd w.H p o a = _; rw [upd_ne (ne_of_none h hp)]; exact h, fun l' => ?_⟩⟩, rfl, fun a ha => by show upd w.H p o a = _; rw [upd_ne (hxp a ha)]⟩
    · show (w.r ++ [p])[n]? = some a
      rw [List.getElem?_append_left (List.getElem?_eq_some_iff.mp h).1]
      exact h
    · rcases l' with l' | ⟨n, c', h1, h2, h3⟩
      · exact l (.inl l')
      change (w.S ++ [c])[n]? = some c' at h1
      change (w.r ++ [p])[n]? = some a at h3
      by_cases hn : n < w.S.length
      · rw [List.getElem?_append_left hn] at h1
        rw [List.getElem?_append_left (by rw [W.len]; exact hn)] at h3
        exact l (.inr ⟨n, c', h1, h2, h3⟩)
      · have : (w.r ++ [p])[n]? = some a := h3
        rw [List.getElem?_append_right (by rw [W.len]; omega)] at this
        have e : a = p := by
          have hm := List.mem_of_getElem? this
          simpa using hm
        rw [e, hp] at h
        cases h
  have last : (w.r ++ [p])[w.S.length]? = some p := by
    rw [← W.len, List.getElem?_append_right (Nat.le_refl _)]
    simp
  refine ⟨⟨by simp [W.len], ?_, fun n c' a h1 h2 => ?_, fun a ha => ?_⟩, st, last⟩
  · rw [List.nodup_append]
    refine ⟨W.nd, by simp, fun a ha b hb => ?_⟩
    have : b = p := by simpa using hb
    rw [this]
    exact hnp a ha
  · change (w.S ++ [c])[n]? = some c' at h1
    change (w.r ++ [p])[n]? = some a at h2
    by_cases hn : n < w.S.length
    · rw [List.getElem?_append_left hn] at h1
      rw [List.getElem?_append_left (by rw [W.len]; exact hn)] at h2
      have := W.cell n c' a h1 h2
      refine this.mono st.toMon ?_
      obtain ⟨u, hu⟩ := this.there
      show upd w.H p o a = _
      rw [upd_ne (ne_of_none hu hp)]
    · rw [List.getElem?_append_right (by omega)] at h1
      rw [List.getElem?_append_right (by rw [W.len]; omega)] at h2
      have e1 : c' = c := by simpa using List.mem_of_getElem? h1
      have e2 : a = p := by simpa using List.mem_of_getElem? h2
      rw [e1, e2]
      exact hc _ st rfl
  · obtain ⟨h1, u, hu⟩ := W.res a ha
    refine ⟨fun hm => ?_, u, by show upd w.H p o a = _; rw [upd_ne (hxp a ha)]; exact hu⟩
    rcases List.mem_append.mp hm with hm | hm
    · exact h1 hm
    · exact hxp a ha (by simpa using hm)
/-- a cell of the store is written -/
theorem Wd.write {T : Tb} {w : Wo} (W : Wd T w) {n : Nat} {c c' : Cell} {a : Addr} {o : HO} (hS : w.S[n]? = some c) (hc : c ≠ .dead) (ha : w.r[n]? = some a) (hc' : ∀ w', Step w w' → w'.H = upd w.H a o → CellOk T w' a c') :
    Wd T ⟨w.S.set n c', w.r, upd w.H a o, w.x⟩ ∧ Step w ⟨w.S.set n c', w.r, upd w.H a o, w.x⟩ := by
  have hn : n < w.S.length := (List.getElem?_eq_some_iff.mp hS).1
  have la : Lv w a := .inr ⟨n, c, hS, hc, ha⟩
  have hxa : ∀ b, b ∈ w.x → b ≠ a := fun b hb e => (W.res b hb).1 (by rw [e]; exact List.mem_of_getElem? ha)
  have st : Step w ⟨w.S.set n c', w.r, upd w.H a o, w.x⟩ := by
    refine ⟨⟨fun _ _ h => h, fun b u h l => ?_⟩, rfl, fun b hb => by show upd w.H a o b = _; rw [upd_ne (hxa b hb)]⟩
    have nb : b ≠ a := fun e => l (by rw [e]; exact la)
    refine ⟨by show upd w.H a o b = _; rw [upd_ne nb]; exact h, fun l' => ?_⟩
    rcases l' with l' | ⟨m, d, h1, h2, h3⟩
    · exact l (.inl l')
    change (w.S.set n c')[m]? = some d at h1
    by_cases e : n = m
    · subst e
      exact nb (Option.some.inj (h3.symm.trans ha))
    · rw [List.getElem?_set_ne e] at h1
      exact l (.inr ⟨m, d, h1, h2, h3⟩)
  refine ⟨⟨by simp [W.len], W.nd, fun m d b h1 h2 => ?_, fun b hb => ?_⟩, st⟩
  · change (w.S.set n c')[m]? = some d at h1
    by_cases e : n = m
    · subst e
      rw [List.getElem?_set_self hn] at h1
      cases h1
      have : b = a := Option.some.inj (h2.symm.trans ha)
      subst this
      exact hc' _ st rfl
    · rw [List.getElem?_set_ne e] at h1
      refine (W.cell m d b h1 h2).mono st.toMon ?_
      show upd w.H a o b = _
      rw [upd_ne (show b ≠ a from fun z => e (W.ne ha (by rw [← z]; exact h2)))]
  · obtain ⟨h1, u, hu⟩ := W.res b hb
    exact ⟨h1, u, by show upd w.H a o b = _; rw [upd_ne (hxa b hb)]; exact hu⟩
/-- a cell of the store is given up -/
theorem Wd.freeze {T : Tb} {w : Wo} (W : Wd T w) {n : Nat} {c : Cell} {a : Addr} (hS : w.S[n]? = some c) (ha : w.r[n]? = some a) :
    Wd T ⟨w.S.set n .dead, w.r, w.H, w.x⟩ ∧ Step w ⟨w.S.set n .dead, w.r, w.H, w.x⟩ ∧ ¬ Lv (⟨w.S.set n .dead, w.r, w.H, w.x⟩ : Wo) a := by
  have hn : n < w.S.length := (List.getElem?_eq_some_iff.mp hS).1
  have st : Step w ⟨w.S.set n .dead, w.r, w.H, w.x⟩ := by
    refine ⟨⟨fun _ _ h => h, fun b u h l => ⟨h, fun l' => ?_⟩⟩, rfl, fun _ _ => rfl⟩
    rcases l' with l' | ⟨m, d, h1, h2, h3⟩
    · exact l (.inl l')
    change (w.S.set n .dead)[m]? = some d at h1
    by_cases e : n = m
    · subst e
      rw [List.getElem?_set_self hn] at h1
      cases h1
      exact h2 rfl
    · rw [List.getElem?_set_ne e] at h1
      exact l (.inr ⟨m, d, h1, h2, h3⟩)
  refine ⟨⟨by simp [W.len], W.nd, fun m d b h1 h2 => ?_, W.res⟩, st, fun l' => ?_⟩
  · change (w.S.set n .dead)[m]? = some d at h1
    by_cases e : n = m
    · subst e
      rw [List.getElem?_set_self hn] at h1
      cases h1
      exact (W.cell n c b hS h2).there
    · rw [List.getElem?_set_ne e] at h1
      exact (W.cell m d b h1 h2).mono st.toMon rfl
  · rcases l' with l' | ⟨m, d, h1, h2, h3⟩
    · exact (W.res a l').1 (List.mem_of_getElem? ha)
    change (w.S.set n .dead)[m]? = some d at h1
    have e : n = m := W.ne ha h3
    subst e
    rw [List.getElem?_set_self hn] at h1
    cases h1
    exact h2 rfl
/-- a new thing is set apart (a list that a comprehension fills) -/
theorem Wd.reserve {T : Tb} {w : Wo} (W : Wd T w) {p : Addr} (hp : w.H p = none) (o : HO) :
    Wd T ⟨w.S, w.r, upd w.H p o, p :: w.x⟩ ∧ Mon w ⟨w.S, w.r, upd w.H p o, p :: w.x⟩ := by
  have mo : Mon w ⟨w.S, w.r, upd w.H p o, p :: w.x⟩ := ⟨fun _ _ h => h, fun a u h l => ⟨by show upd w.H p o a = _; rw [upd_ne (ne_of_none h hp)]; exact h, fun l' => by
    rcases l' with l' | l'
    · rcases List.mem_cons.mp l' with e | l'
      · rw [e, hp] at h
        cases h
      · exact l (.inl l')
    · exact l (.inr l')⟩⟩
  refine ⟨⟨W.len, W.nd, fun n c a h1 h2 => ?_, fun a ha => ?_⟩, mo⟩
  · have := W.cell n c a h1 h2
    refine this.mono mo ?_
    obtain ⟨u, hu⟩ := this.there
    show upd w.H p o a = _
    rw [upd_ne (ne_of_none hu hp)]
  · rcases List.mem_cons.mp ha with e | ha
    · subst e
      refine ⟨fun hm => ?_, o, upd_same⟩
      obtain ⟨n, hn, e2⟩ := List.getElem_of_mem hm
      obtain ⟨u, hu⟩ := W.there (n := n) (a := a) (by rw [List.getElem?_eq_getElem hn, e2])
      rw [hp] at hu
      cases hu
    · obtain ⟨h1, u, hu⟩ := W.res a ha
      exact ⟨h1, u, by show upd w.H p o a = _; rw [upd_ne (ne_of_none hu hp)]; exact hu⟩
/-- what is set apart is filled -/
theorem Wd.fill {T : Tb} {w : Wo} (W : Wd T w) {p : Addr} (hp : p ∈ w.x) (o : HO) : Wd T ⟨w.S, w.r, upd w.H p o, w.x⟩ ∧ Mon w ⟨w.S, w.r, upd w.H p o, w.x⟩ := by
  have mo : Mon w ⟨w.S, w.r, upd w.H p o, w.x⟩ := ⟨fun _ _ h => h, fun a u h l => ⟨by show upd w.H p o a = _; rw [upd_ne (fun e => l (.inl (by rw [e]; exact hp)))]; exact h, l⟩⟩
  refine ⟨⟨W.len, W.nd, fun n c a h1 h2 => ?_, fun a ha => ?_⟩, mo⟩
  · have := W.cell n c a h1 h2
    refine this.mono mo ?_
    show upd w.H p o a = _
    rw [upd_ne (fun e => (W.res p hp).1 (by rw [← e]; exact List.mem_of_getElem? h2))]
  · obtain ⟨h1, u, hu⟩ := W.res a ha
    refine ⟨h1, ?_⟩
    by_cases e : a = p
    · exact ⟨o, by show upd w.H p o a = _; rw [e]; exact upd_same⟩
    · exact ⟨u, by show upd w.H p o a = _; rw [upd_ne e]; exact hu⟩
/-- .. and stands still from then on -/
theorem Wd.release {T : Tb} {w : Wo} {xs : List Addr} {p : Addr} (W : Wd T w) (hx : w.x = p :: xs) (hp : p ∉ xs) : Wd T ⟨w.S, w.r, w.H, xs⟩ ∧ Mon w ⟨w.S, w.r, w.H, xs⟩ ∧ ¬ Lv (⟨w.S, w.r, w.H, xs⟩ : Wo) p := by
  have mo : Mon w ⟨w.S, w.r, w.H, xs⟩ := ⟨fun _ _ h => h, fun a u h l => ⟨h, fun l' => by
    rcases l' with l' | l'
    · exact l (.inl (by rw [hx]; exact List.mem_cons_of_mem _ l'))
    · exact l (.inr l')⟩⟩
  refine ⟨⟨W.len, W.nd, fun n c a h1 h2 => (W.cell n c a h1 h2).mono mo rfl, fun a ha => W.res a (by rw [hx]; exact List.mem_cons_of_mem _ ha)⟩, mo, fun l => ?_⟩
  rcases l with l | ⟨n, c, _, _, h3⟩
  · exact hp l
  · exact (W.res p (by rw [hx]; exact List.mem_cons_self)).1 (List.mem_of_getElem? h3)

/-! the frame's names -/
structure EnvOk (T : Tb) (w : Wo) (δ : Env) (σ : St) : Prop where
  len : δ.length = σ.length
  at_ : ∀ (i : Nat) (d : D), δ[i]? = some (some d) → ∃ v, σ[i]? = some (some v) ∧ Rep T w d v
theorem EnvOk.mono {T : Tb} {w w' : Wo} {δ : Env} {σ : St} (st : Mon w w') (h : EnvOk T w δ σ) : EnvOk T w' δ σ :=
  ⟨h.len, fun i d e => let ⟨v, e1, r⟩ := h.at_ i d e; ⟨v, e1, r.mono st⟩⟩
theorem EnvOk.set {T : Tb} {w : Wo} {δ : Env} {σ : St} (h : EnvOk T w δ σ) (i : Nat) {d : D} {v : V} (r : Rep T w d v) : EnvOk T w (δ.set i (some d)) (σ.set i (some v)) := by
  refine ⟨by simp [h.len], fun j d' e => ?_⟩
  by_cases hj : i = j
  · subst hj
    by_cases hi : i < δ.length
    · rw [List.getElem?_set_self hi] at e
      cases e
      exact ⟨v, List.getElem?_set_self (by rw [← h.len]; exact hi), r⟩
    · rw [List.getElem?_eq_none (by simpa using hi)] at e
      cases e
  · rw [List.getElem?_set_ne hj] at e
    rw [List.getElem?_set_ne hj]
    exact h.at_ j d' e
theorem EnvOk.unset {T : Tb} {w : Wo} {δ : Env} {σ : St} (h : EnvOk T w δ σ) (i : Nat) (x : Option V) : EnvOk T w (δ.set i none) (σ.set i x) := by
  refine ⟨by simp [h.len], fun j d' e => ?_⟩
  by_cases hj : i = j
  · subst hj
    by_cases hi : i < δ.length
    · rw [List.getElem?_set_self hi] at e
      cases e
    · rw [List.getElem?_eq_none (by simpa using hi)] at e
      cases e
  · rw [List.getElem?_set_ne hj] at e
    rw [List.getElem?_set_ne hj]
    exact h.at_ j d' e

/-! readings by functions -/
abbrev F := Env → Store → R D
abbrev Fs := Env → Store → R (List D)
inductive RS where
  | nx (δ : Env) (S : Store) | bk (δ : Env) (S : Store) | ct (δ : Env) (S : Store) | rt (d : D) (S : Store) | ex (c : Nat) (v : D) (δ : Env) (S : Store) | stuck
abbrev FS := Env → Store → RS
/-- an exception of the class c that holds v -/
def RepX (T : Tb) (w : Wo) (c : Nat) (v : D) (cls : Value) (dd : Option Addr) : Prop :=
  c < T.nc ∧ cls = .ref (T.cls c) ∧ match T.ef c with
    | some f => ∃ (d : Addr) (u : V), dd = some d ∧ w.H d = some (.xd [(T.fld f, u)]) ∧ ¬ Lv w d ∧ Rep T w v u
    | none => dd = none ∧ v = .non
theorem RepX.mono {T : Tb} {w w' : Wo} {c : Nat} {v : D} {cls : Value} {dd : Option Addr} (st : Mon w w') (h : RepX T w c v cls dd) : RepX T w' c v cls dd := by
  unfold RepX at h ⊢
  obtain ⟨h0, h1, h2⟩ := h
  refine ⟨h0, h1, ?_⟩
  revert h2
  cases T.ef c with
  | none => exact fun h2 => h2
  | some f =>
    intro h2
    obtain ⟨d, u, h2, h3, h4, h5⟩ := h2
    obtain ⟨k1, k2⟩ := st.keep _ _ h3 h4
    exact ⟨d, u, h2, k1, k2, h5.mono st⟩
def Post (T : Tb) (W : WX) (w : Wo) (σ : St) {α β : Type} (Rl : Wo → α → β → Prop) (r : R α) (Q : β → Hp → Prop) : Prop := match r with
  | .ok d S' => ∀ (w' : Wo) (v : β), w'.S = S' → Wd T w' → Step w w' → Rl w' d v → Q v w'.H
  | .ex c v S' => ∀ (w' : Wo) (cls : Value) (dd : Option Addr), w'.S = S' → Wd T w' → Step w w' → RepX T w' c v cls dd → W cls dd σ w'.H
  | .stuck => False
abbrev Xi := Wo → L2.St → Prop
def tEv (T : Tb) (W : WX) (Ξ : Xi) (f : F) : TE := fun σ H Q => ∃ (δ : Env) (w : Wo), w.H = H ∧ Wd T w ∧ EnvOk T w δ σ ∧ Ξ w σ ∧ Post T W w σ (Rep T) (f δ w.S) Q
def tEvs (T : Tb) (W : WX) (Ξ : Xi) (f : Fs) : TA := fun σ H Q => ∃ (δ : Env) (w : Wo), w.H = H ∧ Wd T w ∧ EnvOk T w δ σ ∧ Ξ w σ ∧ Post T W w σ (Reps T) (f δ w.S) Q
def tEvT (T : Tb) (W : WX) (Ξ : Xi) (f : Env → Store → R Bool) : TT := fun σ H Q => ∃ (δ : Env) (w : Wo), w.H = H ∧ Wd T w ∧ EnvOk T w δ σ ∧ Ξ w σ ∧ Post T W w σ (fun _ (a b : Bool) => a = b) (f δ w.S) Q
def PostS (T : Tb) (W : WX) (w : Wo) (r : RS) (E : Ends) : Prop := match r with
  | .nx δ' S' => ∀ (w' : Wo) (σ' : St), w'.S = S' → Wd T w' → Step w w' → EnvOk T w' δ' σ' → E.nx σ' w'.H
  | .bk δ' S' => ∀ (w' : Wo) (σ' : St), w'.S = S' → Wd T w' → Step w w' → EnvOk T w' δ' σ' → E.bk σ' w'.H
  | .ct δ' S' => ∀ (w' : Wo) (σ' : St), w'.S = S' → Wd T w' → Step w w' → EnvOk T w' δ' σ' → E.ct σ' w'.H
  | .rt d S' => ∀ (w' : Wo) (v : V), w'.S = S' → Wd T w' → Step w w' → Rep T w' d v → E.rt v w'.H
  | .ex c v δ' S' => ∀ (w' : Wo) (σ' : St) (cls : Value) (dd : Option Addr), w'.S = S' → Wd T w' → Step w w' → EnvOk T w' δ' σ' → RepX T w' c v cls dd → W cls dd σ' w'.H
  | .stuck => False
def tSt (T : Tb) (W : WX) (g : FS) : TS := fun E σ H => ∃ (δ : Env) (w : Wo), w.H = H ∧ Wd T w ∧ EnvOk T w δ σ ∧ PostS T W w (g δ w.S) E
end PV

namespace PV
open PySem L2

inductive Op2 where | add | sub | mul | fdiv | mod | pow
inductive CO where | eq | ne | lt | le | gt | ge | is_ | isn | in_ | nin
inductive Ty where | int | bool | str | list | tuple | dict | own (c : Nat)
inductive Bi where | len | max | min | abs | all | any | sum | list (m : Bool) | tuple | repr | int
inductive Tq where | one (i : Nat) | tup (is : List Nat)
inductive Tg where | one (i : Nat) | tup (is : List Nat) | deep (ts : List Tq)
/-- patterns -/
inductive Pq where | wild | cap (i : Nat) | val (d : D)
inductive Pt where | one (q : Pq) | seq (qs : List Pq)
inductive C where
  | var (i : Nat) | con (d : D) | glob (x : Nat)
  | bin (o : Op2) (a b : C) | neg (a : C) | not (a : C) | and (a b : C) | or (a b : C) | ite (c a b : C)
  | cmp (o : CO) (a b : C) | chain (o p : CO) (a b c : C)
  | nil | cons (a b : C)
  | star (e : C) | tup (es : C) | lst (m : Bool) (es : C) | dct (m : Bool) (ks vs : C)
  | call (f : Nat) (es : C) | callk (s : Nat) (es vs : C) | bi (b : Bi) (es : C) | isi (a : C) (t : Ty)
  | idx (a i : C) | sl (m : Bool) (a lo hi : C) | rev (m : Bool) (a : C)
  | comp (m : Bool) (tg : Tg) (src cnd elt : C) | comp2 (m : Bool) (tg : Tg) (src cnd : C) (tg2 : Tg) (src2 cnd2 elt : C)
  | rng (a b : C) | enum (a : C) | zip (a b : C)
  | fld (a : C) (f : Nat) | mcall (a : C) (m : Nat) (es : C) | new (m : Bool) (c : Nat) (es : C) | newk (m : Bool) (c s : Nat) (es vs : C)
  | iso (a : C) (c : Nat) | isit (a : C) (t u : Ty) | lrng (m : Bool) (a b : C) | lset (a : C) | sset (m : Bool) (a : C)
  | tch3 (o p q : CO) (a b c d : C) | stA (a : C) (f : Nat) (e : C) | frzA (i f : Nat) | match_ (e cs : C) | case_ (p : Pt) (b : C)
  | eget (f : Nat) | eis (c : Nat) | app (a e : C) | frz (a : C)
  | tst (e : C) | tcmp (o : CO) (a b : C) | tchain (o p : CO) (a b c : C)
  | set (tg : Tg) (e : C) | stI (a i e : C) | expr (e : C) | ret (e : C) | retN | ifs (c a b : C)
  | for_ (tg : Tg) (src b : C) | while_ (c b : C) | raise_ (x : Nat) (e : C) | try_ (b hs : C) | hnd (x i : Nat) (h : C) | hndN (x : Nat) (h : C)
  | pass | brk | cnt | frzV (i : Nat)
  | mkx (k : Nat) (e : C) | mkxk (k : Nat) (e : C) | isx (a : C) (j : Nat) | isxt (a : C) (js : List Nat) | popl (a : C) | dct1 (m : Bool) (k v : C) | eqo (m : Nat) (neg : Bool) (a b : C)

/-! primitives -/
def fits (n : Nat) : Bool := decide (n ≤ 16777216)
/-- what is to be read where d stands -/
def deref (S : Store) (d : D) : D := match d with
  | .ref n => match S[n]? with
    | some (.lst ds) => .lst ds
    | some (.dct ks vs) => .dct ks vs
    | some (.dtt ks vs) => .dtt ks vs
    | some (.ins c fs vs) => .obj c fs vs
    | _ => .ref n
  | d => d
def newL (m : Bool) (ds : List D) (S : Store) : R D := if fits ds.length then (if m then .ok (.ref S.length) (S ++ [.lst ds]) else .ok (.lst ds) S) else .stuck
mutual
def toP (S : Store) : D → Option PyData
  | .non => some .none
  | .bl b => some (.bool b)
  | .int i => some (.int i)
  | .str x => some (.str x)
  | .tup ds => (toPs S ds).map .tuple
  | .lst ds => (toPs S ds).map .list
  | .dct ks vs => match toPs S ks, toPs S vs with
    | some a, some b => some (.dict (a.zip b))
    | _, _ => none
  | _ => none
def toPs (S : Store) : List D → Option (List PyData)
  | [] => some []
  | d :: ds => match toP S d, toPs S ds with
    | some a, some b => some (a :: b)
    | _, _ => none
end
def eqD (S : Store) (a b : D) : Option Bool := match a, b with
  | .int i, .int j => some (decide (i = j))
  | .str x, .str y => some (decide (x = y))
  | .bl x, .bl y => some (decide (x = y))
  | _, _ => match toP S (deref S a), toP S (deref S b) with
    | some p, some q => if SeqAt.shaped p && SeqAt.shaped q then some (PyData.eqv p q) else none
    | _, _ => none
def truD (S : Store) (d : D) : Option Bool := match deref S d with
  | .non => some false
  | .bl b => some b
  | .int i => some (i != 0)
  | .str x => if fits x.length then some ((x.length : Int) != 0) else none
  | .tup ds => some (!ds.isEmpty)
  | .lst ds => some (!ds.isEmpty)
  | _ => none
def mulOk (i j : Int) : Bool := decide (i.natAbs.log2 + j.natAbs.log2 < 1000000)
def bin2 (o : Op2) (a b : D) (S : Store) : R D := match o, deref S a, deref S b with
  | .add, .int i, .int j => .ok (.int (i + j)) S
  | .add, .str x, .str y => if fits (x.length + y.length) then .ok (.str (x ++ y)) S else .stuck
  | .add, .tup xs, .tup ys => if fits (xs.length + ys.length) then .ok (.tup (xs ++ ys)) S else .stuck
  | .add, .lst xs, .lst ys => if fits (xs.length + ys.length) then .ok (.lst (xs ++ ys)) S else .stuck
  | .add, .scr ns, .lst ys => if fits (ns.length + ys.length) then .ok (.lst (ns.map .int ++ ys)) S else .stuck
  | .sub, .int i, .int j => .ok (.int (i - j)) S
  | .mul, .int i, .int j => if mulOk i j then .ok (.int (i * j)) S else .stuck
  | .mul, .lst xs, .int j => if decide (0 ≤ j) && decide (j ≤ 1000) && fits (xs.length * j.toNat) then .ok (.lst (List.replicate j.toNat xs).flatten) S else .stuck
  | .fdiv, .int i, .int j => if decide (0 < j) && decide (j.natAbs.log2 < 9000) then .ok (.int (i / j)) S else if decide (j < 0) && decide (j.natAbs.log2 < 9000) then .ok (.int (i.fdiv j)) S else .stuck
  | .mod, .int i, .int j => if decide (0 < j) then .ok (.int (i % j)) S else .stuck
  | .pow, .int i, .int j => if decide (0 ≤ j) && decide (j ≤ 1000) && decide (i.natAbs < 18446744073709551616) then .ok (.int (i ^ j.toNat)) S else .stuck
  | _, _, _ => .stuck
def flatD : D → Bool
  | .non | .bl _ | .int _ | .str _ => true
  | _ => false
def flatEq (a b : D) : Bool := match a, b with
  | .non, .non => true
  | .bl x, .bl y => x == y
  | .int i, .int j => i == j
  | .str x, .str y => x == y
  | .bl x, .int j => (if x then 1 else 0) == j
  | .int i, .bl y => i == (if y then 1 else 0)
  | _, _ => false
def inD (S : Store) (a b : D) : Option Bool := match deref S b with
  | .lst ds => if flatD a && ds.all flatD then some (ds.any fun y => flatEq y a) else (match toP S (deref S a), toPs S ds with
    | some p, some qs => if SeqAt.shaped p && SeqAt.shaped (.list qs) then some (qs.any fun z => PyData.eqv z p) else none
    | _, _ => none)
  | .tup ds => if flatD a && ds.all flatD then some (ds.any fun y => flatEq y a) else none
  | _ => none
def isNon : D → Bool
  | .non => true
  | _ => false
def cmpD (o : CO) (a b : D) (S : Store) : Option Bool := match o with
  | .eq => eqD S a b
  | .ne => (eqD S a b).map (!·)
  | .lt => match a, b with | .int i, .int j => some (decide (i < j)) | _, _ => none
  | .le => match a, b with | .int i, .int j => some (decide (i ≤ j)) | _, _ => none
  | .gt => match a, b with | .int i, .int j => some (decide (j < i)) | _, _ => none
  | .ge => match a, b with | .int i, .int j => some (decide (j ≤ i)) | _, _ => none
  | .is_ => match a, b with
    | .bl x, .bl y => some (decide (x = y))
    | a, .non => some (isNon a)
    | _, _ => none
  | .isn => match a, b with
    | .bl x, .bl y => some (!decide (x = y))
    | a, .non => some (!isNon a)
    | _, _ => none
  | .in_ => inD S a b
  | .nin => (inD S a b).map (!·)
def optB (o : Option Bool) (S : Store) : R Bool := match o with
  | some b => .ok b S
  | none => .stuck
def optD (o : Option Bool) (S : Store) : R D := match o with
  | some b => .ok (.bl b) S
  | none => .stuck
/-- the value of a key; a key and its value put in -/
def getT (k : List Key) : List D → List D → Option D
  | q :: qs, v :: vs => if keyT q = some k then some v else getT k qs vs
  | _, _ => none
def putT (k : List Key) (x e : D) (qs vs : List D) : List D × List D := if (qs.any fun q => decide (keyT q = some k)) = true then (qs, (qs.zip vs).map fun p => if keyT p.1 = some k then e else p.2) else (qs ++ [x], vs ++ [e])
/-- an object's fields -/
def fget (f : Nat) : List Nat → List D → Option D
  | g :: fs, v :: vs => if g = f then some v else fget f fs vs
  | _, _ => none
def fput (f : Nat) (e : D) : List Nat → List D → List Nat × List D
  | g :: fs, v :: vs => if g = f then (g :: fs, e :: vs) else (g :: (fput f e fs vs).1, v :: (fput f e fs vs).2)
  | _, _ => ([f], [e])
def ixD {α : Type} (ds : List α) (i : Int) : Option α := atI ds i
def idx2 (a i : D) (S : Store) : R D := match deref S a, i with
  | .lst ds, .int k => match ixD ds k with | some d => .ok d S | none => .stuck
  | .tup ds, .int k => match ixD ds k with | some d => .ok d S | none => .stuck
  | .scr ns, .int k => match ixD ns k with | some i => .ok (.int i) S | none => .stuck
  | .str x, .int k => if fits x.length then (match ixD x.cps.toList k with | some c => .ok (.str ⟨#[c]⟩) S | none => .stuck) else .stuck
  | .dtt ks vs, .tup qs => match keysD qs with
    | some k => (match getT k ks vs with | some d => .ok d S | none => .stuck)
    | none => .stuck
  | _, _ => .stuck
def cutD {α : Type} (xs : List α) (lo hi : Option Int) : List α := (xs.drop (HT.sIx xs.length 0 lo)).take (HT.sIx xs.length xs.length hi - HT.sIx xs.length 0 lo)
def asInt? : D → Option Int
  | .int i => some i
  | _ => none
def sl2 (m : Bool) (a : D) (lo hi : Option Int) (S : Store) : R D := match deref S a with
  | .lst ds => newL m (cutD ds lo hi) S
  | .tup ds => .ok (.tup (cutD ds lo hi)) S
  | _ => .stuck
def setI (a i e : D) (S : Store) : R D := match a, i with
  | .ref n, .int k => match S[n]? with
    | some (.lst ds) => match ixN ds.length k with
      | some j => .ok .non (S.set n (.lst (ds.set j e)))
      | none => .stuck
    | _ => .stuck
  | .ref n, .tup ks => match S[n]? with
    | some (.dtt qs vs) => if fits (qs.length + 1) then (match keysD ks with | some k => .ok .non (S.set n (.dtt (putT k (.tup ks) e qs vs).1 (putT k (.tup ks) e qs vs).2)) | none => .stuck) else .stuck
    | _ => .stuck
  | _, _ => .stuck
def appD (a e : D) (S : Store) : R D := match a with
  | .ref n => match S[n]? with
    | some (.lst ds) => if fits (ds.length + 1) then .ok .non (S.set n (.lst (ds ++ [e]))) else .stuck
    | _ => .stuck
  | _ => .stuck
def intsD : List D → Option (List Int)
  | [] => some []
  | .int i :: r => (intsD r).map (i :: ·)
  | _ :: _ => none
def blsD : List D → Option (List Bool)
  | [] => some []
  | .bl i :: r => (blsD r).map (i :: ·)
  | _ :: _ => none
def lenD (S : Store) (d : D) : Option Int := match deref S d with
  | .lst ds => some ds.length
  | .tup ds => some ds.length
  | .scr ns => some ns.length
  | .str x => if fits x.length then some x.length else none
  | _ => none
def maxI : Int → List Int → Int
  | m, [] => m
  | m, x :: xs => maxI (if x > m then x else m) xs
def minI : Int → List Int → Int
  | m, [] => m
  | m, x :: xs => minI (if x < m then x else m) xs
def isL : D → Option (List D)
  | .lst ds => some ds
  | _ => none
def flatDct : D → Bool
  | .dct ks vs => ks.all flatD && vs.all flatD
  | _ => false
def reprD (S : Store) (d : D) : Option Str := match toP S (deref S d) with
  | some p => if p.showable && fits p.shown.length && (!p.hasDict || flatDct (deref S d)) && decide (p.depth ≤ 60) then some p.shown else none
  | none => none
def distinct : List Int → List Int
  | [] => []
  | x :: xs => x :: (distinct xs).filter (· != x)
def biLen (ds : List D) (S : Store) : R D := match ds with
  | [d] => match lenD S d with | some n => .ok (.int n) S | none => .stuck
  | _ => .stuck
def biMax (ds : List D) (S : Store) : R D := match ds with
  | [.int i, .int j] => .ok (.int (if j > i then j else i)) S
  | [d] => match deref S d with
    | .lst (x :: xs) => match intsD (x :: xs) with | some (m :: ms) => .ok (.int (maxI m ms)) S | _ => .stuck
    | _ => .stuck
  | _ => .stuck
def biMin (ds : List D) (S : Store) : R D := match ds with
  | [.int i, .int j] => .ok (.int (if j < i then j else i)) S
  | [d] => match deref S d with
    | .lst (x :: xs) => match intsD (x :: xs) with | some (m :: ms) => .ok (.int (minI m ms)) S | _ => .stuck
    | _ => .stuck
  | _ => .stuck
def biAbs (ds : List D) (S : Store) : R D := match ds with
  | [.int i] => .ok (.int (if i < 0 then -i else i)) S
  | _ => .stuck
def biAll (ds : List D) (S : Store) : R D := match ds with
  | [d] => match (isL (deref S d)).bind blsD with | some bs => .ok (.bl (bs.all id)) S | none => .stuck
  | _ => .stuck
def biAny (ds : List D) (S : Store) : R D := match ds with
  | [d] => match (isL (deref S d)).bind blsD with | some bs => .ok (.bl (bs.any id)) S | none => .stuck
  | _ => .stuck
def biSum (ds : List D) (S : Store) : R D := match ds with
  | [d] => match (isL (deref S d)).bind intsD with | some is => .ok (.int is.sum) S | none => .stuck
  | _ => .stuck
def biList (m : Bool) (ds : List D) (S : Store) : R D := match ds with
  | [d] => match deref S d with
    | .lst ds => newL m ds S
    | .tup ds => newL m ds S
    | .emp => newL m [] S
    | _ => .stuck
  | _ => .stuck
def biTuple (ds : List D) (S : Store) : R D := match ds with
  | [d] => match deref S d with
    | .lst ds => if fits ds.length then .ok (.tup ds) S else .stuck
    | .tup ds => .ok (.tup ds) S
    | _ => .stuck
  | _ => .stuck
def biRepr (ds : List D) (S : Store) : R D := match ds with
  | [d] => match reprD S d with | some x => .ok (.str x) S | none => .stuck
  | _ => .stuck
def biInt (ds : List D) (S : Store) : R D := match ds with
  | [.bl k] => .ok (.int (if k then 1 else 0)) S
  | [.int i] => .ok (.int i) S
  | _ => .stuck
def biD (b : Bi) (ds : List D) (S : Store) : R D := match b with
  | .len => biLen ds S
  | .max => biMax ds S
  | .min => biMin ds S
  | .abs => biAbs ds S
  | .all => biAll ds S
  | .any => biAny ds S
  | .sum => biSum ds S
  | .list m => biList m ds S
  | .tuple => biTuple ds S
  | .repr => biRepr ds S
  | .int => biInt ds S

def isiD (S : Store) (d : D) (t : Ty) : Option Bool := match deref S d, t with
  | .ref _, _ => none
  | .scr _, _ => none
  | .obj _ _ _, _ => none
  | .err _ _, _ => none
  | .dtt _ _, .dict => some true
  | .emp, .tuple => some true
  | .bl _, .bool => some true
  | .bl _, .int => some true
  | .int _, .int => some true
  | .str _, .str => some true
  | .lst _, .list => some true
  | .tup _, .tuple => some true
  | .dct _ _, .dict => some true
  | _, .own _ => none
  | _, _ => some false
def setAll (δ : Env) (is : List Nat) (ds : List D) : Env := (is.zip ds).foldl (fun δ p => δ.set p.1 (some p.2)) δ
/-- names and tuples of names, one after another -/
def bindP : List Tq → List D → Env → Option Env
  | [], [], δ => some δ
  | .one i :: r, d :: ds, δ => bindP r ds (δ.set i (some d))
  | .tup is :: r, .tup es :: ds, δ => if is.length = es.length then bindP r ds ((is.zip es).foldl (fun δ p => δ.set p.1 (some p.2)) δ) else none
  | _, _, _ => none
def bindT (tg : Tg) (d : D) (δ : Env) : Option Env := match tg, d with
  | .one i, d => some (δ.set i (some d))
  | .tup is, .tup ds => if is.length = ds.length then some ((is.zip ds).foldl (fun δ p => δ.set p.1 (some p.2)) δ) else none
  | .deep ts, .tup ds => bindP ts ds δ
  | _, _ => none
def slotsQ : Tq → List Nat
  | .one i => [i]
  | .tup is => is
def slotsP : List Tq → List Nat
  | [] => []
  | t :: r => slotsQ t ++ slotsP r
def slots : Tg → List Nat
  | .one i => [i]
  | .tup is => is
  | .deep ts => slotsP ts
def wipeD (δ : Env) : List Nat → Env
  | [] => δ
  | v :: vs => (wipeD δ vs).set v none
def frzD (d : D) (S : Store) : R D := match d with
  | .ref n => match S[n]? with
    | some (.lst ds) => .ok (.lst ds) (S.set n .dead)
    | some (.dct ks vs) => .ok (.dct ks vs) (S.set n .dead)
    | some (.dtt ks vs) => .ok (.dtt ks vs) (S.set n .dead)
    | some (.ins c fs vs) => .ok (.obj c fs vs) (S.set n .dead)
    | _ => .stuck
  | _ => .stuck
/-- a comprehension's turns; no error leaves them -/
def compL (tg : Tg) (cnd : Env → Store → R Bool) (elt : F) (δ : Env) : List D → Store → R (List D)
  | [], S => .ok [] S
  | d :: ds, S => match bindT tg d (wipeD δ (slots tg)) with
    | none => .stuck
    | some δ1 => match cnd δ1 S with
      | .ok true S1 => match elt δ1 S1 with
        | .ok e S2 => match compL tg cnd elt δ ds S2 with
          | .ok es S3 => .ok (e :: es) S3
          | _ => .stuck
        | _ => .stuck
      | .ok false S1 => compL tg cnd elt δ ds S1
      | _ => .stuck
/-- what is walked: items, or a list that may change -/
inductive It where | fix (ds : List D) | live (n : Nat)
def bigN : Nat := 16777217
/-- the item at i of the list at n; none: no such list -/
def atL (S : Store) (n i : Nat) : Option (Option D) := match S[n]? with
  | some (.lst ds) => some ds[i]?
  | _ => none
/-- a walk by the items' places -/
def compG (at_ : Store → Nat → Option (Option D)) (sl : List Nat) (tg : Tg) (cnd : Env → Store → R Bool) (elt : F) (δ : Env) : Nat → Nat → Store → R (List D)
  | 0, _, _ => .stuck
  | k + 1, i, S => match at_ S i with
    | none => .stuck
    | some none => .ok [] S
    | some (some d) => match bindT tg d (wipeD δ sl) with
      | none => .stuck
      | some δ1 => match cnd δ1 S with
        | .ok true S1 => match elt δ1 S1 with
          | .ok e S2 => match compG at_ sl tg cnd elt δ k (i + 1) S2 with
            | .ok es S3 => .ok (e :: es) S3
            | _ => .stuck
          | _ => .stuck
        | .ok false S1 => compG at_ sl tg cnd elt δ k (i + 1) S1
        | _ => .stuck
/-- .. whose turns give lists -/
def compW (at_ : Store → Nat → Option (Option D)) (sl : List Nat) (tg : Tg) (cnd : Env → Store → R Bool) (elt : Env → Store → R (List D)) (δ : Env) : Nat → Nat → Store → R (List D)
  | 0, _, _ => .stuck
  | k + 1, i, S => match at_ S i with
    | none => .stuck
    | some none => .ok [] S
    | some (some d) => match bindT tg d (wipeD δ sl) with
      | none => .stuck
      | some δ1 => match cnd δ1 S with
        | .ok true S1 => match elt δ1 S1 with
          | .ok e S2 => match compW at_ sl tg cnd elt δ k (i + 1) S2 with
            | .ok es S3 => .ok (e ++ es) S3
            | _ => .stuck
          | _ => .stuck
        | .ok false S1 => compW at_ sl tg cnd elt δ k (i + 1) S1
        | _ => .stuck
def forG (at_ : Store → Nat → Option (Option D)) (tg : Tg) (body : FS) : Nat → Nat → Env → Store → RS
  | 0, _, _, _ => .stuck
  | k + 1, i, δ, S => match at_ S i with
    | none => .stuck
    | some none => .nx δ S
    | some (some d) => match bindT tg d δ with
      | none => .stuck
      | some δ1 => match body δ1 S with
        | .nx δ2 S2 => forG at_ tg body k (i + 1) δ2 S2
        | .ct δ2 S2 => forG at_ tg body k (i + 1) δ2 S2
        | .bk δ2 S2 => .nx δ2 S2
        | r => r
def atF (its : List D) : Store → Nat → Option (Option D) := fun _ i => some its[i]?
def compR (tg : Tg) (cnd : Env → Store → R Bool) (elt : F) (δ : Env) (n k i : Nat) (S : Store) : R (List D) := compG (fun S i => atL S n i) (slots tg) tg cnd elt δ k i S
def forR (tg : Tg) (body : FS) (n k i : Nat) (δ : Env) (S : Store) : RS := forG (fun S i => atL S n i) tg body k i δ S
def forL (tg : Tg) (body : FS) : List D → Env → Store → RS
  | [], δ, S => .nx δ S
  | d :: ds, δ, S => match bindT tg d δ with
    | none => .stuck
    | some δ1 => match body δ1 S with
      | .nx δ2 S2 => forL tg body ds δ2 S2
      | .ct δ2 S2 => forL tg body ds δ2 S2
      | .bk δ2 S2 => .nx δ2 S2
      | r => r
def compI (tg : Tg) (cnd : Env → Store → R Bool) (elt : F) (δ : Env) (it : It) (S : Store) : R (List D) := match it with
  | .fix ds => compL tg cnd elt δ ds S
  | .live n => compR tg cnd elt δ n bigN 0 S
/-- the turns of two clauses -/
def compWI (sl : List Nat) (tg : Tg) (cnd : Env → Store → R Bool) (elt : Env → Store → R (List D)) (δ : Env) (it : It) (S : Store) : R (List D) := match it with
  | .fix its => compW (atF its) sl tg cnd elt δ (its.length + 1) 0 S
  | .live n => compW (fun S i => atL S n i) sl tg cnd elt δ bigN 0 S
/-- the inner clause: its walk, its turns -/
def comp1I (tg : Tg) (cnd : Env → Store → R Bool) (elt : F) (δ : Env) (r : R It) : R (List D) := match r with
  | .ok it S => compI tg cnd elt δ it S
  | _ => .stuck
def forI (tg : Tg) (body : FS) (it : It) (δ : Env) (S : Store) : RS := match it with
  | .fix ds => forL tg body ds δ S
  | .live n => forR tg body n bigN 0 δ S
def whileF (cnd : Env → Store → R Bool) (body : FS) : Nat → Env → Store → RS
  | 0, _, _ => .stuck
  | k + 1, δ, S => match cnd δ S with
    | .ok true S1 => match body δ S1 with
      | .nx δ2 S2 => whileF cnd body k δ2 S2
      | .ct δ2 S2 => whileF cnd body k δ2 S2
      | .bk δ2 S2 => .nx δ2 S2
      | r => r
    | .ok false S1 => .nx δ S1
    | .ex c v S1 => .ex c v δ S1
    | .stuck => .stuck
def RofS (δ : Env) (r : R D) (f : D → Store → RS) : RS := match r with
  | .ok d S => f d S
  | .ex c v S => .ex c v δ S
  | .stuck => .stuck

/-- what the evaluator is given: the defs by number, the module's constants, the turns of a while -/
structure Gv where
  cal : Nat → List D → Store → R D
  gl : Nat → D
  fu : Nat
  sub : Nat → Nat → Bool
  ef : Nat → Option Nat
  cur : Option (Nat × D)
  cak : Nat → List D → List D → Store → R D
  met : Nat → Nat → Option Nat
  prp : Nat → Nat → Option Nat
  cst : Nat → Nat → Option D
  isf : Nat → Nat → Bool
  ini : Nat → Option Nat
  isa : Nat → Nat → Option Bool
def itD (S : Store) (d : D) : R It := match d with
  | .lst ds => .ok (.fix ds) S
  | .tup ds => .ok (.fix ds) S
  | .emp => .ok (.fix []) S
  | .ref n => match S[n]? with
    | some (.lst _) => .ok (.live n) S
    | _ => .stuck
  | _ => .stuck
/-- o.f, o.m -/
def fldD (G : Gv) (x : D) (f : Nat) (S : Store) : R D := match deref S x with
  | .obj c fs vs => match fget f fs vs with
    | some d => if G.isf c f then .ok d S else .stuck
    | none => match G.cst c f with
      | some d => .ok d S
      | none => match G.prp c f with
        | some n => (match G.cal n [x] S with | .ok d S1 => .ok d S1 | _ => .stuck)
        | none => .stuck
  | .err c v => if G.ef c = some f then .ok v S else .stuck
  | _ => .stuck
def mtD (G : Gv) (x : D) (m : Nat) (S : Store) : Option Nat := match deref S x with
  | .obj c fs vs => if (fget m fs vs).isNone then G.met c m else none
  | _ => none
/-- an error as a value: its class -/
def isxD (G : Gv) (S : Store) (x : D) (j : Nat) : Option Bool := match deref S x with
  | .err c _ => some (G.sub c j)
  | _ => none
def isxtD (G : Gv) (S : Store) (x : D) (js : List Nat) : Option Bool := match deref S x with
  | .err c _ => some (js.any fun j => G.sub c j)
  | _ => none
/-- {k: v}, its place laid first -/
def dctD (m : Bool) (n : Nat) (x y : D) (S : Store) : R D := match S[n]? with
  | some (.dct [] []) => (match keyD x with
    | some _ => if m then .ok (.ref n) (S.set n (.dct [x] [y])) else frzD (.ref n) (S.set n (.dct [x] [y]))
    | none => .stuck)
  | _ => .stuck
def popD (a : D) (S : Store) : R D := match a with
  | .ref n => match S[n]? with
    | some (.lst ds) => (match ds.getLast? with | some d => .ok d (S.set n (.lst ds.dropLast)) | none => .stuck)
    | _ => .stuck
  | _ => .stuck
/-- == by the text's own __eq__, and what != makes of it -/
def eqoD (G : Gv) (m : Nat) (neg : Bool) (x y : D) (S : Store) : R D := match mtD G x m S with
  | some n => (match G.cal n [x, y] S with
    | .ok (.bl b) S1 => .ok (.bl (if neg then !b else b)) S1
    | _ => .stuck)
  | none => .stuck
def newO (m : Bool) (n : Nat) (r : R D) : R D := match r with
  | .ok .non S => if m then .ok (.ref n) S else frzD (.ref n) S
  | .ex c v S => .ex c v S
  | _ => .stuck
def stAD (G : Gv) (x : D) (f : Nat) (e : D) (S : Store) : R D := match x with
  | .ref n => match S[n]? with
    | some (.ins c fs vs) => if G.isf c f && decide (fs.length < 1000) then .ok .non (S.set n (.ins c (fput f e fs vs).1 (fput f e fs vs).2)) else .stuck
    | _ => .stuck
  | _ => .stuck
def isoD (G : Gv) (S : Store) (x : D) (c : Nat) : Option Bool := match deref S x with
  | .obj k _ _ => G.isa k c
  | .ref _ => none
  | .scr _ => none
  | .err _ _ => none
  | _ => some false
def isitD (S : Store) (x : D) (t u : Ty) : Option Bool := match isiD S x t, isiD S x u with
  | some a, some b => some (a || b)
  | _, _ => none
/-- a field's content is frozen -/
def frzAD (d : D) (f : Nat) (S : Store) : Option Store := match d with
  | .ref n => match S[n]? with
    | some (.ins c fs vs) => match fget f fs vs with
      | some e => (match frzD e S with
        | .ok e' S1 => (match S1[n]? with
          | some (.ins _ _ _) => some (S1.set n (.ins c fs (fput f e' fs vs).2))
          | _ => none)
        | _ => none)
      | none => none
    | _ => none
  | _ => none
/-- patterns -/
def matQ (S : Store) : Pq → D → Env → Option (Option Env)
  | .wild, _, δ => some (some δ)
  | .cap i, d, δ => some (some (δ.set i (some d)))
  | .val k, d, δ => match eqD S d k with
    | some true => some (some δ)
    | some false => some none
    | none => none
def matS (S : Store) : List Pq → List D → Env → Option (Option Env)
  | q :: qs, d :: ds, δ => match matQ S q d δ with
    | some (some δ1) => matS S qs ds δ1
    | r => r
  | _, _, δ => some (some δ)
def matD (S : Store) (p : Pt) (d : D) (δ : Env) : Option (Option Env) := match p, d with
  | .one q, d => matQ S q d δ
  | .seq qs, .tup ds => if ds.length = qs.length then matS S qs ds δ else some none
  | _, _ => none
def dedup (ns : List Int) : List Int := ns.foldl (fun l k => if l.any (· == k) then l else l ++ [k]) []
def dedupT (ns : List (List Int)) : List (List Int) := ns.foldl (fun l k => if l.any (· == k) then l else l ++ [k]) []
def tupsD : List D → Option (List (List Int))
  | [] => some []
  | .tup ds :: r => match intsD ds, tupsD r with
    | some a, some b => some (a :: b)
    | _, _ => none
  | _ :: _ => none
def lenSet (d : D) (S : Store) : R D := match isL (deref S d) with
  | some ds => match intsD ds with
    | some ns => if decide (ns.length ≤ 4000) then .ok (.int (dedup ns).length) S else .stuck
    | none => match tupsD ds with
      | some ts => if decide (ts.length < 64) then .ok (.int (dedupT ts).length) S else .stuck
      | none => .stuck
  | none => .stuck
def insI (x : Int) : List Int → List Int
  | [] => [x]
  | y :: ys => if x ≤ y then x :: y :: ys else y :: insI x ys
def sortI : List Int → List Int
  | [] => []
  | x :: xs => insI x (sortI xs)
def sortSet (m : Bool) (d : D) (S : Store) : R D := match isL (deref S d) with
  | some ds => match intsD ds with
    | some ns => if decide (ns.length < 64) then newL m ((sortI (dedup ns)).map .int) S else .stuck
    | none => .stuck
  | none => .stuck
def rangeD (i j : Int) : List D := (List.range (j - i).toNat).map fun (k : Nat) => D.int (i + k)
def enumD (ds : List D) : List D := ds.zipIdx.map fun (d, k) => D.tup [.int (k : Nat), d]
def zipD (a b : D) : Option (List D) := match a, b with
  | .lst xs, .lst ys => some ((xs.zip ys).map fun (x, y) => D.tup [x, y])
  | .tup xs, .tup ys => some ((xs.zip ys).map fun (x, y) => D.tup [x, y])
  | _, _ => none
/-- the items of a sequence, as a star takes them -/
def seqD (S : Store) (d : D) : Option (List D) := match deref S d with
  | .lst ds => some ds
  | .tup ds => some ds
  | _ => none
def isStar : C → Bool
  | .star _ => true
  | _ => false
def inR (i : Int) : Bool := decide (-4611686018427387904 ≤ i) && decide (i < 4611686018427387904)

/-- what an error of the class x holds of its argument -/
def xval (G : Gv) (x : Nat) (d : D) : D := match G.ef x with
  | some _ => d
  | none => .non
mutual
def ev (G : Gv) : C → F
  | .var i => fun δ S => match δ[i]? with
    | some (some d) => .ok d S
    | _ => .stuck
  | .con d => fun _ S => .ok d S
  | .glob x => fun _ S => .ok (G.gl x) S
  | .bin o a b => fun δ S => (ev G a δ S).bind fun x S1 => (ev G b δ S1).bind fun y S2 => bin2 o x y S2
  | .neg a => fun δ S => (ev G a δ S).bind fun x S1 => match x with
    | .int i => .ok (.int (-i)) S1
    | _ => .stuck
  | .not a => fun δ S => (ev G a δ S).bind fun x S1 => match truD S1 x with
    | some b => .ok (.bl (!b)) S1
    | none => .stuck
  | .and a b => fun δ S => (ev G a δ S).bind fun x S1 => match truD S1 x with
    | some true => ev G b δ S1
    | some false => .ok x S1
    | none => .stuck
  | .or a b => fun δ S => (ev G a δ S).bind fun x S1 => match truD S1 x with
    | some true => .ok x S1
    | some false => ev G b δ S1
    | none => .stuck
  | .ite c a b => fun δ S => (evT G c δ S).bind fun x S1 => if x then ev G a δ S1 else ev G b δ S1
  | .cmp o a b => fun δ S => (ev G a δ S).bind fun x S1 => (ev G b δ S1).bind fun y S2 => optD (cmpD o x y S2) S2
  | .chain o p a b c => fun δ S => (ev G a δ S).bind fun x S1 => (ev G b δ S1).bind fun y S2 => match cmpD o x y S2 with
    | some true => (ev G c δ S2).bind fun z S3 => optD (cmpD p y z S3) S3
    | some false => .ok (.bl false) S2
    | none => .stuck
  | .tup es => fun δ S => (evs G es δ S).bind fun ds S1 => if fits ds.length then .ok (.tup ds) S1 else .stuck
  | .lst m es => fun δ S => (evs G es δ S).bind fun ds S1 => newL m ds S1
  | .dct m ks vs => fun _ S => match ks, vs with
    | .nil, .nil => if m then .ok (.ref S.length) (S ++ [.dtt [] []]) else .ok (.dct [] []) S
    | _, _ => .stuck
  | .dct1 m k v => fun δ S => (ev G k δ (S ++ [.dct [] []])).bind fun x S1 => (ev G v δ S1).bind fun y S2 => dctD m S.length x y S2
  | .call f es => fun δ S => (evs G es δ S).bind fun ds S1 => G.cal f ds S1
  | .callk s es vs => fun δ S => (evs G es δ S).bind fun ds S1 => (evs G vs δ S1).bind fun zs S2 => G.cak s ds zs S2
  | .bi b es => fun δ S => (evs G es δ S).bind fun ds S1 => biD b ds S1
  | .isi a t => fun δ S => (ev G a δ S).bind fun x S1 => optD (isiD S1 x t) S1
  | .idx a i => fun δ S => (ev G a δ S).bind fun x S1 => (ev G i δ S1).bind fun y S2 => idx2 x y S2
  | .sl m a lo hi => fun δ S => (ev G a δ S).bind fun x S1 => (evO G lo δ S1).bind fun l S2 => (evO G hi δ S2).bind fun h S3 => sl2 m x l h S3
  | .rev m a => fun δ S => (ev G a δ S).bind fun x S1 => match deref S1 x with
    | .tup ds => .ok (.tup ds.reverse) S1
    | .lst ds => newL m ds.reverse S1
    | _ => .stuck
  | .comp m tg src cnd elt => fun δ S => (evI G src δ S).bind fun its S1 => (compI tg (evT G cnd) (ev G elt) δ its S1).bind fun ds S2 => newL m ds S2
  | .comp2 m tg src cnd tg2 src2 cnd2 elt => fun δ S => (evI G src δ S).bind fun its S1 => (compWI (slots tg ++ slots tg2) tg (evT G cnd) (fun δ1 S2 => comp1I tg2 (evT G cnd2) (ev G elt) δ1 (evI G src2 δ1 S2)) δ its S1).bind fun ds S2 => newL m ds S2
  | .fld a f => fun δ S => (ev G a δ S).bind fun x S1 => fldD G x f S1
  | .mcall a m es => fun δ S => (ev G a δ S).bind fun x S1 => match mtD G x m S1 with
    | some n => (evs G es δ S1).bind fun ds S2 => G.cal n (x :: ds) S2
    | none => .stuck
  | .new m c es => fun δ S => match G.ini c with
    | some i => (evs G es δ S).bind fun ds S1 => newO m S1.length (G.cal i (.ref S1.length :: ds) (S1 ++ [.ins c [] []]))
    | none => .stuck
  | .newk m c s es vs => fun δ S => (evs G es δ S).bind fun ds S1 => (evs G vs δ S1).bind fun zs S2 => newO m S2.length (G.cak s (.ref S2.length :: ds) zs (S2 ++ [.ins c [] []]))
  | .iso a c => fun δ S => (ev G a δ S).bind fun x S1 => optD (isoD G S1 x c) S1
  | .isit a t u => fun δ S => (ev G a δ S).bind fun x S1 => optD (isitD S1 x t u) S1
  | .lrng m a b => fun δ S => (ev G a δ S).bind fun x S1 => (ev G b δ S1).bind fun y S2 => match x, y with
    | .int i, .int j => if inR i && inR j then newL m (rangeD i j) S2 else .stuck
    | _, _ => .stuck
  | .lset a => fun δ S => (ev G a δ S).bind fun x S1 => lenSet x S1
  | .sset m a => fun δ S => (ev G a δ S).bind fun x S1 => sortSet m x S1
  | .eget f => fun _ S => match G.cur with
    | some (c, v) => if G.ef c = some f then .ok v S else .stuck
    | none => .stuck
  | .eis c => fun _ S => match G.cur with
    | some (k, _) => .ok (.bl (G.sub k c)) S
    | none => .stuck
  | .app a e => fun δ S => (ev G a δ S).bind fun x S1 => if (isL (deref S1 x)).isSome then (ev G e δ S1).bind fun y S2 => appD x y S2 else .stuck
  | .frz a => fun δ S => (ev G a δ S).bind fun x S1 => frzD x S1
  | .mkx k e => fun δ S => (ev G e δ S).bind fun x S1 => .ok (.err k (xval G k x)) S1
  | .mkxk k e => fun δ S => (ev G e δ S).bind fun x S1 => .ok (.err k (xval G k x)) S1
  | .isx a j => fun δ S => (ev G a δ S).bind fun x S1 => optD (isxD G S1 x j) S1
  | .isxt a js => fun δ S => (ev G a δ S).bind fun x S1 => optD (isxtD G S1 x js) S1
  | .popl a => fun δ S => (ev G a δ S).bind fun x S1 => popD x S1
  | .eqo m neg a b => fun δ S => (ev G a δ S).bind fun x S1 => (ev G b δ S1).bind fun y S2 => eqoD G m neg x y S2
  | _ => fun _ _ => .stuck
def evs (G : Gv) : C → Fs
  | .nil => fun _ S => .ok [] S
  | .cons (.star a) b => fun δ S => (ev G a δ S).bind fun x S1 => match seqD S1 x with
    | some xs => (evs G b δ S1).bind fun ys S2 => .ok (xs ++ ys) S2
    | none => .stuck
  | .cons a b => fun δ S => (ev G a δ S).bind fun x S1 => (evs G b δ S1).bind fun xs S2 => .ok (x :: xs) S2
  | _ => fun _ _ => .stuck
def evO (G : Gv) : C → Env → Store → R (Option Int)
  | .nil => fun _ S => .ok none S
  | .cons a _ => fun δ S => (ev G a δ S).bind fun x S1 => match x with
    | .int i => .ok (some i) S1
    | _ => .stuck
  | _ => fun _ _ => .stuck
def evT (G : Gv) : C → Env → Store → R Bool
  | .nil => fun _ S => .ok true S
  | .not a => fun δ S => (evT G a δ S).bind fun b S1 => .ok (!b) S1
  | .and a b => fun δ S => (evT G a δ S).bind fun x S1 => if x then evT G b δ S1 else .ok false S1
  | .or a b => fun δ S => (evT G a δ S).bind fun x S1 => if x then .ok true S1 else evT G b δ S1
  | .tst e => fun δ S => (ev G e δ S).bind fun x S1 => optB (truD S1 x) S1
  | .tcmp o a b => fun δ S => (ev G a δ S).bind fun x S1 => (ev G b δ S1).bind fun y S2 => optB (cmpD o x y S2) S2
  | .tchain o p a b c => fun δ S => (ev G a δ S).bind fun x S1 => (ev G b δ S1).bind fun y S2 => match cmpD o x y S2 with
    | some true => (ev G c δ S2).bind fun z S3 => optB (cmpD p y z S3) S3
    | some false => .ok false S2
    | none => .stuck
  | .tch3 o p q a b c d => fun δ S => (ev G a δ S).bind fun x S1 => (ev G b δ S1).bind fun y S2 => match cmpD o x y S2 with
    | some true => (ev G c δ S2).bind fun z S3 => (match cmpD p y z S3 with
      | some true => (ev G d δ S3).bind fun u S4 => optB (cmpD q z u S4) S4
      | some false => .ok false S3
      | none => .stuck)
    | some false => .ok false S2
    | none => .stuck
  | _ => fun _ _ => .stuck
def evI (G : Gv) : C → Env → Store → R It
  | .rng a b => fun δ S => (ev G a δ S).bind fun x S1 => (ev G b δ S1).bind fun y S2 => match x, y with
    | .int i, .int j => if inR i && inR j then .ok (.fix (rangeD i j)) S2 else .stuck
    | _, _ => .stuck
  | .enum a => fun δ S => (ev G a δ S).bind fun x S1 => match x with
    | .lst ds => .ok (.fix (enumD ds)) S1
    | _ => .stuck
  | .zip a b => fun δ S => (ev G a δ S).bind fun x S1 => (ev G b δ S1).bind fun y S2 => match zipD x y with
    | some ds => .ok (.fix ds) S2
    | none => .stuck
  | .tst a => fun δ S => (ev G a δ S).bind fun x S1 => itD S1 x
  | _ => fun _ _ => .stuck
def ex (G : Gv) : C → FS
  | .nil => fun δ S => .nx δ S
  | .cons (.frzV i) b => fun δ S => match δ[i]? with
    | some (some d) => match frzD d S with
      | .ok e S1 => ex G b (δ.set i (some e)) S1
      | _ => .stuck
    | _ => .stuck
  | .cons (.frzA i f) b => fun δ S => match δ[i]? with
    | some (some d) => match frzAD d f S with
      | some S1 => ex G b δ S1
      | none => .stuck
    | _ => .stuck
  | .cons a b => fun δ S => match ex G a δ S with
    | .nx δ1 S1 => ex G b δ1 S1
    | r => r
  | .set tg e => fun δ S => RofS δ (ev G e δ S) fun d S1 => match bindT tg d δ with
    | some δ1 => .nx δ1 S1
    | none => .stuck
  | .stI a i e => fun δ S => RofS δ (ev G e δ S) fun z S1 => RofS δ (ev G a δ S1) fun x S2 => RofS δ (ev G i δ S2) fun y S3 => RofS δ (setI x y z S3) fun _ S4 => .nx δ S4
  | .expr e => fun δ S => RofS δ (ev G e δ S) fun _ S1 => .nx δ S1
  | .ret e => fun δ S => RofS δ (ev G e δ S) fun d S1 => .rt d S1
  | .retN => fun _ S => .rt .non S
  | .ifs c a b => fun δ S => match evT G c δ S with
    | .ok true S1 => ex G a δ S1
    | .ok false S1 => ex G b δ S1
    | .ex c v S1 => .ex c v δ S1
    | .stuck => .stuck
  | .for_ tg src b => fun δ S => match evI G src δ S with
    | .ok its S1 => forI tg (ex G b) its δ S1
    | .ex c v S1 => .ex c v δ S1
    | .stuck => .stuck
  | .while_ c b => fun δ S => whileF (evT G c) (ex G b) G.fu δ S
  | .raise_ x e => fun δ S => RofS δ (ev G e δ S) fun d S1 => .ex x (xval G x d) δ S1
  | .try_ b hs => fun δ S => match ex G b δ S with
    | .ex c v δ1 S1 => exH G hs c v δ1 S1
    | r => r
  | .stA a f e => fun δ S => RofS δ (ev G e δ S) fun z S1 => RofS δ (ev G a δ S1) fun x S2 => RofS δ (stAD G x f z S2) fun _ S3 => .nx δ S3
  | .match_ e cs => fun δ S => RofS δ (ev G e δ S) fun d S1 => exM G cs d δ S1
  | .pass => fun δ S => .nx δ S
  | .brk => fun δ S => .bk δ S
  | .cnt => fun δ S => .ct δ S
  | _ => fun _ _ => .stuck
/-- the cases of a match -/
def exM (G : Gv) : C → D → Env → Store → RS
  | .nil => fun _ δ S => .nx δ S
  | .cons (.case_ p b) r => fun d δ S => match matD S p d δ with
    | some (some δ1) => ex G b δ1 S
    | some none => exM G r d δ S
    | none => .stuck
  | _ => fun _ _ _ => .stuck
/-- the clauses of a try, one by one -/
def exH (G : Gv) : C → Nat → D → Env → Store → RS
  | .nil => fun c v δ S => .ex c v δ S
  | .cons (.hnd x i h) r => fun c v δ S => if G.sub c x then (match (if i < δ.length then ev { G with cur := some (c, v) } h (δ.set i none) S else .stuck) with
      | .ok d S2 => .rt d S2
      | _ => .stuck) else exH G r c v δ S
  | .cons (.hndN x h) r => fun c v δ S => if G.sub c x then (match ev { G with cur := some (c, v) } h δ S with
      | .ok d S2 => .rt d S2
      | _ => .stuck) else exH G r c v δ S
  | _ => fun _ _ _ _ => .stuck
end
end PV

namespace PV
open PySem L2

section
variable {T : Tb} {W : WX} {w : Wo} {σ : St} {α β γ δ' : Type} {Rl : Wo → α → β → Prop} {Rm : Wo → γ → δ' → Prop}
theorem Post.mono {r : R α} {Q Q' : β → Hp → Prop} (h : Post T W w σ Rl r Q) (k : ∀ v H, Q v H → Q' v H) : Post T W w σ Rl r Q' := by
  cases r with
  | ok a S => exact fun w' v e wd st rl => k _ _ (h w' v e wd st rl)
  | ex c v S => exact h
  | stuck => exact h
theorem Post.step {r : R α} {w' : Wo} {Q : β → Hp → Prop} (st : Step w w') (h : Post T W w σ Rl r Q) : Post T W w' σ Rl r Q := by
  cases r with
  | ok a S => exact fun w2 v e wd s2 rl => h w2 v e wd (st.trans s2) rl
  | ex c v S => exact fun w2 cl dd e wd s2 rx => h w2 cl dd e wd (st.trans s2) rx
  | stuck => exact h
theorem Post.split {r : R α} {f : α → Store → R γ} {Q : δ' → Hp → Prop} (h : Post T W w σ Rm (r.bind f) Q) :
    Post T W w σ Rl r fun v1 H1 => ∃ (w1 : Wo) (d1 : α), w1.H = H1 ∧ Wd T w1 ∧ Step w w1 ∧ Rl w1 d1 v1 ∧ Post T W w1 σ Rm (f d1 w1.S) Q := by
  cases r with
  | ok a S =>
    intro w' v e wd st rl
    refine ⟨w', a, rfl, wd, st, rl, Post.step st ?_⟩
    rw [e]
    exact h
  | ex c v S => exact h
  | stuck => exact h
end
/-- the things to be read at a value -/
theorem deref_lst {T : Tb} {w : Wo} (wd : Wd T w) {d : D} {v : V} {ds : List D} (r : Rep T w d v) (e : deref w.S d = .lst ds) : ∃ a vs, v = .ref a ∧ w.H a = some (.lst vs) ∧ Reps T w ds vs := by
  cases r with
  | lst h rs =>
    cases e
    exact ⟨_, _, rfl, h.1, rs⟩
  | @ref n a hn =>
    unfold deref at e
    dsimp only at e
    obtain ⟨c, hc⟩ := wd.cellAt hn
    rw [hc] at e
    have k := wd.cell n c a hc hn
    cases c with
    | lst xs =>
      cases e
      obtain ⟨vs, h, rs⟩ := k
      exact ⟨a, vs, rfl, h, rs⟩
    | dct _ _ => cases e
    | dtt _ _ => cases e
    | ins _ _ _ => cases e
    | dead => cases e
  | _ => cases e
theorem deref_tup {T : Tb} {w : Wo} (wd : Wd T w) {d : D} {v : V} {ds : List D} (r : Rep T w d v) (e : deref w.S d = .tup ds) : ∃ a vs, v = .ref a ∧ SqT T.K w.H a vs ∧ StT T w a vs ∧ Reps T w ds vs := by
  cases r with
  | tup h rs =>
    cases e
    exact ⟨_, _, rfl, h.sq, h, rs⟩
  | @ref n a hn =>
    unfold deref at e
    dsimp only at e
    obtain ⟨c, hc⟩ := wd.cellAt hn
    rw [hc] at e
    cases c <;> cases e
  | _ => cases e
theorem deref_int {T : Tb} {w : Wo} (wd : Wd T w) {d : D} {v : V} {i : Int} (r : Rep T w d v) (e : deref w.S d = .int i) : v = .int i := by
  cases r with
  | int j =>
    cases e
    rfl
  | @ref n a hn =>
    unfold deref at e
    dsimp only at e
    obtain ⟨c, hc⟩ := wd.cellAt hn
    rw [hc] at e
    cases c <;> cases e
  | _ => cases e
theorem deref_str {T : Tb} {w : Wo} (wd : Wd T w) {d : D} {v : V} {x : Str} (r : Rep T w d v) (e : deref w.S d = .str x) : v = .str x := by
  cases r with
  | str j =>
    cases e
    rfl
  | @ref n a hn =>
    unfold deref at e
    dsimp only at e
    obtain ⟨c, hc⟩ := wd.cellAt hn
    rw [hc] at e
    cases c <;> cases e
  | _ => cases e
theorem deref_bl {T : Tb} {w : Wo} (wd : Wd T w) {d : D} {v : V} {x : Bool} (r : Rep T w d v) (e : deref w.S d = .bl x) : v = .bl x := by
  cases r with
  | bl j =>
    cases e
    rfl
  | @ref n a hn =>
    unfold deref at e
    dsimp only at e
    obtain ⟨c, hc⟩ := wd.cellAt hn
    rw [hc] at e
    cases c <;> cases e
  | _ => cases e
theorem deref_non {T : Tb} {w : Wo} (wd : Wd T w) {d : D} {v : V} (r : Rep T w d v) (e : deref w.S d = .non) : v = .non := by
  cases r with
  | non => rfl
  | @ref n a hn =>
    unfold deref at e
    dsimp only at e
    obtain ⟨c, hc⟩ := wd.cellAt hn
    rw [hc] at e
    cases c <;> cases e
  | _ => cases e
theorem Reps.len {T : Tb} {w : Wo} : ∀ {ds : List D} {vs : List V}, Reps T w ds vs → ds.length = vs.length
  | _, _, .nil => rfl
  | _, _, .cons _ r => by simp [Reps.len r]
theorem Reps.get {T : Tb} {w : Wo} : ∀ {ds : List D} {vs : List V} {i : Nat} {d : D}, Reps T w ds vs → ds[i]? = some d → ∃ v, vs[i]? = some v ∧ Rep T w d v
  | _, _, _, _, .nil, e => by simp at e
  | _, _, 0, _, .cons r _, e => by simp at e; subst e; exact ⟨_, rfl, r⟩
  | _, _, i + 1, d, .cons _ t, e => by
    obtain ⟨v, h1, h2⟩ := Reps.get (i := i) (d := d) t (by simpa using e)
    exact ⟨v, by simpa using h1, h2⟩
theorem Reps.get' {T : Tb} {w : Wo} : ∀ {ds : List D} {vs : List V} {i : Nat} {v : V}, Reps T w ds vs → vs[i]? = some v → ∃ d, ds[i]? = some d ∧ Rep T w d v
  | _, _, _, _, .nil, e => by simp at e
  | _, _, 0, _, .cons r _, e => by simp at e; subst e; exact ⟨_, rfl, r⟩
  | _, _, i + 1, d, .cons _ t, e => by
    obtain ⟨v, h1, h2⟩ := Reps.get' (i := i) t (by simpa using e)
    exact ⟨v, by simpa using h1, h2⟩
theorem Reps.append {T : Tb} {w : Wo} : ∀ {ds es : List D} {vs us : List V}, Reps T w ds vs → Reps T w es us → Reps T w (ds ++ es) (vs ++ us)
  | _, _, _, _, .nil, s => s
  | _, _, _, _, .cons r t, s => .cons r (Reps.append t s)
theorem Reps.take {T : Tb} {w : Wo} : ∀ {ds : List D} {vs : List V} (n : Nat), Reps T w ds vs → Reps T w (ds.take n) (vs.take n)
  | _, _, 0, _ => .nil
  | _, _, _ + 1, .nil => .nil
  | _, _, n + 1, .cons r t => .cons r (Reps.take n t)
theorem Reps.drop {T : Tb} {w : Wo} : ∀ {ds : List D} {vs : List V} (n : Nat), Reps T w ds vs → Reps T w (ds.drop n) (vs.drop n)
  | _, _, 0, r => r
  | _, _, _ + 1, .nil => .nil
  | _, _, n + 1, .cons _ t => Reps.drop n t
theorem Reps.set {T : Tb} {w : Wo} {d : D} {v : V} (r : Rep T w d v) : ∀ {ds : List D} {vs : List V} (i : Nat), Reps T w ds vs → Reps T w (ds.set i d) (vs.set i v)
  | _, _, _, .nil => .nil
  | _, _, 0, .cons _ t => .cons r t
  | _, _, i + 1, .cons q t => .cons q (Reps.set r i t)
theorem Reps.rep {T : Tb} {w : Wo} {ds : List D} {vs : List V} (h : Reps T w ds vs) : ∀ k : Nat, Reps T w (List.replicate k ds).flatten (List.replicate k vs).flatten
  | 0 => .nil
  | k + 1 => by
    rw [List.replicate_succ, List.replicate_succ, List.flatten_cons, List.flatten_cons]
    exact h.append (h.rep k)
theorem Reps.rev {T : Tb} {w : Wo} : ∀ {ds : List D} {vs : List V}, Reps T w ds vs → Reps T w ds.reverse vs.reverse
  | _, _, .nil => .nil
  | _, _, .cons r t => by
    rw [List.reverse_cons, List.reverse_cons]
    exact (Reps.rev t).append (.cons r .nil)
theorem fits_le {n : Nat} (h : fits n = true) : n ≤ sizeLine := by
  rw [sizeLine_eq]
  exact of_decide_eq_true h
/-- a new list, in the store or not -/
theorem newL_ok {T : Tb} {W : WX} {w : Wo} {σ : St} (wd : Wd T w) {m : Bool} {ds : List D} {vs : List V} (rs : Reps T w ds vs) {Q : VK} (h : Post T W w σ (Rep T) (newL m ds w.S) Q) :
    vs.length ≤ sizeLine ∧ ∀ p, w.H p = none → Q (.ref p) (upd w.H p (.lst vs)) := by
  unfold newL at h
  by_cases f : fits ds.length = true
  · rw [if_pos f] at h
    refine ⟨by rw [← rs.len]; exact fits_le f, fun p hp => ?_⟩
    cases m with
    | true =>
      obtain ⟨w1, s1, l1⟩ := wd.alloc (c := .lst ds) (o := .lst vs) hp fun w' st e => ⟨vs, by rw [e]; exact upd_same, rs.mono st.toMon⟩
      exact h ⟨_, _, _, _⟩ _ rfl w1 s1 (.ref l1)
    | false =>
      obtain ⟨w1, s1, l1⟩ := wd.still hp (.lst vs)
      exact h ⟨_, _, _, _⟩ _ rfl w1 s1 (.lst ⟨upd_same, l1⟩ (rs.mono s1.toMon))
  · rw [if_neg f] at h
    exact h.elim
theorem newT_ok {T : Tb} {W : WX} {w : Wo} {σ : St} (wd : Wd T w) {ds : List D} {vs : List V} (rs : Reps T w ds vs) {Q : VK} (h : Post T W w σ (Rep T) (.ok (.tup ds) w.S) Q) :
    ∀ p, w.H p = none → Q (.ref p) (upd w.H p (.tup vs)) := fun p hp => by
  obtain ⟨w1, s1, l1⟩ := wd.still hp (.tup vs)
  exact h ⟨_, _, _, _⟩ _ rfl w1 s1 (.tup ⟨upd_same, l1⟩ (rs.mono s1.toMon))
/-- the answer stands, nothing was made -/
theorem Post.here {T : Tb} {W : WX} {w : Wo} {σ : St} (wd : Wd T w) {d : D} {v : V} (r : Rep T w d v) {Q : VK} (h : Post T W w σ (Rep T) (.ok d w.S) Q) : Q v w.H := h w v rfl wd (Step.refl w) r

/-! data for == and repr -/
mutual
theorem toP_dp {T : Tb} {w : Wo} : ∀ (d : D) (v : V) (p : PyData), Rep T w d v → toP w.S d = some p → p.hasDict = false → Dp T.K w.H v p
  | .non, _, _, .non, e, _ => by cases e; exact .non
  | .bl b, _, _, .bl _, e, _ => by cases e; exact .bl b
  | .int i, _, _, .int _, e, _ => by cases e; exact .int i
  | .str i, _, _, .str _, e, _ => by cases e; exact .str i
  | .tup ds, _, p, .tup h rs, e, hd => by
    unfold toP at e
    cases q : toPs w.S ds with
    | none => rw [q] at e; cases e
    | some ps =>
      rw [q] at e
      cases e
      exact .tup h.sq (toPs_dp ds _ ps rs q hd)
  | .lst ds, _, p, .lst h rs, e, hd => by
    unfold toP at e
    cases q : toPs w.S ds with
    | none => rw [q] at e; cases e
    | some ps =>
      rw [q] at e
      cases e
      exact .lst h.sq (toPs_dp ds _ ps rs q hd)
  | .dct ks vs, _, p, _, e, hd => by
    unfold toP at e
    split at e
    · cases e
      cases hd
    · cases e
  | .dtt _ _, _, _, _, e, _ => by cases e
  | .obj _ _ _, _, _, _, e, _ => by cases e
  | .scr _, _, _, _, e, _ => by cases e
  | .emp, _, _, _, e, _ => by cases e
  | .ref _, _, _, _, e, _ => by cases e
theorem toPs_dp {T : Tb} {w : Wo} : ∀ (ds : List D) (vs : List V) (ps : List PyData), Reps T w ds vs → toPs w.S ds = some ps → PyData.hasDictAll ps = false → DpAll T.K w.H vs ps
  | [], _, _, .nil, e, _ => by cases e; exact .nil
  | d :: ds, _, ps, .cons r rs, e, hd => by
    unfold toPs at e
    cases q1 : toP w.S d with
    | none => rw [q1] at e; cases e
    | some a =>
      cases q2 : toPs w.S ds with
      | none => rw [q1, q2] at e; cases e
      | some b =>
        rw [q1, q2] at e
        cases e
        have hd' : (a.hasDict || PyData.hasDictAll b) = false := hd
        rw [Bool.or_eq_false_iff] at hd'
        exact .cons (toP_dp d _ a r q1 hd'.1) (toPs_dp ds _ b rs q2 hd'.2)
end
/-- .. through the store's first step -/
theorem deref_dp {T : Tb} {w : Wo} (wd : Wd T w) {d : D} {v : V} {p : PyData} (r : Rep T w d v) (e : toP w.S (deref w.S d) = some p) (hd : p.hasDict = false) : Dp T.K w.H v p := by
  cases q : deref w.S d with
  | lst ds =>
    rw [q] at e
    obtain ⟨a, vs, rfl, h, rs⟩ := deref_lst wd r q
    unfold toP at e
    cases q2 : toPs w.S ds with
    | none => rw [q2] at e; cases e
    | some ps =>
      rw [q2] at e
      cases e
      exact .lst (SqL.of h) (toPs_dp ds _ ps rs q2 hd)
  | tup ds =>
    rw [q] at e
    obtain ⟨a, vs, rfl, h, _, rs⟩ := deref_tup wd r q
    unfold toP at e
    cases q2 : toPs w.S ds with
    | none => rw [q2] at e; cases e
    | some ps =>
      rw [q2] at e
      cases e
      exact .tup h (toPs_dp ds _ ps rs q2 hd)
  | int i =>
    rw [q] at e
    cases e
    rw [deref_int wd r q]
    exact .int i
  | str i =>
    rw [q] at e
    cases e
    rw [deref_str wd r q]
    exact .str i
  | bl i =>
    rw [q] at e
    cases e
    rw [deref_bl wd r q]
    exact .bl i
  | non =>
    rw [q] at e
    cases e
    rw [deref_non wd r q]
    exact .non
  | dct ks vs =>
    rw [q] at e
    unfold toP at e
    split at e
    · cases e
      cases hd
    · cases e
  | dtt _ _ =>
    rw [q] at e
    cases e
  | obj _ _ _ =>
    rw [q] at e
    cases e
  | scr _ =>
    rw [q] at e
    cases e
  | emp =>
    rw [q] at e
    cases e
  | ref _ =>
    rw [q] at e
    cases e
  | err _ _ =>
    rw [q] at e
    cases e
theorem deref_scr {T : Tb} {w : Wo} (wd : Wd T w) {d : D} {v : V} {ns : List Int} (r : Rep T w d v) (e : deref w.S d = .scr ns) : ∃ a, v = .ref a ∧ SqL T.K w.H a (ns.map V.int) := by
  cases r with
  | scr h =>
    cases e
    exact ⟨_, rfl, h.sq⟩
  | @ref n a hn =>
    unfold deref at e
    dsimp only at e
    obtain ⟨c, hc⟩ := wd.cellAt hn
    rw [hc] at e
    cases c <;> cases e
  | _ => cases e
theorem deref_obj {T : Tb} {w : Wo} (wd : Wd T w) {d : D} {v : V} {c : Nat} {fs : List Nat} {vs : List D} (r : Rep T w d v) (e : deref w.S d = .obj c fs vs) : ∃ a dx us, v = .ref a ∧ w.H a = some (.ins (T.kls c) dx (flds T fs us)) ∧ FsOk T fs vs.length ∧ Reps T w vs us := by
  cases r with
  | obj h _ p rs =>
    cases e
    exact ⟨_, _, _, rfl, h, p, rs⟩
  | @ref n a hn =>
    unfold deref at e
    dsimp only at e
    obtain ⟨k, hc⟩ := wd.cellAt hn
    rw [hc] at e
    have q := wd.cell n k a hc hn
    cases k with
    | ins c' fs' vs' =>
      cases e
      obtain ⟨dx, us, h, p, rs⟩ := q
      exact ⟨a, dx, us, rfl, h, p, rs⟩
    | _ => cases e
  | _ => cases e
theorem deref_emp {T : Tb} {w : Wo} (wd : Wd T w) {d : D} {v : V} (r : Rep T w d v) (e : deref w.S d = .emp) : ∃ a, v = .ref a ∧ SqT T.K H0 a [] := by
  cases r with
  | emp h => exact ⟨_, rfl, h⟩
  | @ref n a hn =>
    unfold deref at e
    dsimp only at e
    obtain ⟨k, hc⟩ := wd.cellAt hn
    rw [hc] at e
    cases k <;> cases e
  | _ => cases e
theorem deref_dtt {T : Tb} {w : Wo} (wd : Wd T w) {d : D} {v : V} {ks vs : List D} (r : Rep T w d v) (e : deref w.S d = .dtt ks vs) : ∃ a kvs us, v = .ref a ∧ w.H a = some (.dT kvs) ∧ pairT ks us = some kvs ∧ Reps T w vs us := by
  cases r with
  | dtt h _ p rs =>
    cases e
    exact ⟨_, _, _, rfl, h, p, rs⟩
  | @ref n a hn =>
    unfold deref at e
    dsimp only at e
    obtain ⟨k, hc⟩ := wd.cellAt hn
    rw [hc] at e
    have q := wd.cell n k a hc hn
    cases k with
    | dtt ks' vs' =>
      cases e
      obtain ⟨kvs, us, h, p, rs⟩ := q
      exact ⟨a, kvs, us, rfl, h, p, rs⟩
    | _ => cases e
  | _ => cases e
/-- a field by its name -/
theorem fld_get {T : Tb} {w : Wo} {f : Nat} (hf : f < T.nf) : ∀ {fs : List Nat} {vs : List D} {us : List V}, FsOk T fs vs.length → Reps T w vs us → match fget f fs vs with
    | some d => ∃ u, (flds T fs us).lookup (T.fld f) = some u ∧ Rep T w d u
    | none => (flds T fs us).lookup (T.fld f) = none
  | [], [], _, _, .nil => rfl
  | [], _ :: _, _, h, _ => by cases h.1
  | _ :: _, [], _, h, _ => by cases h.1
  | g :: fs, v :: vs, _, h, .cons (v := u) (vs := us) r rs => by
    have hg : g < T.nf := h.2 g List.mem_cons_self
    have ih := fld_get hf (w := w) (fs := fs) (vs := vs) ⟨by simpa using h.1, fun x hx => h.2 x (List.mem_cons_of_mem _ hx)⟩ rs
    show match (if g = f then some v else fget f fs vs) with | some d => ∃ u', ((T.fld g, u) :: flds T fs us).lookup (T.fld f) = some u' ∧ Rep T w d u' | none => ((T.fld g, u) :: flds T fs us).lookup (T.fld f) = none
    by_cases e : g = f
    · subst e
      rw [if_pos rfl]
      exact ⟨u, by simp, r⟩
    · rw [if_neg e]
      have ne : (T.fld f == T.fld g) = false := by
        rw [beq_eq_false_iff_ne]
        exact fun z => e (T.inj g f hg hf z.symm)
      rw [List.lookup_cons, ne]
      exact ih
theorem fld_put {T : Tb} {w : Wo} {f : Nat} (hf : f < T.nf) {d : D} {u : V} (rd : Rep T w d u) : ∀ {fs : List Nat} {vs : List D} {us : List V}, FsOk T fs vs.length → Reps T w vs us → ∃ us', putF (T.fld f) u (flds T fs us) = flds T (fput f d fs vs).1 us' ∧ FsOk T (fput f d fs vs).1 (fput f d fs vs).2.length ∧ Reps T w (fput f d fs vs).2 us'
  | [], [], _, _, .nil => by
    refine ⟨[u], rfl, ⟨rfl, fun x hx => ?_⟩, .cons rd .nil⟩
    have e : x = f := by simpa [fput] using hx
    rw [e]
    exact hf
  | [], _ :: _, _, h, _ => by cases h.1
  | _ :: _, [], _, h, _ => by cases h.1
  | g :: fs, v :: vs, _, h, .cons (v := y) (vs := us) r rs => by
    have hg : g < T.nf := h.2 g List.mem_cons_self
    by_cases e : g = f
    · subst e
      refine ⟨u :: us, ?_, ?_, ?_⟩
      · show (if T.fld g = T.fld g then (T.fld g, u) :: flds T fs us else _) = flds T (fput g d (g :: fs) (v :: vs)).1 (u :: us)
        rw [if_pos rfl]
        simp [fput, flds]
      · simpa [fput] using h
      · simp only [fput, if_true]
        exact .cons rd rs
    · obtain ⟨us', h1, h2, h3⟩ := fld_put hf rd (fs := fs) (vs := vs) (w := w) ⟨by simpa using h.1, fun x hx => h.2 x (List.mem_cons_of_mem _ hx)⟩ rs
      have ne : ¬ T.fld g = T.fld f := fun z => e (T.inj g f hg hf z)
      have ef : fput f d (g :: fs) (v :: vs) = (g :: (fput f d fs vs).1, v :: (fput f d fs vs).2) := by
        show (if g = f then _ else _) = _
        rw [if_neg e]
      rw [ef]
      refine ⟨y :: us', ?_, ⟨by simpa using h2.1, fun x hx => ?_⟩, .cons r h3⟩
      · show (if T.fld g = T.fld f then _ else (T.fld g, y) :: putF (T.fld f) u (flds T fs us)) = (T.fld g, y) :: flds T (fput f d fs vs).1 us'
        rw [if_neg ne, h1]
      · rcases List.mem_cons.mp hx with hx | hx
        · rw [hx]; exact hg
        · exact h2.2 x hx
theorem Reps.ints {T : Tb} {w : Wo} : ∀ ns : List Int, Reps T w (ns.map D.int) (ns.map V.int)
  | [] => .nil
  | n :: ns => .cons (.int n) (Reps.ints ns)
end PV

namespace PV
open PySem L2 PyProof.Rows

section
variable {X : Cx} {T : Tb} {W : WX} {σ0 : L2.St}
def opOf : Op2 → Operator
  | .add => .Add | .sub => .Sub | .mul => .Mult | .fdiv => .FloorDiv | .mod => .Mod | .pow => .Pow
/-- two lists joined, wherever they stand -/
theorem op_catL : OpR X (binaryOp .Add) (fun x y H Q => ∃ l b xs zs, x = .ref l ∧ y = .ref b ∧ SqL X.K H l xs ∧ SqL X.K H b zs ∧ xs.length + zs.length ≤ sizeLine ∧ ∀ p, H p = none → Q (.ref p) (upd H p (.lst (xs ++ zs)))) := by
  intro pins s σ H x y v u Q I rx ry h
  obtain ⟨l, b, xs, zs, rfl, rfl, hl, hb, hz, q⟩ := h
  cases rx
  cases ry
  obtain ⟨its, r1, ⟨⟨c1, d1, t1, sl1⟩, n1, e1, ec1, ed1, et1⟩, z1⟩ := I.list hl
  obtain ⟨its2, r2, ⟨⟨c2, d2, t2, sl2⟩, n2, e2, ec2, ed2, et2⟩, z2⟩ := I.list hb
  cases ec1; cases ed1; cases et1; cases ec2; cases ed2; cases et2
  have k1 := r1.length
  have k2 := r2.length
  refine concat_meets ⟨_, e1, rfl⟩ ⟨_, e2, rfl⟩ noFill_list_add seq_list_add F.slot_list_add F.entry_list_add (F.args_list_add_2 _ _) (list_addW l b its.toArray its2.toArray n1 n2 none none sl1 sl2 (by simp; omega)) ⟨e1, e2, ?_⟩
  have ea : its.toArray ++ its2.toArray = (its ++ its2).toArray := by simp
  rw [ea]
  exact ⟨.ref _, _, I.lnew (t' := s.toks) (r1.append r2) (by rw [List.length_append]; omega), rfl, q _ I.fresh⟩
def rBin (T : Tb) (o : Op2) : R2 := fun x y H Q => ∃ (W : WX) (σ0 : L2.St) (a b : D) (w : Wo), w.H = H ∧ Wd T w ∧ Rep T w a x ∧ Rep T w b y ∧ Post T W w σ0 (Rep T) (bin2 o a b w.S) Q
theorem op_bin (hK : X.K = T.K) (o : Op2) : OpR X (binaryOp (opOf o)) (rBin T o) := by
  intro pins s σ H x y v u Q I rx ry h
  obtain ⟨W, σ0, a, b, w, rfl, wd, ra, rb, h⟩ := h
  unfold bin2 at h
  split at h
  · rename_i i j ha hb
    cases deref_int wd ra ha
    cases deref_int wd rb hb
    exact op_add pins s σ _ _ _ v u Q I rx ry ⟨i, j, rfl, rfl, Post.here wd (.int _) h⟩
  · rename_i i j ha hb
    cases deref_str wd ra ha
    cases deref_str wd rb hb
    split at h
    · rename_i f
      exact op_add_str pins s σ _ _ _ v u Q I rx ry ⟨i, j, rfl, rfl, fits_le f, Post.here wd (.str _) h⟩
    · exact h.elim
  · rename_i xs ys ha hb
    obtain ⟨p, vs, rfl, hp, sp, rs⟩ := deref_tup wd ra ha
    obtain ⟨q, us, rfl, hq, sq, rs'⟩ := deref_tup wd rb hb
    split at h
    · rename_i f
      have hl := rs.len
      have hl' := rs'.len
      refine op_catA pins s σ _ _ _ v u Q I rx ry ⟨p, q, vs, us, rfl, rfl, by rw [hK]; exact hp, by rw [hK]; exact hq, by rw [← hl, ← hl']; exact fits_le f, fun e => ?_, fun e e' => ?_, fun e e' => ?_⟩
      · subst e
        cases rs
        exact Post.here wd (.tup sq rs') h
      · subst e'
        cases rs'
        rw [List.append_nil] at h
        exact Post.here wd (.tup sp rs) h
      · exact newT_ok wd (rs.append rs') h
    · exact h.elim
  · rename_i xs ys ha hb
    obtain ⟨p, vs, rfl, hp, rs⟩ := deref_lst wd ra ha
    obtain ⟨q, us, rfl, hq, rs'⟩ := deref_lst wd rb hb
    split at h
    · rename_i f
      have hl := rs.len
      have hl' := rs'.len
      refine op_catL pins s σ _ _ _ v u Q I rx ry ⟨p, q, vs, us, rfl, rfl, SqL.of hp, SqL.of hq, by rw [← hl, ← hl']; exact fits_le f, ?_⟩
      exact (newL_ok (m := false) wd (rs.append rs') (by unfold newL; rw [List.length_append, if_pos f]; exact h)).2
    · exact h.elim
  · rename_i ns ys ha hb
    obtain ⟨p, rfl, hp⟩ := deref_scr wd ra ha
    obtain ⟨q, us, rfl, hq, rs'⟩ := deref_lst wd rb hb
    split at h
    · rename_i f
      have hl' := rs'.len
      refine op_catL pins s σ _ _ _ v u Q I rx ry ⟨p, q, _, us, rfl, rfl, by rw [hK]; exact hp, SqL.of hq, by rw [List.length_map, ← hl']; exact fits_le f, ?_⟩
      exact (newL_ok (m := false) wd ((Reps.ints ns).append rs') (by unfold newL; rw [List.length_append, List.length_map, if_pos f]; exact h)).2
    · exact h.elim
  · rename_i i j ha hb
    cases deref_int wd ra ha
    cases deref_int wd rb hb
    exact op_sub pins s σ _ _ _ v u Q I rx ry ⟨i, j, rfl, rfl, Post.here wd (.int _) h⟩
  · rename_i i j ha hb
    cases deref_int wd ra ha
    cases deref_int wd rb hb
    split at h
    · rename_i f
      exact op_mulW pins s σ _ _ _ v u Q I rx ry ⟨i, j, rfl, rfl, (show i.natAbs.log2 + j.natAbs.log2 < 1000000 from of_decide_eq_true f), Post.here wd (.int _) h⟩
    · exact h.elim
  · rename_i xs j ha hb
    obtain ⟨p, vs, rfl, hp, rs⟩ := deref_lst wd ra ha
    cases deref_int wd rb hb
    split at h
    · rename_i f
      rw [Bool.and_eq_true, Bool.and_eq_true] at f
      have f1 : 0 ≤ j := of_decide_eq_true f.1.1
      have f2 : j ≤ 1000 := of_decide_eq_true f.1.2
      have hl := rs.len
      refine op_rep pins s σ _ _ _ v u Q I rx ry ⟨p, j, vs, rfl, rfl, hp, by omega, by omega, by rw [← hl]; exact fits_le f.2, ?_⟩
      refine (newL_ok (m := false) (W := W) (σ := σ0) wd (rs.rep j.toNat) ?_).2
      unfold newL
      rw [PyProof.Rows.lm_len_rep_flat, Nat.mul_comm, if_pos f.2]
      exact h
    · exact h.elim
  · rename_i i j ha hb
    cases deref_int wd ra ha
    cases deref_int wd rb hb
    split at h
    · rename_i f
      rw [Bool.and_eq_true] at f
      exact op_fdivW pins s σ _ _ _ v u Q I rx ry ⟨i, j, rfl, rfl, ⟨of_decide_eq_true f.1, of_decide_eq_true f.2⟩, Post.here wd (.int _) h⟩
    · split at h
      · rename_i f
        rw [Bool.and_eq_true] at f
        have f1 : j < 0 := of_decide_eq_true f.1
        obtain ⟨t1, rfl⟩ := rx
        obtain ⟨t2, rfl⟩ := ry
        exact floordiv_int (by omega) ⟨.int _, _, I.tok _, ⟨_, rfl⟩, Post.here wd (.int _) h⟩ (.inl (PyProof.noPylong_of_log2 (of_decide_eq_true f.2)))
      · exact h.elim
  · rename_i i j ha hb
    cases deref_int wd ra ha
    cases deref_int wd rb hb
    split at h
    · rename_i f
      exact op_mod pins s σ _ _ _ v u Q I rx ry ⟨i, j, rfl, rfl, of_decide_eq_true f, Post.here wd (.int _) h⟩
    · exact h.elim
  · rename_i i j ha hb
    cases deref_int wd ra ha
    cases deref_int wd rb hb
    split at h
    · rename_i f
      rw [Bool.and_eq_true, Bool.and_eq_true] at f
      have f2 : j ≤ 1000 := of_decide_eq_true f.1.2
      exact op_pow pins s σ _ _ _ v u Q I rx ry ⟨i, j, rfl, rfl, ⟨of_decide_eq_true f.1.1, by omega, of_decide_eq_true f.2⟩, Post.here wd (.int _) h⟩
    · exact h.elim
  · exact h.elim
end
end PV

namespace PV
open PySem L2 PyProof.Rows

section
variable {X : Cx} {T : Tb} {W : WX} {σ0 : L2.St} {w : Wo}
def cmpOf : CO → CmpOp
  | .eq => .Eq | .ne => .NotEq | .lt => .Lt | .le => .LtE | .gt => .Gt | .ge => .GtE | .is_ => .Is | .isn => .IsNot | .in_ => .In | .nin => .NotIn
def rCmp (T : Tb) (o : CO) : R2 := fun x y H Q => ∃ (a b : D) (w : Wo) (k : Bool), w.H = H ∧ Wd T w ∧ Rep T w a x ∧ Rep T w b y ∧ cmpD o a b w.S = some k ∧ Q (.bl k) H
theorem flat_rep {d : D} {v : V} (r : Rep T w d v) (f : flatD d = true) : flatV v = true := by
  cases r <;> first | rfl | cases f
theorem flat_reps : ∀ {ds : List D} {vs : List V}, Reps T w ds vs → ds.all flatD = true → vs.all flatV = true
  | _, _, .nil, _ => rfl
  | _, _, .cons r t, f => by
    rw [List.all_cons, Bool.and_eq_true] at f ⊢
    exact ⟨flat_rep r f.1, flat_reps t f.2⟩
theorem flat_eq {a b : D} {x y : V} (ra : Rep T w a x) (rb : Rep T w b y) (fa : flatD a = true) (fb : flatD b = true) : eqV x y = flatEq a b := by
  cases ra <;> first | (cases rb <;> first | rfl | (exact absurd fb (by simp [flatD]))) | (exact absurd fa (by simp [flatD]))
theorem flat_any {b : D} {y : V} (rb : Rep T w b y) (fb : flatD b = true) : ∀ {ds : List D} {vs : List V}, Reps T w ds vs → ds.all flatD = true → (vs.any fun z => eqV z y) = ds.any fun z => flatEq z b
  | _, _, .nil, _ => rfl
  | _, _, .cons r t, f => by
    rw [List.all_cons, Bool.and_eq_true] at f
    rw [List.any_cons, List.any_cons, flat_eq r rb f.1 fb, flat_any rb fb t f.2]
theorem in_ok (hK : X.K = T.K) (wd : Wd T w) {a b : D} {x y : V} (ra : Rep T w a x) (rb : Rep T w b y) {k : Bool} (h : inD w.S a b = some k) : (∃ p xs, y = .ref p ∧ (SqL X.K w.H p xs ∨ SqT X.K w.H p xs) ∧ flatV x = true ∧ xs.all flatV = true ∧ inV x xs = k) ∨ ∃ d ds, Dp X.K w.H x d ∧ Dp X.K w.H y (.list ds) ∧ SeqAt.shaped d = true ∧ SeqAt.shaped (.list ds) = true ∧ (ds.any fun z => PyData.eqv z d) = k := by
  unfold inD at h
  split at h
  · rename_i ds e
    split at h
    · rename_i f
      rw [Bool.and_eq_true] at f
      obtain ⟨p, vs, rfl, hp, rs⟩ := deref_lst wd rb e
      cases h
      exact .inl ⟨p, vs, rfl, .inl (SqL.of hp), flat_rep ra f.1, flat_reps rs f.2, flat_any ra f.1 rs f.2⟩
    · split at h
      · rename_i q qs e1 e2
        split at h
        · rename_i f
          rw [Bool.and_eq_true] at f
          cases h
          obtain ⟨p, vs, rfl, hp, rs⟩ := deref_lst wd rb e
          have d1 : q.hasDict = false := PyData.hasDict_of_canLay q (SeqAt.canLay_of_shaped f.1)
          have d2 : (PyData.list qs).hasDict = false := PyData.hasDict_of_canLay _ (SeqAt.canLay_of_shaped f.2)
          refine .inr ⟨q, qs, by rw [hK]; exact deref_dp wd ra e1 d1, by rw [hK]; exact .lst (SqL.of hp) (toPs_dp ds _ qs rs e2 d2), f.1, f.2, rfl⟩
        · cases h
      · cases h
  · rename_i ds e
    split at h
    · rename_i f
      rw [Bool.and_eq_true] at f
      obtain ⟨p, vs, rfl, hp, _, rs⟩ := deref_tup wd rb e
      cases h
      exact .inl ⟨p, vs, rfl, .inr (by rw [hK]; exact hp), flat_rep ra f.1, flat_reps rs f.2, flat_any ra f.1 rs f.2⟩
    · cases h
  · cases h
theorem non_is {d : D} {v : V} (r : Rep T w d v) : decide (v = .non) = isNon d := by
  cases r <;> rfl
theorem eq_ok (wd : Wd T w) {a b : D} {x y : V} (ra : Rep T w a x) (rb : Rep T w b y) {k : Bool} (h : eqD w.S a b = some k) :
    (scal x y = true ∧ decide (x = y) = k) ∨ ∃ d e, Dp T.K w.H x d ∧ Dp T.K w.H y e ∧ SeqAt.shaped d = true ∧ SeqAt.shaped e = true ∧ PyData.eqv d e = k := by
  unfold eqD at h
  split at h
  · cases ra
    cases rb
    cases h
    exact .inl ⟨rfl, by simp⟩
  · cases ra
    cases rb
    cases h
    exact .inl ⟨rfl, by simp⟩
  · cases ra
    cases rb
    cases h
    exact .inl ⟨rfl, by simp⟩
  · split at h
    · rename_i p q ep eq
      split at h
      · rename_i f
        rw [Bool.and_eq_true] at f
        cases h
        have dp : p.hasDict = false := PyData.hasDict_of_canLay p (SeqAt.canLay_of_shaped f.1)
        have dq : q.hasDict = false := PyData.hasDict_of_canLay q (SeqAt.canLay_of_shaped f.2)
        exact .inr ⟨p, q, deref_dp wd ra ep dp, deref_dp wd rb eq dq, f.1, f.2, rfl⟩
      · cases h
    · cases h
theorem op_cmp (hK : X.K = T.K) (hu : X.A.units + 66 < cLine) (o : CO) : OpR X (compareOp (cmpOf o)) (rCmp T o) := by
  intro pins s σ H x y v u Q I rx ry h
  obtain ⟨a, b, w, k, rfl, wd, ra, rb, e, q⟩ := h
  cases o with
  | eq =>
    rcases eq_ok wd ra rb e with ⟨h1, h2⟩ | ⟨d, f, h1, h2, h3, h4, h5⟩
    · exact op_eq pins s σ _ _ _ v u Q I rx ry ⟨h1, by rw [h2]; exact q⟩
    · exact op_eqD (by omega) pins s σ _ _ _ v u Q I rx ry ⟨d, f, by rw [hK]; exact h1, by rw [hK]; exact h2, h3, h4, by rw [h5]; exact q⟩
  | ne =>
    have e' : (eqD w.S a b).map (!·) = some k := e
    cases ee : eqD w.S a b with
    | none => rw [ee] at e'; cases e'
    | some k0 =>
      rw [ee] at e'
      cases e'
      rcases eq_ok wd ra rb ee with ⟨h1, h2⟩ | ⟨d, f, h1, h2, h3, h4, h5⟩
      · exact op_ne pins s σ _ _ _ v u Q I rx ry ⟨h1, by rw [h2]; exact q⟩
      · exact op_neD (by omega) pins s σ _ _ _ v u Q I rx ry ⟨d, f, by rw [hK]; exact h1, by rw [hK]; exact h2, h3, h4, by rw [h5]; exact q⟩
  | lt =>
    cases ra <;> first | (cases e; done) | (cases rb <;> first | (cases e; done) | (cases e; exact op_lt pins s σ _ _ _ v u Q I rx ry ⟨_, _, rfl, rfl, q⟩))
  | le =>
    cases ra <;> first | (cases e; done) | (cases rb <;> first | (cases e; done) | (cases e; exact op_le pins s σ _ _ _ v u Q I rx ry ⟨_, _, rfl, rfl, q⟩))
  | gt =>
    cases ra <;> first | (cases e; done) | (cases rb <;> first | (cases e; done) | (cases e; exact op_gt pins s σ _ _ _ v u Q I rx ry ⟨_, _, rfl, rfl, q⟩))
  | ge =>
    cases ra <;> first | (cases e; done) | (cases rb <;> first | (cases e; done) | (cases e; exact op_ge pins s σ _ _ _ v u Q I rx ry ⟨_, _, rfl, rfl, q⟩))
  | is_ =>
    unfold cmpD at e
    dsimp only at e
    split at e
    · cases ra
      cases rb
      cases e
      exact op_is_bl pins s σ _ _ _ v u Q I rx ry ⟨_, _, rfl, rfl, q⟩
    · cases rb
      cases e
      exact op_isN pins s σ _ _ _ v u Q I rx ry ⟨rfl, by rw [non_is ra]; exact q⟩
    · cases e
  | isn =>
    unfold cmpD at e
    dsimp only at e
    split at e
    · cases ra
      cases rb
      cases e
      exact op_isnot_bl pins s σ _ _ _ v u Q I rx ry ⟨_, _, rfl, rfl, q⟩
    · cases rb
      cases e
      refine op_notN pins s σ _ _ _ v u Q I rx ry ⟨rfl, ?_⟩
      rw [non_is ra]
      exact q
    · cases e
  | in_ =>
    rcases in_ok hK wd ra rb e with ⟨p, xs, rfl, h1, h2, h3, h4⟩ | ⟨d, ds, h1, h2, h3, h4, h5⟩
    · exact op_in_seq pins s σ _ _ _ v u Q I rx ry ⟨p, xs, rfl, h1, h2, h3, by rw [h4]; exact q⟩
    · exact op_inD (by omega) pins s σ _ _ _ v u Q I rx ry ⟨d, ds, h1, h2, h3, h4, by rw [h5]; exact q⟩
  | nin =>
    have e' : (inD w.S a b).map (!·) = some k := e
    cases ee : inD w.S a b with
    | none => rw [ee] at e'; cases e'
    | some k0 =>
      rw [ee] at e'
      cases e'
      rcases in_ok hK wd ra rb ee with ⟨p, xs, rfl, h1, h2, h3, h4⟩ | ⟨d, ds, h1, h2, h3, h4, h5⟩
      · exact op_notIn_seq pins s σ _ _ _ v u Q I rx ry ⟨p, xs, rfl, h1, h2, h3, by rw [h4]; exact q⟩
      · exact op_notInD (by omega) pins s σ _ _ _ v u Q I rx ry ⟨d, ds, h1, h2, h3, h4, by rw [h5]; exact q⟩
/-- truth -/
theorem tru_v (hK : X.K = T.K) (wd : Wd T w) {d : D} {v : V} (r : Rep T w d v) {k : Bool} (h : truD w.S d = some k) : TruV X.K v w.H k := by
  have em : ∀ {ds : List D} {vs : List V}, Reps T w ds vs → (!ds.isEmpty) = !vs.isEmpty := fun rs => by cases rs <;> rfl
  unfold truD at h
  split at h
  · rename_i e
    cases deref_non wd r e
    cases h
    rfl
  · rename_i b e
    cases deref_bl wd r e
    cases h
    rfl
  · rename_i i e
    cases deref_int wd r e
    cases h
    rfl
  · rename_i x e
    cases deref_str wd r e
    split at h
    · rename_i f
      cases h
      exact ⟨fits_le f, rfl⟩
    · cases h
  · rename_i ds e
    obtain ⟨a, vs, rfl, ha, _, rs⟩ := deref_tup wd r e
    cases h
    exact .inr (.inl ⟨vs, by rw [hK]; exact ha, em rs⟩)
  · rename_i ds e
    obtain ⟨a, vs, rfl, ha, rs⟩ := deref_lst wd r e
    cases h
    exact .inl ⟨vs, SqL.of ha, em rs⟩
  · cases h
theorem ix_get {ds : List D} {vs : List V} (rs : Reps T w ds vs) {i : Int} {d : D} (h : atI ds i = some d) : ∃ v, atI vs i = some v ∧ Rep T w d v := by
  unfold atI at h ⊢
  rw [← rs.len]
  cases e : ixN ds.length i with
  | none => rw [e] at h; cases h
  | some j =>
    rw [e] at h
    exact rs.get h
def rIdx (T : Tb) : R2 := fun x y H Q => ∃ (W : WX) (σ0 : L2.St) (a b : D) (w : Wo), w.H = H ∧ Wd T w ∧ Rep T w a x ∧ Rep T w b y ∧ Post T W w σ0 (Rep T) (idx2 a b w.S) Q
/-- keys and what they stand for -/
theorem key_v {d : D} {v : V} {k : Key} (r : Rep T w d v) (e : keyD d = some k) : v = kV k := by
  cases r <;> first | (cases e; rfl) | cases e
theorem keys_v : ∀ {ds : List D} {vs : List V} {k : List Key}, Reps T w ds vs → keysD ds = some k → vs = k.map kV
  | _, _, _, .nil, e => by cases e; rfl
  | d :: ds, _, k, .cons r rs, e => by
    unfold keysD at e
    cases h1 : keyD d with
    | none => rw [h1] at e; cases e
    | some q =>
      cases h2 : keysD ds with
      | none => rw [h1, h2] at e; cases e
      | some qs =>
        rw [h1, h2] at e
        cases e
        rw [key_v r h1, keys_v rs h2]
        rfl
theorem pair_get {k : List Key} : ∀ {ks vs : List D} {us : List V} {kvs : List (List Key × V)} {d : D}, pairT ks us = some kvs → Reps T w vs us → getT k ks vs = some d → ∃ u, valV kvs k = some u ∧ Rep T w d u
  | [], [], _, _, _, _, _, h => by cases h
  | [], _ :: _, _, _, _, _, _, h => by cases h
  | _ :: _, [], _, _, _, _, .nil, h => by cases h
  | q :: ks, v :: vs, u :: us, kvs, d, e, .cons r rs, h => by
    unfold pairT at e
    cases h1 : keyT q with
    | none => rw [h1] at e; cases e
    | some y =>
      cases h2 : pairT ks us with
      | none => rw [h1, h2] at e; cases e
      | some rest =>
        rw [h1, h2] at e
        cases e
        have h' : (if keyT q = some k then some v else getT k ks vs) = some d := h
        by_cases hk : keyT q = some k
        · rw [if_pos hk] at h'
          cases h'
          rw [h1] at hk
          exact ⟨u, valV_pos (Option.some.inj hk), r⟩
        · rw [if_neg hk] at h'
          rw [h1] at hk
          obtain ⟨u', e1, e2⟩ := pair_get h2 rs h'
          exact ⟨u', by rw [valV_neg (fun z => hk (congrArg some z))]; exact e1, e2⟩
theorem pair_any {k : List Key} : ∀ {ks : List D} {us : List V} {kvs : List (List Key × V)}, pairT ks us = some kvs → (kvs.any fun kv => decide (kv.1 = k)) = (ks.any fun q => decide (keyT q = some k)) ∧ kvs.length = ks.length ∧ us.length = ks.length
  | [], [], _, e => by cases e; exact ⟨rfl, rfl, rfl⟩
  | [], _ :: _, _, e => by cases e
  | _ :: _, [], _, e => by cases e
  | q :: ks, u :: us, kvs, e => by
    unfold pairT at e
    cases h1 : keyT q with
    | none => rw [h1] at e; cases e
    | some y =>
      cases h2 : pairT ks us with
      | none => rw [h1, h2] at e; cases e
      | some rest =>
        rw [h1, h2] at e
        cases e
        obtain ⟨i1, i2, i3⟩ := pair_any (k := k) h2
        refine ⟨?_, by simp [i2], by simp [i3]⟩
        rw [List.any_cons, List.any_cons, i1]
        congr 1
        show decide (y = k) = decide (keyT q = some k)
        rw [h1]
        simp
theorem pair_app {k : List Key} {x : D} {u : V} (hx : keyT x = some k) : ∀ {ks : List D} {us : List V} {kvs : List (List Key × V)}, pairT ks us = some kvs → pairT (ks ++ [x]) (us ++ [u]) = some (kvs ++ [(k, u)])
  | [], [], _, e => by
    cases e
    show (match keyT x, pairT [] [] with | some q, some r => some ((q, u) :: r) | _, _ => none) = _
    rw [hx]
    rfl
  | [], _ :: _, _, e => by cases e
  | _ :: _, [], _, e => by cases e
  | q :: ks, z :: us, kvs, e => by
    unfold pairT at e
    cases h1 : keyT q with
    | none => rw [h1] at e; cases e
    | some y =>
      cases h2 : pairT ks us with
      | none => rw [h1, h2] at e; cases e
      | some rest =>
        rw [h1, h2] at e
        cases e
        show (match keyT q, pairT (ks ++ [x]) (us ++ [u]) with | some q, some r => some ((q, z) :: r) | _, _ => none) = _
        rw [h1, pair_app hx h2]
        rfl
theorem pair_map {k : List Key} {e : D} {u : V} (re : Rep T w e u) : ∀ {ks vs : List D} {us : List V} {kvs : List (List Key × V)}, pairT ks us = some kvs → Reps T w vs us → ∃ us', pairT ks us' = some (kvs.map fun kv => if kv.1 = k then (kv.1, u) else kv) ∧ Reps T w ((ks.zip vs).map fun p => if keyT p.1 = some k then e else p.2) us'
  | [], [], _, _, h, .nil => by cases h; exact ⟨[], rfl, .nil⟩
  | [], _ :: _, _, _, h, .cons _ _ => by cases h
  | _ :: _, [], _, _, h, .nil => by cases h
  | q :: ks, v :: vs, z :: us, kvs, h, .cons r rs => by
    unfold pairT at h
    cases h1 : keyT q with
    | none => rw [h1] at h; cases h
    | some y =>
      cases h2 : pairT ks us with
      | none => rw [h1, h2] at h; cases h
      | some rest =>
        rw [h1, h2] at h
        cases h
        obtain ⟨us', i1, i2⟩ := pair_map (k := k) re h2 rs
        by_cases hy : y = k
        · refine ⟨u :: us', ?_, ?_⟩
          · show (match keyT q, pairT ks us' with | some q, some r => some ((q, u) :: r) | _, _ => none) = _
            rw [h1, i1]
            simp [hy]
          · rw [List.zip_cons_cons, List.map_cons]
            simp only [h1, hy, if_true]
            exact .cons re i2
        · refine ⟨z :: us', ?_, ?_⟩
          · show (match keyT q, pairT ks us' with | some q, some r => some ((q, z) :: r) | _, _ => none) = _
            rw [h1, i1]
            simp [hy]
          · rw [List.zip_cons_cons, List.map_cons]
            have ny : ¬ (keyT q = some k) := by rw [h1]; simpa using hy
            simp only [ny, if_false]
            exact .cons r i2
/-- a key put in -/
theorem pair_put {k : List Key} {x e : D} {u : V} {ks vs : List D} {us : List V} {kvs : List (List Key × V)} (hx : keyT x = some k) (re : Rep T w e u) (h : pairT ks us = some kvs) (rs : Reps T w vs us) : ∃ us', pairT (putT k x e ks vs).1 us' = some (putK kvs k u) ∧ Reps T w (putT k x e ks vs).2 us' := by
  obtain ⟨a1, a2, a3⟩ := pair_any (k := k) h
  unfold putT putK
  rw [a1]
  by_cases c : (ks.any fun q => decide (keyT q = some k)) = true
  · rw [if_pos c, if_pos c]
    exact pair_map re h rs
  · rw [if_neg c, if_neg c]
    exact ⟨us ++ [u], pair_app hx h, rs.append (.cons re .nil)⟩
theorem ix_idx (hK : X.K = T.K) (hu : X.A.units + 66 < cLine) : IxR X (rIdx T) := by
  intro value slice pins s σ H x y v u Q I rx ry h hs
  obtain ⟨W, σ0, a, b, w, rfl, wd, ra, rb, h⟩ := h
  unfold idx2 at h
  split at h
  · rename_i ds k e
    obtain ⟨p, vs, rfl, hp, rs⟩ := deref_lst wd ra e
    cases rb
    split at h
    · rename_i d ed
      obtain ⟨z, hz, rz⟩ := ix_get rs ed
      exact ix_list value slice pins s σ _ _ _ v u Q I rx ry ⟨p, vs, k, z, rfl, rfl, SqL.of hp, hz, Post.here wd rz h⟩ hs
    · exact h.elim
  · rename_i ds k e
    obtain ⟨p, vs, rfl, hp, _, rs⟩ := deref_tup wd ra e
    cases rb
    split at h
    · rename_i d ed
      obtain ⟨z, hz, rz⟩ := ix_get rs ed
      exact ix_tup value slice pins s σ _ _ _ v u Q I rx ry ⟨p, vs, k, z, rfl, rfl, by rw [hK]; exact hp, hz, Post.here wd rz h⟩ hs
    · exact h.elim
  · rename_i ns k e
    obtain ⟨p, rfl, hp⟩ := deref_scr wd ra e
    cases rb
    split at h
    · rename_i i ed
      have hz : atI (ns.map V.int) k = some (.int i) := by
        have ed' : atI ns k = some i := ed
        unfold atI at ed' ⊢
        rw [List.length_map]
        cases e : ixN ns.length k with
        | none => rw [e] at ed'; cases ed'
        | some j =>
          rw [e] at ed'
          show (ns.map V.int)[j]? = _
          rw [List.getElem?_map]
          have : ns[j]? = some i := ed'
          rw [this]
          rfl
      exact ix_list value slice pins s σ _ _ _ v u Q I rx ry ⟨p, _, k, .int i, rfl, rfl, by rw [hK]; exact hp, hz, Post.here wd (.int i) h⟩ hs
    · exact h.elim
  · rename_i z k e
    cases deref_str wd ra e
    cases rb
    split at h
    · rename_i f
      split at h
      · rename_i c ec
        exact ix_str value slice pins s σ _ _ _ v u Q I rx ry ⟨z, k, c, rfl, rfl, fits_le f, ec, Post.here wd (.str _) h⟩ hs
      · exact h.elim
    · exact h.elim
  · rename_i ks vs qs e
    obtain ⟨p, kvs, us, rfl, hp, hk, rs⟩ := deref_dtt wd ra e
    cases rb with
    | @tup b ws _ hb rb =>
    split at h
    · rename_i k ek
      split at h
      · rename_i d ed
        obtain ⟨z, hz, rz⟩ := pair_get hk rs ed
        have hw := keys_v rb ek
        subst hw
        have g : DGet w.H p (.ref b) (some z) := by
          rw [← hz]
          exact DGet.t hp hb.1
        cases rx
        have hT := dict_typeIs I g
        unfold subscriptTail
        refine wpAny_bind ?_
        rw [getitemInPython_of_ne hT.not_modules]
        refine wpAny_bind (wpAny_specialOf hT PySem.F.slot_dict_getitem.lookup ?_)
        have fin : wpAny (model X.prog X.w) X.A (subscripted slice false (.ref p) u) (fun r s₃ => wpAny (model X.prog X.w) X.A (letTemporaryGo value (.ref p) r >>= fun _ => pure r) (EP X pins σ Q) X.xe s₃) X.xe s := by
          rw [hs]
          exact wpAny_operating (d_getItem (by omega) I g ry fun w' s3 I3 rw' => wpAny_bind (wpAny_letTemporaryGo (wpAny_pure ⟨z, _, I3, rw', Post.here wd rz h⟩)))
        first
          | exact wpAny_pure (wpAny_bind fin)
          | exact wpAny_bind fin
      · exact h.elim
    · exact h.elim
  · exact h.elim
theorem cut_reps {ds : List D} {vs : List V} (rs : Reps T w ds vs) (lo hi : Option Int) : Reps T w (cutD ds lo hi) (cutV vs lo hi) := by
  unfold cutD cutV
  rw [rs.len]
  exact (rs.drop _).take _
def rSl2 (T : Tb) (m : Bool) : V → Option Int → Option Int → Hp → VK → Prop := fun x lo hi H Q => ∃ (W : WX) (σ0 : L2.St) (a : D) (w : Wo), w.H = H ∧ Wd T w ∧ Rep T w a x ∧ Post T W w σ0 (Rep T) (sl2 m a lo hi w.S) Q
theorem sl_sl2 (hK : X.K = T.K) (m : Bool) : SlR X (rSl2 T m) := by
  intro pins s σ H x v vl vu lo hi sl Q I rx hs pl pu h
  obtain ⟨W, σ0, a, w, rfl, wd, ra, h⟩ := h
  unfold sl2 at h
  split at h
  · rename_i ds e
    obtain ⟨p, vs, rfl, hp, rs⟩ := deref_lst wd ra e
    exact sl_list pins s σ _ _ v vl vu lo hi sl Q I rx hs pl pu ⟨p, vs, rfl, SqL.of hp, (newL_ok wd (cut_reps rs lo hi) h).2⟩
  · rename_i ds e
    obtain ⟨p, vs, rfl, hp, st, rs⟩ := deref_tup wd ra e
    refine sl_tupA pins s σ _ _ v vl vu lo hi sl Q I rx hs pl pu ⟨p, vs, rfl, by rw [hK]; exact hp, fun z => ?_, fun _ => newT_ok wd (cut_reps rs lo hi) h⟩
    have hc : cutD ds lo hi = ds := by
      unfold cutD
      rw [rs.len, z.1, z.2, ← rs.len]
      simp
    rw [hc] at h
    exact Post.here wd (.tup st rs) h
  · exact h.elim
def rSetA : TSet := fun o i v H Q => rSetL o i v H Q ∨ ∃ a H4, o = .ref a ∧ DPut H a i v H4 ∧ Q H4
theorem set_any (hu : X.A.units + 66 < cLine) : PSet X rSetA := by
  intro pins s σ H o i v ov iv u Q I ro ri rv h
  rcases h with h | ⟨a, H4, rfl, g, q⟩
  · exact set_list pins s σ H o i v ov iv u Q I ro ri rv h
  · cases ro
    exact d_setItem (by omega) I g ri rv fun s4 I4 => ⟨H4, I4, q⟩
/-- a[i] = e -/
theorem set_setI {o i v : V} {a b e : D} {w : Wo} {Q : Hp → Prop} (wd : Wd T w) (ra : Rep T w a o) (rb : Rep T w b i) (re : Rep T w e v)
    (h : Post T W w σ0 (Rep T) (setI a b e w.S) fun _ H => Q H) : rSetA o i v w.H Q := by
  unfold setI at h
  split at h
  · refine .inl ?_
    rename_i n k
    cases rb
    cases ra with
    | @ref _ p hn =>
      split at h
      · rename_i ds hS
        split at h
        · rename_i j hj
          obtain ⟨vs, hp, rs⟩ := wd.cell n _ p hS hn
          obtain ⟨w1, s1⟩ := wd.write (c' := .lst (ds.set j e)) (o := .lst (vs.set j v)) hS (fun z => nomatch z) hn fun w' st ee => ⟨_, by rw [ee]; exact upd_same, (rs.mono st.toMon).set (re.mono st.toMon) j⟩
          exact ⟨p, vs, k, j, rfl, rfl, hp, by rw [← rs.len]; exact hj, h ⟨_, _, _, _⟩ .non rfl w1 s1 .non⟩
        · exact h.elim
      · exact h.elim
  · rename_i n ks
    cases ra with
    | @ref _ p hn =>
      cases rb with
      | @tup b ws _ hb rb =>
      split at h
      · rename_i qs vs hS
        split at h
        · rename_i f
          split at h
          · rename_i k ek
            obtain ⟨kvs, us, hp, pk, rs⟩ := wd.cell n _ p hS hn
            have hw := keys_v rb ek
            subst hw
            obtain ⟨us', p1, p2⟩ := pair_put (x := .tup ks) (k := k) ek re pk rs
            obtain ⟨_, a2, _⟩ := pair_any (k := k) pk
            obtain ⟨w1, s1⟩ := wd.write (c' := .dtt (putT k (.tup ks) e qs vs).1 (putT k (.tup ks) e qs vs).2) (o := .dT (putK kvs k v)) hS (fun z => nomatch z) hn fun w' st ee => ⟨_, us', by rw [ee]; exact upd_same, p1, p2.mono st.toMon⟩
            refine .inr ⟨p, _, rfl, DPut.t hp hb.1 (by have := fits_le f; omega), h ⟨_, _, _, _⟩ .non rfl w1 s1 .non⟩
          · exact h.elim
        · exact h.elim
      · exact h.elim
  · exact h.elim
/-- xs.append(e) -/
theorem app_ok {x y : V} {a e : D} {w : Wo} {Q : VK} (wd : Wd T w) (ra : Rep T w a x) (re : Rep T w e y) (h : Post T W w σ0 (Rep T) (appD a e w.S) Q) : rAppend x [y] w.H Q := by
  unfold appD at h
  split at h
  · rename_i n
    cases ra with
    | @ref _ p hn =>
      split at h
      · rename_i ds hS
        split at h
        · rename_i f
          obtain ⟨vs, hp, rs⟩ := wd.cell n _ p hS hn
          obtain ⟨w1, s1⟩ := wd.write (c' := .lst (ds ++ [e])) (o := .lst (vs ++ [y])) hS (fun z => nomatch z) hn fun w' st ee => ⟨_, by rw [ee]; exact upd_same, (rs.mono st.toMon).append (.cons (re.mono st.toMon) .nil)⟩
          have := fits_le f
          exact ⟨p, vs, y, rfl, rfl, hp, by rw [← rs.len]; omega, h ⟨_, _, _, _⟩ .non rfl w1 s1 .non⟩
        · exact h.elim
      · exact h.elim
  · exact h.elim
/-- freezing: the same value, another reading of it -/
theorem frz_ok {d e : D} {S' : Store} {v : V} {w : Wo} (wd : Wd T w) (r : Rep T w d v) (h : frzD d w.S = .ok e S') : ∃ w' : Wo, w'.S = S' ∧ w'.H = w.H ∧ Wd T w' ∧ Step w w' ∧ Rep T w' e v := by
  unfold frzD at h
  split at h
  · rename_i n
    cases r with
    | @ref _ a hn =>
      split at h
      · rename_i ds hS
        cases h
        obtain ⟨vs, hp, rs⟩ := wd.cell n _ a hS hn
        obtain ⟨w1, s1, l1⟩ := wd.freeze hS hn
        exact ⟨⟨w.S.set n .dead, w.r, w.H, w.x⟩, rfl, rfl, w1, s1, .lst ⟨hp, l1⟩ (rs.mono s1.toMon)⟩
      · rename_i ks vs hS
        cases h
        obtain ⟨kvs, us, hp, pk, rs⟩ := wd.cell n _ a hS hn
        obtain ⟨w1, s1, l1⟩ := wd.freeze hS hn
        exact ⟨⟨w.S.set n .dead, w.r, w.H, w.x⟩, rfl, rfl, w1, s1, .dct hp l1 pk (rs.mono s1.toMon)⟩
      · rename_i ks vs hS
        cases h
        obtain ⟨kvs, us, hp, pk, rs⟩ := wd.cell n _ a hS hn
        obtain ⟨w1, s1, l1⟩ := wd.freeze hS hn
        exact ⟨⟨w.S.set n .dead, w.r, w.H, w.x⟩, rfl, rfl, w1, s1, .dtt hp l1 pk (rs.mono s1.toMon)⟩
      · rename_i c fs vs hS
        cases h
        obtain ⟨dx, us, hp, pk, rs⟩ := wd.cell n _ a hS hn
        obtain ⟨w1, s1, l1⟩ := wd.freeze hS hn
        exact ⟨⟨w.S.set n .dead, w.r, w.H, w.x⟩, rfl, rfl, w1, s1, .obj hp l1 pk (rs.mono s1.toMon)⟩
      · cases h
  · cases h
end
end PV

namespace PV
open PySem L2 PyProof.Rows

section
variable {X : Cx} {T : Tb} {W : WX} {σ0 : L2.St} {w : Wo}
theorem ints_vals : ∀ {ds : List D} {vs : List V} {is : List Int}, Reps T w ds vs → intsD ds = some is → vs = is.map V.int
  | _, _, _, .nil, e => by cases e; rfl
  | d :: ds, v :: vs, is, .cons r t, e => by
    cases r <;> first | (cases e; done) | skip
    rename_i i
    unfold intsD at e
    cases q : intsD ds with
    | none => rw [q] at e; cases e
    | some js =>
      rw [q] at e
      cases e
      rw [ints_vals t q]
      rfl
theorem bls_vals : ∀ {ds : List D} {vs : List V} {is : List Bool}, Reps T w ds vs → blsD ds = some is → vs = is.map V.bl
  | _, _, _, .nil, e => by cases e; rfl
  | d :: ds, v :: vs, is, .cons r t, e => by
    cases r <;> first | (cases e; done) | skip
    rename_i i
    unfold blsD at e
    cases q : blsD ds with
    | none => rw [q] at e; cases e
    | some js =>
      rw [q] at e
      cases e
      rw [bls_vals t q]
      rfl
theorem maxI_ge : ∀ (ms : List Int) (m : Int), m ≤ maxI m ms ∧ ∀ y ∈ ms, y ≤ maxI m ms
  | [], m => ⟨Int.le_refl _, fun y h => by cases h⟩
  | x :: xs, m => by
    obtain ⟨h1, h2⟩ := maxI_ge xs (if x > m then x else m)
    have e : maxI m (x :: xs) = maxI (if x > m then x else m) xs := rfl
    rw [e]
    have k : m ≤ (if x > m then x else m) ∧ x ≤ (if x > m then x else m) := by split <;> omega
    refine ⟨Int.le_trans k.1 h1, fun y hy => ?_⟩
    rcases List.mem_cons.mp hy with rfl | hy
    · exact Int.le_trans k.2 h1
    · exact h2 y hy
theorem maxI_mem : ∀ (ms : List Int) (m : Int), maxI m ms ∈ m :: ms
  | [], m => by simp [maxI]
  | x :: xs, m => by
    have h := maxI_mem xs (if x > m then x else m)
    have e : maxI m (x :: xs) = maxI (if x > m then x else m) xs := rfl
    rw [e]
    rcases List.mem_cons.mp h with h | h
    · rw [h]
      split <;> simp
    · exact List.mem_cons_of_mem _ (List.mem_cons_of_mem _ h)
theorem minI_le : ∀ (ms : List Int) (m : Int), minI m ms ≤ m ∧ ∀ y ∈ ms, minI m ms ≤ y
  | [], m => ⟨Int.le_refl _, fun y h => by cases h⟩
  | x :: xs, m => by
    obtain ⟨h1, h2⟩ := minI_le xs (if x < m then x else m)
    have e : minI m (x :: xs) = minI (if x < m then x else m) xs := rfl
    rw [e]
    have k : (if x < m then x else m) ≤ m ∧ (if x < m then x else m) ≤ x := by split <;> omega
    refine ⟨Int.le_trans h1 k.1, fun y hy => ?_⟩
    rcases List.mem_cons.mp hy with rfl | hy
    · exact Int.le_trans h1 k.2
    · exact h2 y hy
theorem minI_mem : ∀ (ms : List Int) (m : Int), minI m ms ∈ m :: ms
  | [], m => by simp [minI]
  | x :: xs, m => by
    have h := minI_mem xs (if x < m then x else m)
    have e : minI m (x :: xs) = minI (if x < m then x else m) xs := rfl
    rw [e]
    rcases List.mem_cons.mp h with h | h
    · rw [h]
      split <;> simp
    · exact List.mem_cons_of_mem _ (List.mem_cons_of_mem _ h)
theorem reps1 {d : D} {vs : List V} (r : Reps T w [d] vs) : ∃ v, vs = [v] ∧ Rep T w d v := by
  cases r with
  | cons r t =>
    cases t
    exact ⟨_, rfl, r⟩
theorem reps2 {d e : D} {vs : List V} (r : Reps T w [d, e] vs) : ∃ v u, vs = [v, u] ∧ Rep T w d v ∧ Rep T w e u := by
  cases r with
  | cons r t =>
    obtain ⟨u, rfl, q⟩ := reps1 t
    exact ⟨_, u, rfl, r, q⟩
theorem isL_some {d : D} {ds : List D} (h : isL d = some ds) : d = .lst ds := by
  cases d <;> first | (cases h; done) | (cases h; rfl)
def rBi (T : Tb) (b : Bi) : List V → Hp → VK → Prop := fun xs H Q => ∃ (W : WX) (σ0 : L2.St) (ds : List D) (w : Wo), w.H = H ∧ Wd T w ∧ Reps T w ds xs ∧ Post T W w σ0 (Rep T) (biD b ds w.S) Q
theorem call_len' (hK : X.K = T.K) : CallR X (.builtin "len") (rBi T .len) := by
  intro pins s σ H xs us Q I r h
  obtain ⟨W, σ0, ds, w, rfl, wd, rs, h⟩ := h
  cases rs with
  | nil => exact h.elim
  | @cons d v ds' vs' rd rs =>
    cases rs with
    | cons _ _ => exact h.elim
    | nil =>
      have h' : Post T W w σ0 (Rep T) (match lenD w.S d with | some n => .ok (.int n) w.S | none => .stuck) Q := h
      split at h'
      · rename_i n e
        unfold lenD at e
        split at e
        · rename_i ds e2
          obtain ⟨a, vs, rfl, ha, rs⟩ := deref_lst wd rd e2
          cases e
          exact call_len pins s σ _ _ us Q I r ⟨_, _, rfl, .inl ⟨vs, SqL.of ha, rfl⟩, by rw [← rs.len]; exact Post.here wd (.int _) h'⟩
        · rename_i ds e2
          obtain ⟨a, vs, rfl, ha, _, rs⟩ := deref_tup wd rd e2
          cases e
          exact call_len pins s σ _ _ us Q I r ⟨_, _, rfl, .inr ⟨vs, by rw [hK]; exact ha, rfl⟩, by rw [← rs.len]; exact Post.here wd (.int _) h'⟩
        · rename_i ns e2
          obtain ⟨a, rfl, ha⟩ := deref_scr wd rd e2
          cases e
          exact call_len pins s σ _ _ us Q I r ⟨_, _, rfl, .inl ⟨_, by rw [hK]; exact ha, rfl⟩, by rw [List.length_map]; exact Post.here wd (.int _) h'⟩
        · rename_i x e2
          cases deref_str wd rd e2
          split at e
          · rename_i f
            cases e
            exact call_len pins s σ _ _ us Q I r ⟨_, _, rfl, ⟨fits_le f, rfl⟩, Post.here wd (.int _) h'⟩
          · cases e
        · cases e
      · exact h'.elim
theorem call_max' (hc : X.calm = true) : CallR X (.builtin "max") (rBi T .max) := by
  intro pins s σ H xs us Q I r h
  obtain ⟨W, σ0, ds, w, rfl, wd, rs, h⟩ := h
  replace h : Post T W w σ0 (Rep T) (biMax ds w.S) Q := h
  unfold biMax at h
  split at h
  · rename_i i j
    obtain ⟨v, u, rfl, r1, r2⟩ := reps2 rs
    cases r1
    cases r2
    exact call_max2 hc pins s σ _ _ us Q I r ⟨i, j, rfl, Post.here wd (.int _) h⟩
  · rename_i d
    obtain ⟨v, rfl, r1⟩ := reps1 rs
    split at h
    · rename_i x xs e
      split at h
      · rename_i m ms ei
        obtain ⟨a, vs, rfl, ha, rs⟩ := deref_lst wd r1 e
        have ev := ints_vals rs ei
        subst ev
        refine cr_max hc pins s σ _ _ us Q I r ⟨a, m :: ms, rfl, SqL.of ha, by simp, fun k hk hle => ?_⟩
        have h1 := maxI_mem ms m
        have h2 := hle _ h1
        obtain ⟨h3, h4⟩ := maxI_ge ms m
        have h5 : k ≤ maxI m ms := by
          rcases List.mem_cons.mp hk with rfl | hk
          · exact h3
          · exact h4 k hk
        have ek : k = maxI m ms := by omega
        rw [ek]
        exact Post.here wd (.int _) h
      · exact h.elim
    · exact h.elim
  · exact h.elim
theorem call_min' (hc : X.calm = true) : CallR X (.builtin "min") (rBi T .min) := by
  intro pins s σ H xs us Q I r h
  obtain ⟨W, σ0, ds, w, rfl, wd, rs, h⟩ := h
  replace h : Post T W w σ0 (Rep T) (biMin ds w.S) Q := h
  unfold biMin at h
  split at h
  · rename_i i j
    obtain ⟨v, u, rfl, r1, r2⟩ := reps2 rs
    cases r1
    cases r2
    exact call_min2 hc pins s σ _ _ us Q I r ⟨i, j, rfl, Post.here wd (.int _) h⟩
  · rename_i d
    obtain ⟨v, rfl, r1⟩ := reps1 rs
    split at h
    · rename_i x xs e
      split at h
      · rename_i m ms ei
        obtain ⟨a, vs, rfl, ha, rs⟩ := deref_lst wd r1 e
        have ev := ints_vals rs ei
        subst ev
        refine cr_min hc pins s σ _ _ us Q I r ⟨a, m :: ms, rfl, SqL.of ha, by simp, fun k hk hle => ?_⟩
        have h1 := minI_mem ms m
        have h2 := hle _ h1
        obtain ⟨h3, h4⟩ := minI_le ms m
        have h5 : minI m ms ≤ k := by
          rcases List.mem_cons.mp hk with rfl | hk
          · exact h3
          · exact h4 k hk
        have ek : k = minI m ms := by omega
        rw [ek]
        exact Post.here wd (.int _) h
      · exact h.elim
    · exact h.elim
  · exact h.elim
theorem call_abs' : CallR X (.builtin "abs") (rBi T .abs) := by
  intro pins s σ H xs us Q I r h
  obtain ⟨W, σ0, ds, w, rfl, wd, rs, h⟩ := h
  replace h : Post T W w σ0 (Rep T) (biAbs ds w.S) Q := h
  unfold biAbs at h
  split at h
  · rename_i i
    obtain ⟨v, rfl, r1⟩ := reps1 rs
    cases r1
    exact call_abs pins s σ _ _ us Q I r ⟨i, rfl, Post.here wd (.int _) h⟩
  · exact h.elim
theorem call_all' (hc : X.calm = true) : CallR X (.builtin "all") (rBi T .all) := by
  intro pins s σ H xs us Q I r h
  obtain ⟨W, σ0, ds, w, rfl, wd, rs, h⟩ := h
  replace h : Post T W w σ0 (Rep T) (biAll ds w.S) Q := h
  unfold biAll at h
  split at h
  · rename_i d
    obtain ⟨v, rfl, r1⟩ := reps1 rs
    split at h
    · rename_i bs e
      cases q : isL (deref w.S d) with
      | none => rw [q] at e; cases e
      | some ds =>
        rw [q] at e
        obtain ⟨a, vs, rfl, ha, rs⟩ := deref_lst wd r1 (isL_some q)
        have ev := bls_vals rs e
        subst ev
        exact cr_all hc pins s σ _ _ us Q I r ⟨a, bs, rfl, SqL.of ha, Post.here wd (.bl _) h⟩
    · exact h.elim
  · exact h.elim
theorem call_any' (hc : X.calm = true) : CallR X (.builtin "any") (rBi T .any) := by
  intro pins s σ H xs us Q I r h
  obtain ⟨W, σ0, ds, w, rfl, wd, rs, h⟩ := h
  replace h : Post T W w σ0 (Rep T) (biAny ds w.S) Q := h
  unfold biAny at h
  split at h
  · rename_i d
    obtain ⟨v, rfl, r1⟩ := reps1 rs
    split at h
    · rename_i bs e
      cases q : isL (deref w.S d) with
      | none => rw [q] at e; cases e
      | some ds =>
        rw [q] at e
        obtain ⟨a, vs, rfl, ha, rs⟩ := deref_lst wd r1 (isL_some q)
        have ev := bls_vals rs e
        subst ev
        exact cr_any hc pins s σ _ _ us Q I r ⟨a, bs, rfl, SqL.of ha, Post.here wd (.bl _) h⟩
    · exact h.elim
  · exact h.elim
theorem call_sum' (hc : X.calm = true) : CallR X (.builtin "sum") (rBi T .sum) := by
  intro pins s σ H xs us Q I r h
  obtain ⟨W, σ0, ds, w, rfl, wd, rs, h⟩ := h
  replace h : Post T W w σ0 (Rep T) (biSum ds w.S) Q := h
  unfold biSum at h
  split at h
  · rename_i d
    obtain ⟨v, rfl, r1⟩ := reps1 rs
    split at h
    · rename_i bs e
      cases q : isL (deref w.S d) with
      | none => rw [q] at e; cases e
      | some ds =>
        rw [q] at e
        obtain ⟨a, vs, rfl, ha, rs⟩ := deref_lst wd r1 (isL_some q)
        have ev := ints_vals rs e
        subst ev
        exact cr_sum hc pins s σ _ _ us Q I r ⟨a, bs, rfl, SqL.of ha, Post.here wd (.int _) h⟩
    · exact h.elim
  · exact h.elim
theorem call_list' (hK : X.K = T.K) (m : Bool) : CallR X (.type "list") (rBi T (.list m)) := by
  intro pins s σ H xs us Q I r h
  obtain ⟨W, σ0, ds, w, rfl, wd, rs, h⟩ := h
  replace h : Post T W w σ0 (Rep T) (biList m ds w.S) Q := h
  unfold biList at h
  split at h
  · rename_i d
    obtain ⟨v, rfl, r1⟩ := reps1 rs
    split at h
    · rename_i ds e
      obtain ⟨a, vs, rfl, ha, rs⟩ := deref_lst wd r1 e
      exact call_list_of pins s σ _ _ us Q I r ⟨a, vs, rfl, .inl (SqL.of ha), (newL_ok wd rs h).2⟩
    · rename_i ds e
      obtain ⟨a, vs, rfl, ha, _, rs⟩ := deref_tup wd r1 e
      exact call_list_of pins s σ _ _ us Q I r ⟨a, vs, rfl, .inr (by rw [hK]; exact ha), (newL_ok wd rs h).2⟩
    · rename_i e
      obtain ⟨a, rfl, ha⟩ := deref_emp wd r1 e
      exact call_list_of pins s σ _ _ us Q I r ⟨a, [], rfl, .inr (by rw [hK]; exact emp_sq ha), (newL_ok wd .nil h).2⟩
    · exact h.elim
  · exact h.elim
theorem call_tuple' (hK : X.K = T.K) : CallR X (.type "tuple") (rBi T .tuple) := by
  intro pins s σ H xs us Q I r h
  obtain ⟨W, σ0, ds, w, rfl, wd, rs, h⟩ := h
  replace h : Post T W w σ0 (Rep T) (biTuple ds w.S) Q := h
  unfold biTuple at h
  split at h
  · rename_i d
    obtain ⟨v, rfl, r1⟩ := reps1 rs
    split at h
    · rename_i ds e
      obtain ⟨a, vs, rfl, ha, rs⟩ := deref_lst wd r1 e
      split at h
      · exact call_tuple_of pins s σ _ _ us Q I r ⟨a, vs, rfl, .inl ⟨SqL.of ha, newT_ok wd rs h⟩⟩
      · exact h.elim
    · rename_i ds e
      obtain ⟨a, vs, rfl, ha, st, rs⟩ := deref_tup wd r1 e
      exact call_tuple_of pins s σ _ _ us Q I r ⟨a, vs, rfl, .inr ⟨by rw [hK]; exact ha, Post.here wd (.tup st rs) h⟩⟩
    · exact h.elim
  · exact h.elim
theorem call_int' : CallR X (.type "int") (rBi T .int) := by
  intro pins s σ H xs us Q I r h
  obtain ⟨W, σ0, ds, w, rfl, wd, rs, h⟩ := h
  replace h : Post T W w σ0 (Rep T) (biInt ds w.S) Q := h
  unfold biInt at h
  split at h
  · rename_i k
    obtain ⟨v, rfl, r1⟩ := reps1 rs
    cases r1
    exact call_int1 pins s σ _ _ us Q I r (.inr ⟨k, rfl, Post.here wd (.int _) h⟩)
  · rename_i i
    obtain ⟨v, rfl, r1⟩ := reps1 rs
    cases r1
    exact call_int1 pins s σ _ _ us Q I r (.inl ⟨i, rfl, Post.here wd (.int _) h⟩)
  · exact h.elim
/-- a dict of flat things, read -/
theorem flat_reads {h : Heap} {d : D} {v : V} {u : Value} {p : PyData} {S : Store} (r : Rep T w d v) (rv : RelV v u) (f : flatD d = true) (e : toP S d = some p) : Reads h u p [] := by
  cases r with
  | non => cases rv; cases e; exact .none
  | bl b => cases rv; cases e; exact .bool b
  | int i => obtain ⟨t, rfl⟩ := rv; cases e; exact .int i t
  | str i => obtain ⟨t, rfl⟩ := rv; cases e; exact .str i t
  | _ => cases f
theorem toPs_cons {S : Store} {d : D} {ds : List D} {ps : List PyData} (e : toPs S (d :: ds) = some ps) : ∃ p q, toP S d = some p ∧ toPs S ds = some q ∧ ps = p :: q := by
  unfold toPs at e
  cases q1 : toP S d with
  | none => rw [q1] at e; cases e
  | some a =>
    cases q2 : toPs S ds with
    | none => rw [q1, q2] at e; cases e
    | some b =>
      rw [q1, q2] at e
      cases e
      exact ⟨a, b, rfl, rfl, rfl⟩
theorem key_reads {S : Store} {h : Heap} {d : D} {k : Key} {u : Value} {p : PyData} (e : keyD d = some k) (ku : keyIs k u = true) (ep : toP S d = some p) : Reads h u p [] := by
  cases d with
  | int i =>
    cases e
    cases ep
    rcases keyIs_shape ku with ⟨j, t, e1, rfl⟩ | ⟨x, t, e1, rfl⟩
    · cases e1
      exact .int _ _
    · cases e1
  | str i =>
    cases e
    cases ep
    rcases keyIs_shape ku with ⟨j, t, e1, rfl⟩ | ⟨x, t, e1, rfl⟩
    · cases e1
    · cases e1
      exact .str _ _
  | _ => cases e
theorem dict_reads {P : Program} {wl : World} {S : Store} {h : Heap} : ∀ {ks vs : List D} {us : List V} {kvs : List (Key × V)} {zs : List (Key × Value)} {es : List DictEntry} {pk pv : List PyData},
    pairK ks us = some kvs → Reps T w vs us → KV kvs zs → Pairs (mixKind P wl) es zs → ks.all flatD = true → vs.all flatD = true → toPs S ks = some pk → toPs S vs = some pv →
    ReadsAll h (es.map (·.key)) pk [] ∧ ReadsAll h (es.map (·.val)) pv [] ∧ pk.length = pv.length
  | [], _, _, _, _, _, _, _, e, .nil, kv, pr, _, _, e1, e2 => by
    cases e
    cases e1
    cases e2
    cases kv
    cases pr
    exact ⟨.nil, .nil, rfl⟩
  | k :: ks, _, v :: us, kvs, _, _, _, _, e, .cons rv rs, kv, pr, f1, f2, e1, e2 => by
    unfold pairK at e
    cases qk : keyD k with
    | none => rw [qk] at e; cases e
    | some kk =>
      cases qp : pairK ks us with
      | none => rw [qk, qp] at e; cases e
      | some kp =>
        rw [qk, qp] at e
        cases e
        cases kv with
        | @cons p0 kv0 _ _ c1 c2 =>
          cases pr with
          | @cons e0 _ es0 kvs0 i1 i2 i3 =>
            obtain ⟨p1, q1, a1, a2, rfl⟩ := toPs_cons e1
            obtain ⟨p2, q2, b1, b2, rfl⟩ := toPs_cons e2
            rw [List.all_cons, Bool.and_eq_true] at f1 f2
            obtain ⟨g1, g2, g3⟩ := dict_reads (P := P) (wl := wl) (S := S) (h := h) qp rs c2 i3 f1.2 f2.2 a2 b2
            obtain ⟨c3, c4⟩ := c1
            refine ⟨?_, ?_, by simp [g3]⟩
            · have := key_reads (h := h) (u := e0.key) qk (show keyIs kk e0.key = true from by rw [show kk = kv0.1 from c3]; exact i1) a1
              exact ReadsAll.cons (as := []) (bs := []) this g1
            · have := flat_reads (h := h) (u := e0.val) rv (show RelV v e0.val from by rw [i2]; exact c4) f2.1 b1
              exact ReadsAll.cons (as := []) (bs := []) this g2
  | [], _, _ :: _, _, _, _, _, _, e, .cons _ _, _, _, _, _, _, _ => by cases e
  | _ :: _, _, [], _, _, _, _, _, e, .nil, _, _, _, _, _, _ => by cases e
theorem zip_fst : ∀ {a b : List PyData}, a.length = b.length → (a.zip b).map (·.1) = a ∧ (a.zip b).map (·.2) = b
  | [], [], _ => ⟨rfl, rfl⟩
  | x :: a, y :: b, h => by
    obtain ⟨h1, h2⟩ := zip_fst (a := a) (b := b) (by simpa using h)
    exact ⟨by simp [h1], by simp [h2]⟩
/-- repr of data -/
theorem call_repr' (hK : X.K = T.K) (hg : X.A.guards = some []) (hu : X.A.units + 66 < cLine) : CallR X (.builtin "repr") (rBi T .repr) := by
  intro pins s σ H xs us Q I r h
  obtain ⟨W, σ0, ds, w, rfl, wd, rs, h⟩ := h
  replace h : Post T W w σ0 (Rep T) (biRepr ds w.S) Q := h
  unfold biRepr at h
  split at h
  · rename_i d
    obtain ⟨v, rfl, rd⟩ := reps1 rs
    obtain ⟨u, rfl, rv⟩ := vals1 r
    split at h
    · rename_i x e
      unfold reprD at e
      split at e
      · rename_i p ep
        split at e
        · rename_i f
          cases e
          rw [Bool.and_eq_true, Bool.and_eq_true, Bool.and_eq_true] at f
          obtain ⟨⟨⟨f1, f2⟩, f3⟩, f4⟩ := f
          have f4 : p.depth ≤ 60 := of_decide_eq_true f4
          have q := Post.here wd (.str p.shown) h
          have sz := fits_le f2
          have fin : ∀ (h' : Heap) (t : Tok) (tk : Nat), (∀ b o, s.heap.get? b = some o → h'.get? b = some o) → EP X pins σ Q (.str p.shown t) { s with heap := h', toks := tk } := fun h' t tk k => ⟨.str p.shown, w.H, I.kept (t' := tk) k, ⟨t, rfl⟩, q⟩
          have byRef : ∀ (a : Addr) (as : List Addr), Reads s.heap (.ref a) p as → (p.hasDict = true → sysModules ∉ as) → wpAny (model X.prog X.w) X.A (call (.builtin "repr") [.ref a]) (EP X pins σ Q) X.xe s := fun a as rr hsm =>
            repr_of_reads' rr f1 hsm hg (by omega) (fun _ _ z => z) fin sz
          by_cases hd : p.hasDict = false
          · have dp := deref_dp wd rd ep hd
            rw [← hK] at dp
            obtain ⟨as, rr⟩ := Dp.reads I p v u dp rv
            cases rr with
            | none => exact PySem.P.repr_of_none (fin s.heap _ _ fun _ _ z => z)
            | bool b => exact PySem.P.repr_of_bool (fin s.heap _ _ fun _ _ z => z)
            | int i t => exact PySem.P.repr_of_int (of_decide_eq_true f1) (fin s.heap _ _ fun _ _ z => z)
            | str y t => exact PySem.P.repr_of_str (fin s.heap _ _ fun _ _ z => z) sz
            | list a1 a2 a3 a4 => exact byRef _ _ (.list a1 a2 a3 a4) fun z => by rw [hd] at z; cases z
            | tuple a1 a2 a3 a4 => exact byRef _ _ (.tuple a1 a2 a3 a4) fun z => by rw [hd] at z; cases z
            | dict a1 a2 a3 a4 a5 => cases hd
          · rw [Bool.or_eq_true] at f3
            rcases f3 with f3 | f3
            · exact absurd (by simpa using f3) hd
            · unfold flatDct at f3
              split at f3
              · rename_i ks vs e2
                rw [Bool.and_eq_true] at f3
                rw [e2] at ep
                unfold toP at ep
                split at ep
                · rename_i pk pv e3 e4
                  cases ep
                  have key : ∃ a kvs us', v = .ref a ∧ w.H a = some (.dK kvs) ∧ pairK ks us' = some kvs ∧ Reps T w vs us' := by
                    cases rd with
                    | dct h1 h2 h3 h4 =>
                      cases e2
                      exact ⟨_, _, _, rfl, h1, h3, h4⟩
                    | @ref n a hn =>
                      unfold deref at e2
                      dsimp only at e2
                      obtain ⟨c, hc⟩ := wd.cellAt hn
                      rw [hc] at e2
                      have k := wd.cell n c a hc hn
                      cases c with
                      | dct _ _ =>
                        cases e2
                        obtain ⟨kvs, us', h1, h3, h4⟩ := k
                        exact ⟨_, _, _, rfl, h1, h3, h4⟩
                      | lst _ => cases e2
                      | dtt _ _ => cases e2
                      | ins _ _ _ => cases e2
                      | dead => cases e2
                    | _ => cases e2
                  obtain ⟨a, kvs, us', rfl, h1, h3, h4⟩ := key
                  obtain rfl : u = Value.ref a := rv
                  obtain ⟨_, hns, zs, kz, o, es, en, ho, hx, hdt, _, pr, _⟩ := (show ObjOk X.prog X.w w.H s.heap a (.dK kvs) from I.hok a _ h1)
                  obtain ⟨g1, g2, g3⟩ := dict_reads (h := s.heap) h3 h4 kz pr f3.1 f3.2 e3 e4
                  obtain ⟨z1, z2⟩ := zip_fst g3
                  refine byRef a _ (.dict (as := []) (bs := []) ho hx.1 hdt (by rw [z1]; exact g1) (by rw [z2]; exact g2)) fun _ hm => ?_
                  have : sysModules = a := by simpa using hm
                  rw [← this] at hns
                  simp at hns
                · cases ep
              · cases f3
        · cases e
      · cases e
    · exact h.elim
  · exact h.elim
end
end PV

namespace PV
open PySem L2 PyProof.Rows

/-- what is kept beside the names: it stands through every step -/
def Kept (Ξ : Xi) : Prop := ∀ (w w' : Wo) (σ : L2.St), Step w w' → Ξ w σ → Ξ w' σ
section
variable {X : Cx} {T : Tb} {W : WX} {Ξ : Xi} {G : Gv} {a b c : Expr} {pos : Pos} {fa fb fc : F}
/-- one part, then what follows -/
theorem tEv.bind (kp : Kept Ξ) {g : Env → D → Store → R D} {σ : L2.St} {H : Hp} {Q : VK} (h : tEv T W Ξ (fun δ S => (fa δ S).bind (g δ)) σ H Q) :
    tEv T W Ξ fa σ H fun v H1 => ∃ (δ : Env) (w : Wo) (d : D), w.H = H1 ∧ Wd T w ∧ EnvOk T w δ σ ∧ Ξ w σ ∧ Rep T w d v ∧ Post T W w σ (Rep T) (g δ d w.S) Q := by
  obtain ⟨δ, w, e, wd, en, xi, h⟩ := h
  exact ⟨δ, w, e, wd, en, xi, (Post.split h).mono fun v H1 ⟨w1, d1, e1, wd1, st1, r1, h1⟩ => ⟨δ, w1, d1, e1, wd1, en.mono st1.toMon, kp _ _ _ st1 xi, r1, h1⟩⟩
theorem tEv.bindB (kp : Kept Ξ) {g : Env → D → Store → R Bool} {σ : L2.St} {H : Hp} {Q : Bool → Hp → Prop} (h : tEvT T W Ξ (fun δ S => (fa δ S).bind (g δ)) σ H Q) :
    tEv T W Ξ fa σ H fun v H1 => ∃ (δ : Env) (w : Wo) (d : D), w.H = H1 ∧ Wd T w ∧ EnvOk T w δ σ ∧ Ξ w σ ∧ Rep T w d v ∧ Post T W w σ (fun _ (a b : Bool) => a = b) (g δ d w.S) Q := by
  obtain ⟨δ, w, e, wd, en, xi, h⟩ := h
  exact ⟨δ, w, e, wd, en, xi, (Post.split h).mono fun v H1 ⟨w1, d1, e1, wd1, st1, r1, h1⟩ => ⟨δ, w1, d1, e1, wd1, en.mono st1.toMon, kp _ _ _ st1 xi, r1, h1⟩⟩
theorem tEvs.bind (kp : Kept Ξ) {fs : Fs} {g : Env → List D → Store → R D} {σ : L2.St} {H : Hp} {Q : VK} (h : tEv T W Ξ (fun δ S => (fs δ S).bind (g δ)) σ H Q) :
    tEvs T W Ξ fs σ H fun vs H1 => ∃ (δ : Env) (w : Wo) (ds : List D), w.H = H1 ∧ Wd T w ∧ EnvOk T w δ σ ∧ Ξ w σ ∧ Reps T w ds vs ∧ Post T W w σ (Rep T) (g δ ds w.S) Q := by
  obtain ⟨δ, w, e, wd, en, xi, h⟩ := h
  exact ⟨δ, w, e, wd, en, xi, (Post.split h).mono fun v H1 ⟨w1, d1, e1, wd1, st1, r1, h1⟩ => ⟨δ, w1, d1, e1, wd1, en.mono st1.toMon, kp _ _ _ st1 xi, r1, h1⟩⟩
theorem tEvT.bind (kp : Kept Ξ) {ft : Env → Store → R Bool} {g : Env → Bool → Store → R D} {σ : L2.St} {H : Hp} {Q : VK} (h : tEv T W Ξ (fun δ S => (ft δ S).bind (g δ)) σ H Q) :
    tEvT T W Ξ ft σ H fun k H1 => ∃ (δ : Env) (w : Wo), w.H = H1 ∧ Wd T w ∧ EnvOk T w δ σ ∧ Ξ w σ ∧ Post T W w σ (Rep T) (g δ k w.S) Q := by
  obtain ⟨δ, w, e, wd, en, xi, h⟩ := h
  refine ⟨δ, w, e, wd, en, xi, (Post.split (Rl := fun _ (a b : Bool) => a = b) h).mono fun v H1 ⟨w1, d1, e1, wd1, st1, r1, h1⟩ => ?_⟩
  subst r1
  exact ⟨δ, w1, e1, wd1, en.mono st1.toMon, kp _ _ _ st1 xi, h1⟩
theorem tEvT.bindB (kp : Kept Ξ) {ft : Env → Store → R Bool} {g : Env → Bool → Store → R Bool} {σ : L2.St} {H : Hp} {Q : Bool → Hp → Prop} (h : tEvT T W Ξ (fun δ S => (ft δ S).bind (g δ)) σ H Q) :
    tEvT T W Ξ ft σ H fun k H1 => ∃ (δ : Env) (w : Wo), w.H = H1 ∧ Wd T w ∧ EnvOk T w δ σ ∧ Ξ w σ ∧ Post T W w σ (fun _ (a b : Bool) => a = b) (g δ k w.S) Q := by
  obtain ⟨δ, w, e, wd, en, xi, h⟩ := h
  refine ⟨δ, w, e, wd, en, xi, (Post.split (Rl := fun _ (a b : Bool) => a = b) h).mono fun v H1 ⟨w1, d1, e1, wd1, st1, r1, h1⟩ => ?_⟩
  subst r1
  exact ⟨δ, w1, e1, wd1, en.mono st1.toMon, kp _ _ _ st1 xi, h1⟩
/-- a reading is weakened -/
theorem toPE {e : Expr} {t t' : TE} (h : PE X e t) (k : ∀ σ H Q, t' σ H Q → t σ H Q) : PE X e t' := ⟨fun pins s σ H Q I q => h.run pins s σ H Q I (k σ H Q q)⟩
theorem toPT {e : Expr} {t t' : TT} (h : PT X e t) (k : ∀ σ H Q, t' σ H Q → t σ H Q) : PT X e t' := ⟨fun pins s σ H Q I q => h.run pins s σ H Q I (k σ H Q q)⟩
theorem toPW {e : Expr} {t t' : TT} (h : PW X e t) (k : ∀ σ H Q, t' σ H Q → t σ H Q) : PW X e t' := ⟨fun wh pins s σ H Q I q => h.run wh pins s σ H Q I (k σ H Q q)⟩
theorem toPA {e : List Expr} {t t' : TA} (h : PA X e t) (k : ∀ σ H Q, t' σ H Q → t σ H Q) : PA X e t' := ⟨fun p pins s σ H Q I q => h.run p pins s σ H Q I (k σ H Q q)⟩
theorem toPS {e : Stmt} {t t' : TS} (h : PS X e t) (k : ∀ D σ H, t' D σ H → t D σ H) : PS X e t' := ⟨fun pins s σ H D I q => h.run pins s σ H D I (k D σ H q)⟩
theorem toPSs {e : List Stmt} {t t' : TS} (h : PSs X e t) (k : ∀ D σ H, t' D σ H → t D σ H) : PSs X e t' := ⟨fun pins s σ H D I q => h.run pins s σ H D I (k D σ H q)⟩
theorem tEv.imp {σ : L2.St} {H : Hp} {Q Q' : VK} (h : tEv T W Ξ fa σ H Q) (k : ∀ v H, Q v H → Q' v H) : tEv T W Ξ fa σ H Q' := by
  obtain ⟨δ, w, e, wd, en, xi, h⟩ := h
  exact ⟨δ, w, e, wd, en, xi, h.mono k⟩
theorem tEvT.imp {ft : Env → Store → R Bool} {σ : L2.St} {H : Hp} {Q Q' : Bool → Hp → Prop} (h : tEvT T W Ξ ft σ H Q) (k : ∀ v H, Q v H → Q' v H) : tEvT T W Ξ ft σ H Q' := by
  obtain ⟨δ, w, e, wd, en, xi, h⟩ := h
  exact ⟨δ, w, e, wd, en, xi, h.mono k⟩
theorem tEvs.imp {fs : Fs} {σ : L2.St} {H : Hp} {Q Q' : List V → Hp → Prop} (h : tEvs T W Ξ fs σ H Q) (k : ∀ v H, Q v H → Q' v H) : tEvs T W Ξ fs σ H Q' := by
  obtain ⟨δ, w, e, wd, en, xi, h⟩ := h
  exact ⟨δ, w, e, wd, en, xi, h.mono k⟩

/-- two parts, then what follows -/
theorem tEv.bind2 (kp : Kept Ξ) {α β : Type} {Rl : Wo → α → β → Prop} {g : D → D → Store → R α} {σ : L2.St} {δ : Env} {w : Wo} {Q : β → Hp → Prop} (wd : Wd T w) (en : EnvOk T w δ σ) (xi : Ξ w σ)
    (h : Post T W w σ Rl ((fa δ w.S).bind fun x S1 => (fb δ S1).bind fun y S2 => g x y S2) Q) :
    tEv T W Ξ fa σ w.H fun v H1 => tEv T W Ξ fb σ H1 fun u H2 => ∃ (w2 : Wo) (x y : D), w2.H = H2 ∧ Wd T w2 ∧ EnvOk T w2 δ σ ∧ Ξ w2 σ ∧ Rep T w2 x v ∧ Rep T w2 y u ∧ Post T W w2 σ Rl (g x y w2.S) Q := by
  refine ⟨δ, w, rfl, wd, en, xi, (Post.split h).mono fun v H1 ⟨w1, d1, e1, wd1, st1, r1, h1⟩ => ?_⟩
  subst e1
  refine ⟨δ, w1, rfl, wd1, en.mono st1.toMon, kp _ _ _ st1 xi, (Post.split h1).mono fun u H2 ⟨w2, d2, e2, wd2, st2, r2, h2⟩ => ?_⟩
  have st := st1.trans st2
  exact ⟨w2, d1, d2, e2, wd2, en.mono st.toMon, kp _ _ _ st xi, r1.mono st2.toMon, r2, h2⟩
/-- one part, then what follows -/
theorem tEv.bind1 (kp : Kept Ξ) {α β : Type} {Rl : Wo → α → β → Prop} {g : D → Store → R α} {σ : L2.St} {δ : Env} {w : Wo} {Q : β → Hp → Prop} (wd : Wd T w) (en : EnvOk T w δ σ) (xi : Ξ w σ)
    (h : Post T W w σ Rl ((fa δ w.S).bind g) Q) :
    tEv T W Ξ fa σ w.H fun v H1 => ∃ (w1 : Wo) (x : D), w1.H = H1 ∧ Wd T w1 ∧ EnvOk T w1 δ σ ∧ Ξ w1 σ ∧ Rep T w1 x v ∧ Post T W w1 σ Rl (g x w1.S) Q :=
  ⟨δ, w, rfl, wd, en, xi, (Post.split h).mono fun v H1 ⟨w1, d1, e1, wd1, st1, r1, h1⟩ => ⟨w1, d1, e1, wd1, en.mono st1.toMon, kp _ _ _ st1 xi, r1, h1⟩⟩
theorem tEvT.bind1 (kp : Kept Ξ) {α β : Type} {Rl : Wo → α → β → Prop} {ft : Env → Store → R Bool} {g : Bool → Store → R α} {σ : L2.St} {δ : Env} {w : Wo} {Q : β → Hp → Prop} (wd : Wd T w) (en : EnvOk T w δ σ) (xi : Ξ w σ)
    (h : Post T W w σ Rl ((ft δ w.S).bind g) Q) :
    tEvT T W Ξ ft σ w.H fun k H1 => ∃ (w1 : Wo), w1.H = H1 ∧ Wd T w1 ∧ EnvOk T w1 δ σ ∧ Ξ w1 σ ∧ Post T W w1 σ Rl (g k w1.S) Q := by
  refine ⟨δ, w, rfl, wd, en, xi, (Post.split (Rl := fun _ (a b : Bool) => a = b) h).mono fun v H1 ⟨w1, d1, e1, wd1, st1, r1, h1⟩ => ?_⟩
  subst r1
  exact ⟨w1, e1, wd1, en.mono st1.toMon, kp _ _ _ st1 xi, h1⟩
theorem tEvs.bind1 (kp : Kept Ξ) {α β : Type} {Rl : Wo → α → β → Prop} {fs : Fs} {g : List D → Store → R α} {σ : L2.St} {δ : Env} {w : Wo} {Q : β → Hp → Prop} (wd : Wd T w) (en : EnvOk T w δ σ) (xi : Ξ w σ)
    (h : Post T W w σ Rl ((fs δ w.S).bind g) Q) :
    tEvs T W Ξ fs σ w.H fun vs H1 => ∃ (w1 : Wo) (xs : List D), w1.H = H1 ∧ Wd T w1 ∧ EnvOk T w1 δ σ ∧ Ξ w1 σ ∧ Reps T w1 xs vs ∧ Post T W w1 σ Rl (g xs w1.S) Q :=
  ⟨δ, w, rfl, wd, en, xi, (Post.split h).mono fun v H1 ⟨w1, d1, e1, wd1, st1, r1, h1⟩ => ⟨w1, d1, e1, wd1, en.mono st1.toMon, kp _ _ _ st1 xi, r1, h1⟩⟩
theorem Post.hereB {w : Wo} {σ : L2.St} {k : Bool} (wd : Wd T w) {Q : Bool → Hp → Prop} (h : Post T W w σ (fun _ (a b : Bool) => a = b) (.ok k w.S) Q) : Q k w.H := h w k rfl wd (Step.refl w) rfl

theorem ok_var {i : Nat} {x : Str} (hN : X.N[i]? = some x) (hv : Vis X.env.scope x) (hd : (x == ("__debug__" : Str)) = false) (hcd : (x == ("__classdict__" : Str)) = false) : PE X (.Name x pos) (tEv T W Ξ (ev G (.var i))) := by
  refine toPE (pe_var hN hv hd hcd) fun σ H Q h => ?_
  obtain ⟨δ, w, rfl, wd, en, xi, h⟩ := h
  change Post T W w σ (Rep T) (match δ[i]? with | some (some d) => .ok d w.S | _ => .stuck) Q at h
  split at h
  · rename_i d e
    obtain ⟨v, e1, r⟩ := en.at_ i d e
    exact ⟨v, e1, Post.here wd r h⟩
  · exact h.elim
theorem ok_con {e : Expr} {d : D} {v : V} (he : PE X e (tC v)) (r : ∀ w, Rep T w d v) : PE X e (tEv T W Ξ (ev G (.con d))) := by
  refine toPE he fun σ H Q h => ?_
  obtain ⟨δ, w, rfl, wd, en, xi, h⟩ := h
  exact Post.here wd (r w) h
theorem ok_glob {e : Expr} {x : Nat} {v : V} (he : PE X e (tC v)) (r : ∀ w, Rep T w (G.gl x) v) : PE X e (tEv T W Ξ (ev G (.glob x))) := by
  refine toPE he fun σ H Q h => ?_
  obtain ⟨δ, w, rfl, wd, en, xi, h⟩ := h
  exact Post.here wd (r w) h
theorem ok_bin (hK : X.K = T.K) (kp : Kept Ξ) {o : Op2} {x y : C} (ha : PE X a (tEv T W Ξ (ev G x))) (hb : PE X b (tEv T W Ξ (ev G y))) : PE X (.BinOp a (opOf o) b pos) (tEv T W Ξ (ev G (.bin o x y))) := by
  refine toPE (pe_op (op_bin hK o) ha hb) fun σ H Q h => ?_
  obtain ⟨δ, w, rfl, wd, en, xi, h⟩ := h
  exact (tEv.bind2 kp wd en xi h).imp fun v H1 h1 => h1.imp fun u H2 ⟨w2, d, e, q1, q2, _, _, q3, q4, q5⟩ => ⟨W, σ, d, e, w2, q1, q2, q3, q4, q5⟩
theorem ok_neg (kp : Kept Ξ) {x : C} (ha : PE X a (tEv T W Ξ (ev G x))) : PE X (.UnaryOp .USub a pos) (tEv T W Ξ (ev G (.neg x))) := by
  refine toPE (pe_un un_neg ha) fun σ H Q h => ?_
  obtain ⟨δ, w, rfl, wd, en, xi, h⟩ := h
  refine (tEv.bind1 kp wd en xi h).imp fun v H1 ⟨w1, d, e1, wd1, _, _, r, q⟩ => ?_
  subst e1
  cases r <;> first | (exact q.elim) | (exact ⟨_, rfl, Post.here wd1 (.int _) q⟩)
theorem ok_not (hK : X.K = T.K) (kp : Kept Ξ) {x : C} (ha : PE X a (tEv T W Ξ (ev G x))) : PE X (.UnaryOp .Not a pos) (tEv T W Ξ (ev G (.not x))) := by
  refine toPE (pe_notT ha) fun σ H Q h => ?_
  obtain ⟨δ, w, rfl, wd, en, xi, h⟩ := h
  refine (tEv.bind1 kp wd en xi h).imp fun v H1 ⟨w1, d, e1, wd1, _, _, r, q⟩ => ?_
  subst e1
  split at q
  · rename_i k e
    exact ⟨k, tru_v hK wd1 r e, Post.here wd1 (.bl _) q⟩
  · exact q.elim
theorem ok_and (hK : X.K = T.K) (kp : Kept Ξ) {x y : C} {rest : List Expr} (ha : PE X a (tEv T W Ξ (ev G x))) (hb : PE X (.BoolOp .And (b :: rest) pos) (tEv T W Ξ (ev G y))) : PE X (.BoolOp .And (a :: b :: rest) pos) (tEv T W Ξ (ev G (.and x y))) := by
  refine toPE (pe_andT ha hb) fun σ H Q h => ?_
  obtain ⟨δ, w, rfl, wd, en, xi, h⟩ := h
  refine (tEv.bind1 kp wd en xi h).imp fun v H1 ⟨w1, d, e1, wd1, en1, xi1, r, q⟩ => ?_
  subst e1
  split at q
  · rename_i e
    exact ⟨true, tru_v hK wd1 r e, iteT ⟨δ, w1, rfl, wd1, en1, xi1, q⟩⟩
  · rename_i e
    exact ⟨false, tru_v hK wd1 r e, iteF (Post.here wd1 r q)⟩
  · exact q.elim
theorem ok_or (hK : X.K = T.K) (kp : Kept Ξ) {x y : C} {rest : List Expr} (ha : PE X a (tEv T W Ξ (ev G x))) (hb : PE X (.BoolOp .Or (b :: rest) pos) (tEv T W Ξ (ev G y))) : PE X (.BoolOp .Or (a :: b :: rest) pos) (tEv T W Ξ (ev G (.or x y))) := by
  refine toPE (pe_orT ha hb) fun σ H Q h => ?_
  obtain ⟨δ, w, rfl, wd, en, xi, h⟩ := h
  refine (tEv.bind1 kp wd en xi h).imp fun v H1 ⟨w1, d, e1, wd1, en1, xi1, r, q⟩ => ?_
  subst e1
  split at q
  · rename_i e
    exact ⟨true, tru_v hK wd1 r e, iteT (Post.here wd1 r q)⟩
  · rename_i e
    exact ⟨false, tru_v hK wd1 r e, iteF ⟨δ, w1, rfl, wd1, en1, xi1, q⟩⟩
  · exact q.elim
theorem ok_ite (kp : Kept Ξ) {x y z : C} (hc : PT X c (tEvT T W Ξ (evT G x))) (ha : PE X a (tEv T W Ξ (ev G y))) (hb : PE X b (tEv T W Ξ (ev G z))) : PE X (.IfExp c a b pos) (tEv T W Ξ (ev G (.ite x y z))) := by
  refine toPE (pe_ifExp hc ha hb) fun σ H Q h => ?_
  obtain ⟨δ, w, rfl, wd, en, xi, h⟩ := h
  refine (tEvT.bind1 kp wd en xi h).imp fun k H1 ⟨w1, e1, wd1, en1, xi1, q⟩ => ?_
  subst e1
  cases k with
  | true => exact iteT ⟨δ, w1, rfl, wd1, en1, xi1, q⟩
  | false => exact iteF ⟨δ, w1, rfl, wd1, en1, xi1, q⟩
theorem ok_cmp (hK : X.K = T.K) (hu : X.A.units + 66 < cLine) (kp : Kept Ξ) {o : CO} {x y : C} (ha : PE X a (tEv T W Ξ (ev G x))) (hb : PE X b (tEv T W Ξ (ev G y))) (hm : behindInMarks (cmpOf o) b = false) :
    PE X (.Compare a [cmpOf o] [b] pos) (tEv T W Ξ (ev G (.cmp o x y))) := by
  refine toPE (pe_cmpR (op_cmp hK hu o) ha hb hm) fun σ H Q h => ?_
  obtain ⟨δ, w, rfl, wd, en, xi, h⟩ := h
  refine (tEv.bind2 kp wd en xi h).imp fun v H1 h1 => h1.imp fun u H2 ⟨w2, d, e, q1, q2, _, _, q3, q4, q5⟩ => ?_
  subst q1
  unfold optD at q5
  split at q5
  · rename_i k ek
    exact ⟨d, e, w2, k, rfl, q2, q3, q4, ek, Post.here q2 (.bl _) q5⟩
  · exact q5.elim
theorem ok_tcmp (hK : X.K = T.K) (hu : X.A.units + 66 < cLine) (kp : Kept Ξ) {o : CO} {x y : C} (ha : PE X a (tEv T W Ξ (ev G x))) (hb : PE X b (tEv T W Ξ (ev G y))) (hm : behindInMarks (cmpOf o) b = false) :
    PT X (.Compare a [cmpOf o] [b] pos) (tEvT T W Ξ (evT G (.tcmp o x y))) := by
  refine toPT (pt_cmpR (op_cmp hK hu o) ha hb hm) fun σ H Q h => ?_
  obtain ⟨δ, w, rfl, wd, en, xi, h⟩ := h
  refine (tEv.bind2 kp wd en xi h).imp fun v H1 h1 => h1.imp fun u H2 ⟨w2, d, e, q1, q2, _, _, q3, q4, q5⟩ => ?_
  subst q1
  unfold optB at q5
  split at q5
  · rename_i k ek
    exact ⟨d, e, w2, k, rfl, q2, q3, q4, ek, k, rfl, Post.hereB q2 q5⟩
  · exact q5.elim
theorem ok_chain (hK : X.K = T.K) (hu : X.A.units + 66 < cLine) (kp : Kept Ξ) {o p : CO} {x y z : C} (ha : PE X a (tEv T W Ξ (ev G x))) (hb : PE X b (tEv T W Ξ (ev G y))) (hc : PE X c (tEv T W Ξ (ev G z))) (hm : lastMarks [cmpOf o, cmpOf p] [b, c] = false) :
    PE X (.Compare a [cmpOf o, cmpOf p] [b, c] pos) (tEv T W Ξ (ev G (.chain o p x y z))) := by
  refine toPE (pe_chain (op_cmp hK hu o) (op_cmp hK hu p) ha hb hc hm) fun σ H Q h => ?_
  obtain ⟨δ, w, rfl, wd, en, xi, h⟩ := h
  refine (tEv.bind2 kp wd en xi h).imp fun v H1 h1 => h1.imp fun u H2 ⟨w2, d, e, q1, q2, en2, xi2, q3, q4, q5⟩ => ?_
  subst q1
  split at q5
  · rename_i ek
    refine ⟨d, e, w2, true, rfl, q2, q3, q4, ek, true, rfl, iteT ?_⟩
    refine ⟨δ, w2, rfl, q2, en2, xi2, (Post.split q5).mono fun v3 H3 ⟨w3, d3, e3, wd3, st3, r3, h3⟩ => ?_⟩
    subst e3
    unfold optD at h3
    split at h3
    · rename_i k ek
      exact ⟨e, d3, w3, k, rfl, wd3, q4.mono st3.toMon, r3, ek, Post.here wd3 (.bl _) h3⟩
    · exact h3.elim
  · rename_i ek
    exact ⟨d, e, w2, false, rfl, q2, q3, q4, ek, false, rfl, iteF (Post.here q2 (.bl _) q5)⟩
  · exact q5.elim
theorem ok_tchain (hK : X.K = T.K) (hu : X.A.units + 66 < cLine) (kp : Kept Ξ) {o p : CO} {x y z : C} (ha : PE X a (tEv T W Ξ (ev G x))) (hb : PE X b (tEv T W Ξ (ev G y))) (hc : PE X c (tEv T W Ξ (ev G z))) (hm : lastMarks [cmpOf o, cmpOf p] [b, c] = false) :
    PT X (.Compare a [cmpOf o, cmpOf p] [b, c] pos) (tEvT T W Ξ (evT G (.tchain o p x y z))) := by
  refine toPT (pt_chain (op_cmp hK hu o) (op_cmp hK hu p) ha hb hc hm) fun σ H Q h => ?_
  obtain ⟨δ, w, rfl, wd, en, xi, h⟩ := h
  refine (tEv.bind2 kp wd en xi h).imp fun v H1 h1 => h1.imp fun u H2 ⟨w2, d, e, q1, q2, en2, xi2, q3, q4, q5⟩ => ?_
  subst q1
  split at q5
  · rename_i ek
    refine ⟨d, e, w2, true, rfl, q2, q3, q4, ek, true, rfl, iteT ?_⟩
    refine ⟨δ, w2, rfl, q2, en2, xi2, (Post.split q5).mono fun v3 H3 ⟨w3, d3, e3, wd3, st3, r3, h3⟩ => ?_⟩
    subst e3
    unfold optB at h3
    split at h3
    · rename_i k ek
      exact ⟨e, d3, w3, k, rfl, wd3, q4.mono st3.toMon, r3, ek, k, rfl, Post.hereB wd3 h3⟩
    · exact h3.elim
  · rename_i ek
    exact ⟨d, e, w2, false, rfl, q2, q3, q4, ek, false, rfl, iteF ⟨false, rfl, Post.hereB q2 q5⟩⟩
  · exact q5.elim
/-- a < b < c < d -/
theorem ok_tch3 (hK : X.K = T.K) (hu : X.A.units + 66 < cLine) (kp : Kept Ξ) {o p q : CO} {x y z u : C} {e : Expr} (ha : PE X a (tEv T W Ξ (ev G x))) (hb : PE X b (tEv T W Ξ (ev G y))) (hc : PE X c (tEv T W Ξ (ev G z))) (he : PE X e (tEv T W Ξ (ev G u))) (hm : lastMarks [cmpOf o, cmpOf p, cmpOf q] [b, c, e] = false) :
    PT X (.Compare a [cmpOf o, cmpOf p, cmpOf q] [b, c, e] pos) (tEvT T W Ξ (evT G (.tch3 o p q x y z u))) := by
  refine ⟨fun pins s σ H Q I h => ?_⟩
  obtain ⟨δ, w, rfl, wd, en, xi, h⟩ := h
  have h1 := tEv.bind2 kp wd en xi h
  refine isTrue_chain (thn (ha.run pins s σ w.H _ I h1) fun v s1 ⟨x1, H1, I1, r1, q1⟩ => test_link (thn (hb.run pins s1 σ H1 _ I1 q1) fun u2 s2 ⟨y1, H2, I2, r2, q2⟩ => ?_)) hm
  obtain ⟨w2, d, f, rfl, wd2, en2, xi2, rd, rf, q5⟩ := q2
  cases ek : cmpD o d f w2.S with
  | none => rw [ek] at q5; exact q5.elim
  | some k =>
    rw [ek] at q5
    refine thn (op_cmp hK hu o pins s2 σ w2.H x1 y1 v u2 (fun z1 H3 => z1 = .bl k ∧ H3 = w2.H) I2 r1 r2 ⟨d, f, w2, k, rfl, wd2, rd, rf, ek, rfl, rfl⟩) fun d3 s3 ⟨z1, H3, I3, r3, ez, eH⟩ => ?_
    subst ez eH
    cases r3
    refine wpAny_truthy_bool ?_
    cases k with
    | false => exact ite_ff ⟨_, I3, Post.hereB wd2 q5⟩
    | true =>
      refine ite_tt ?_
      have h3 : tEv T W Ξ (ev G z) σ w2.H (fun v3 H3 => ∃ (w3 : Wo) (d3 : D), w3.H = H3 ∧ Wd T w3 ∧ Step w2 w3 ∧ Rep T w3 d3 v3 ∧ Post T W w3 σ (fun _ (a b : Bool) => a = b) (match cmpD p f d3 w3.S with
        | some true => (ev G u δ w3.S).bind fun u S4 => optB (cmpD q d3 u S4) S4
        | some false => .ok false w3.S
        | none => .stuck) Q) := ⟨δ, w2, rfl, wd2, en2, xi2, Post.split q5⟩
      refine test_link (thn (hc.run pins s3 σ w2.H _ I3 h3) fun u4 s4 ⟨z4, H4, I4, r4, q4⟩ => ?_)
      obtain ⟨w4, d4, rfl, wd4, st4, rd4, q6⟩ := q4
      have rf4 := rf.mono st4.toMon
      cases ek2 : cmpD p f d4 w4.S with
      | none => rw [ek2] at q6; exact q6.elim
      | some k2 =>
        rw [ek2] at q6
        refine thn (op_cmp hK hu p pins s4 σ w4.H y1 z4 u2 u4 (fun z1 H3 => z1 = .bl k2 ∧ H3 = w4.H) I4 r2 r4 ⟨f, d4, w4, k2, rfl, wd4, rf4, rd4, ek2, rfl, rfl⟩) fun d5 s5 ⟨z5, H5, I5, r5, ez, eH⟩ => ?_
        subst ez eH
        cases r5
        refine wpAny_truthy_bool ?_
        cases k2 with
        | false => exact ite_ff ⟨_, I5, Post.hereB wd4 q6⟩
        | true =>
          refine ite_tt ?_
          have h5 : tEv T W Ξ (ev G u) σ w4.H (fun v3 H3 => ∃ (w3 : Wo) (d3 : D), w3.H = H3 ∧ Wd T w3 ∧ Step w4 w3 ∧ Rep T w3 d3 v3 ∧ Post T W w3 σ (fun _ (a b : Bool) => a = b) (optB (cmpD q d4 d3 w3.S) w3.S) Q) := ⟨δ, w4, rfl, wd4, en2.mono st4.toMon, kp _ _ _ st4 xi2, Post.split q6⟩
          refine test_last (thn (he.run pins s5 σ w4.H _ I5 h5) fun u6 s6 ⟨z6, H6, I6, r6, q7⟩ => ?_)
          obtain ⟨w6, d6, rfl, wd6, st6, rd6, q8⟩ := q7
          unfold optB at q8
          cases ek3 : cmpD q d4 d6 w6.S with
          | none => rw [ek3] at q8; exact q8.elim
          | some k3 =>
            rw [ek3] at q8
            refine thn (op_cmp hK hu q pins s6 σ w6.H z4 z6 u4 u6 (fun z1 H3 => z1 = .bl k3 ∧ H3 = w6.H) I6 r4 r6 ⟨d4, d6, w6, k3, rfl, wd6, rd4.mono st6.toMon, rd6, ek3, rfl, rfl⟩) fun d7 s7 ⟨z7, H7, I7, r7, ez, eH⟩ => ?_
            subst ez eH
            cases r7
            exact wpAny_truthy_bool ⟨_, I7, Post.hereB wd6 q8⟩
/-! tests -/
theorem ok_tst (hK : X.K = T.K) (kp : Kept Ξ) {x : C} (ha : PE X a (tEv T W Ξ (ev G x))) (he : ∀ whole, isTrue a X.env whole = (do let v ← whole; standAt a.pos; holding [v] (truthy v))) : PT X a (tEvT T W Ξ (evT G (.tst x))) := by
  refine toPT (pt_truth ha he) fun σ H Q h => ?_
  obtain ⟨δ, w, rfl, wd, en, xi, h⟩ := h
  refine (tEv.bind1 kp wd en xi h).imp fun v H1 ⟨w1, d, e1, wd1, _, _, r, q⟩ => ?_
  subst e1
  unfold optB at q
  split at q
  · rename_i k ek
    exact ⟨k, tru_v hK wd1 r ek, Post.hereB wd1 q⟩
  · exact q.elim
theorem ok_tnot (kp : Kept Ξ) {x : C} (ha : PT X a (tEvT T W Ξ (evT G x))) : PT X (.UnaryOp .Not a pos) (tEvT T W Ξ (evT G (.not x))) := by
  refine toPT (pt_not ha) fun σ H Q h => ?_
  obtain ⟨δ, w, rfl, wd, en, xi, h⟩ := h
  refine (tEvT.bind1 kp wd en xi h).imp fun k H1 ⟨w1, e1, wd1, _, _, q⟩ => ?_
  subst e1
  exact Post.hereB wd1 q
theorem ok_tand (kp : Kept Ξ) {x y : C} {rest : List Expr} (ha : PT X a (tEvT T W Ξ (evT G x))) (hb : PW X (.BoolOp .And (b :: rest) pos) (tEvT T W Ξ (evT G y))) : PW X (.BoolOp .And (a :: b :: rest) pos) (tEvT T W Ξ (evT G (.and x y))) := by
  refine toPW (pw_and ha hb) fun σ H Q h => ?_
  obtain ⟨δ, w, rfl, wd, en, xi, h⟩ := h
  refine (tEvT.bind1 kp wd en xi h).imp fun k H1 ⟨w1, e1, wd1, en1, xi1, q⟩ => ?_
  subst e1
  cases k with
  | true => exact iteT ⟨δ, w1, rfl, wd1, en1, xi1, q⟩
  | false => exact iteF (Post.hereB wd1 q)
theorem ok_tor (kp : Kept Ξ) {x y : C} {rest : List Expr} (ha : PT X a (tEvT T W Ξ (evT G x))) (hb : PW X (.BoolOp .Or (b :: rest) pos) (tEvT T W Ξ (evT G y))) : PW X (.BoolOp .Or (a :: b :: rest) pos) (tEvT T W Ξ (evT G (.or x y))) := by
  refine toPW (pw_or ha hb) fun σ H Q h => ?_
  obtain ⟨δ, w, rfl, wd, en, xi, h⟩ := h
  refine (tEvT.bind1 kp wd en xi h).imp fun k H1 ⟨w1, e1, wd1, en1, xi1, q⟩ => ?_
  subst e1
  cases k with
  | true => exact iteT (Post.hereB wd1 q)
  | false => exact iteF ⟨δ, w1, rfl, wd1, en1, xi1, q⟩
/-! arguments, displays -/
theorem ok_nil : PA X [] (tEvs T W Ξ (evs G .nil)) := by
  refine toPA pa_nil fun σ H Q h => ?_
  obtain ⟨δ, w, rfl, wd, en, xi, h⟩ := h
  exact h w [] rfl wd (Step.refl w) .nil
def plainE : Expr → Bool
  | .Starred _ _ => false
  | _ => true
theorem star_plain {e : Expr} {es : List Expr} {env : PySem.Env} (h : plainE e = true) : starEach (e :: es) env = (false, eval e env) :: starEach es env := by
  cases e <;> first | rfl | cases h
theorem ok_cons (kp : Kept Ξ) {x y : C} {es : List Expr} (ha : PE X a (tEv T W Ξ (ev G x))) (hb : PA X es (tEvs T W Ξ (evs G y))) (hs : plainE a = true) (hx : isStar x = false) : PA X (a :: es) (tEvs T W Ξ (evs G (.cons x y))) := by
  refine toPA (pa_cons ha hb (star_plain hs)) fun σ H Q h => ?_
  obtain ⟨δ, w, rfl, wd, en, xi, h⟩ := h
  have hev : evs G (.cons x y) δ w.S = (ev G x δ w.S).bind fun x S1 => (evs G y δ S1).bind fun xs S2 => .ok (x :: xs) S2 := by
    cases x <;> first | rfl | cases hx
  rw [hev] at h
  refine ⟨δ, w, rfl, wd, en, xi, (Post.split h).mono fun v H1 ⟨w1, d1, e1, wd1, st1, r1, h1⟩ => ?_⟩
  subst e1
  refine ⟨δ, w1, rfl, wd1, en.mono st1.toMon, kp _ _ _ st1 xi, (Post.split h1).mono fun vs H2 ⟨w2, ds, e2, wd2, st2, r2, h2⟩ => ?_⟩
  subst e2
  exact h2 w2 _ rfl wd2 (Step.refl w2) (.cons (r1.mono st2.toMon) r2)
/-- *e, .. -/
theorem ok_star (hK : X.K = T.K) (kp : Kept Ξ) {x y : C} {es : List Expr} {p : Pos} (ha : PE X a (tEv T W Ξ (ev G x))) (hb : PA X es (tEvs T W Ξ (evs G y))) : PA X (.Starred a p :: es) (tEvs T W Ξ (evs G (.cons (.star x) y))) := by
  refine toPA (StX.pa_star ha hb rfl) fun σ H Q h => ?_
  obtain ⟨δ, w, rfl, wd, en, xi, h⟩ := h
  change Post T W w σ (Reps T) ((ev G x δ w.S).bind fun x S1 => match seqD S1 x with
    | some xs => (evs G y δ S1).bind fun ys S2 => .ok (xs ++ ys) S2
    | none => .stuck) Q at h
  refine ⟨δ, w, rfl, wd, en, xi, (Post.split h).mono fun v H1 ⟨w1, d1, e1, wd1, st1, r1, h1⟩ => ?_⟩
  subst e1
  split at h1
  · rename_i xs hxs
    obtain ⟨q, us, rfl, hq, rs⟩ : ∃ q us, v = .ref q ∧ (SqT X.K w1.H q us ∨ SqL X.K w1.H q us) ∧ Reps T w1 xs us := by
      unfold seqD at hxs
      split at hxs
      · rename_i ds ed
        cases hxs
        obtain ⟨q, us, e1, e2, e3⟩ := deref_lst wd1 r1 ed
        exact ⟨q, us, e1, .inr (SqL.of e2), e3⟩
      · rename_i ds ed
        cases hxs
        obtain ⟨q, us, e1, e2, _, e3⟩ := deref_tup wd1 r1 ed
        exact ⟨q, us, e1, .inl (by rw [hK]; exact e2), e3⟩
      · cases hxs
    refine ⟨q, us, rfl, hq, δ, w1, rfl, wd1, en.mono st1.toMon, kp _ _ _ st1 xi, (Post.split h1).mono fun vs H2 ⟨w2, ds, e2, wd2, st2, r2, h2⟩ => ?_⟩
    subst e2
    exact h2 w2 _ rfl wd2 (Step.refl w2) ((rs.mono st2.toMon).append r2)
  · exact h1.elim
theorem ok_tup (kp : Kept Ξ) {x : C} {es : List Expr} {k : Nat} (ha : PA X es (tEvs T W Ξ (evs G x))) : PE X (.Tuple es k pos) (tEv T W Ξ (ev G (.tup x))) := by
  refine toPE (pe_tup ha) fun σ H Q h => ?_
  obtain ⟨δ, w, rfl, wd, en, xi, h⟩ := h
  refine (tEvs.bind1 kp wd en xi h).imp fun vs H1 ⟨w1, ds, e1, wd1, _, _, rs, q⟩ => ?_
  subst e1
  split at q
  · rename_i f
    exact ⟨by rw [← rs.len]; exact fits_le f, newT_ok wd1 rs q⟩
  · exact q.elim
theorem ok_lst (kp : Kept Ξ) {x : C} {m : Bool} {es : List Expr} (ha : PA X es (tEvs T W Ξ (evs G x))) : PE X (.List es pos) (tEv T W Ξ (ev G (.lst m x))) := by
  refine toPE (pe_lst ha) fun σ H Q h => ?_
  obtain ⟨δ, w, rfl, wd, en, xi, h⟩ := h
  refine (tEvs.bind1 kp wd en xi h).imp fun vs H1 ⟨w1, ds, e1, wd1, _, _, rs, q⟩ => ?_
  subst e1
  exact newL_ok wd1 rs q
theorem ok_bi (kp : Kept Ξ) {x : C} {bb : Bi} {e : Expr} {t : TA → TE} {es : List Expr} (hb : ∀ t, PA X es t → PE X e (tCB (rBi T bb) t)) (ha : PA X es (tEvs T W Ξ (evs G x))) : PE X e (tEv T W Ξ (ev G (.bi bb x))) := by
  refine toPE (hb _ ha) fun σ H Q h => ?_
  obtain ⟨δ, w, rfl, wd, en, xi, h⟩ := h
  exact (tEvs.bind1 kp wd en xi h).imp fun vs H1 ⟨w1, ds, e1, wd1, _, _, rs, q⟩ => ⟨W, σ, ds, w1, e1, wd1, rs, q⟩
theorem ok_idx (hK : X.K = T.K) (hu : X.A.units + 66 < cLine) (kp : Kept Ξ) {x y : C} (ha : PE X a (tEv T W Ξ (ev G x))) (hb : PE X b (tEv T W Ξ (ev G y))) (hs : PlainIx b) : PE X (.Subscript a b pos) (tEv T W Ξ (ev G (.idx x y))) := by
  refine toPE (pe_ix (ix_idx hK hu) ha hb hs) fun σ H Q h => ?_
  obtain ⟨δ, w, rfl, wd, en, xi, h⟩ := h
  exact (tEv.bind2 kp wd en xi h).imp fun v H1 h1 => h1.imp fun u H2 ⟨w2, d, e, q1, q2, _, _, q3, q4, q5⟩ => ⟨W, σ, d, e, w2, q1, q2, q3, q4, q5⟩
end
end PV

namespace PV
open PySem L2 PyProof.Rows

section
variable {X : Cx} {T : Tb} {W : WX} {Ξ : Xi} {G : Gv} {a b c : Expr} {pos p2 : Pos}
/-! slices -/
def tEvO (T : Tb) (W : WX) (Ξ : Xi) (f : Env → Store → R (Option Int)) : TO := fun σ H Q => ∃ (δ : Env) (w : Wo), w.H = H ∧ Wd T w ∧ EnvOk T w δ σ ∧ Ξ w σ ∧ Post T W w σ (fun _ (a b : Option Int) => a = b) (f δ w.S) Q
theorem ok_onone : PO X none (tEvO T W Ξ (evO G .nil)) := ⟨fun pins s σ H Q I h => po_none.run pins s σ H Q I (by
  obtain ⟨δ, w, rfl, wd, en, xi, h⟩ := h
  exact h w none rfl wd (Step.refl w) rfl)⟩
theorem ok_osome (kp : Kept Ξ) {x y : C} (ha : PE X a (tEv T W Ξ (ev G x))) : PO X (some a) (tEvO T W Ξ (evO G (.cons x y))) := ⟨fun pins s σ H Q I h => (po_some ha).run pins s σ H Q I (by
  obtain ⟨δ, w, rfl, wd, en, xi, h⟩ := h
  refine (tEv.bind1 kp wd en xi h).imp fun v H1 ⟨w1, d, e1, wd1, _, _, r, q⟩ => ?_
  subst e1
  cases r <;> first | (exact q.elim) | (exact ⟨_, rfl, q w1 _ rfl wd1 (Step.refl w1) rfl⟩))⟩
theorem ok_sl (hK : X.K = T.K) (kp : Kept Ξ) {x y z : C} {m : Bool} {lo hi : Option Expr} (ha : PE X a (tEv T W Ξ (ev G x))) (hl : PO X lo (tEvO T W Ξ (evO G y))) (hh : PO X hi (tEvO T W Ξ (evO G z))) :
    PE X (.Subscript a (.Slice lo hi none p2) pos) (tEv T W Ξ (ev G (.sl m x y z))) := by
  refine toPE (pe_slice (sl_sl2 hK m) ha hl hh) fun σ H Q h => ?_
  obtain ⟨δ, w, rfl, wd, en, xi, h⟩ := h
  refine ⟨δ, w, rfl, wd, en, xi, (Post.split h).mono fun v H1 ⟨w1, d1, e1, wd1, st1, r1, h1⟩ => ?_⟩
  subst e1
  refine ⟨δ, w1, rfl, wd1, en.mono st1.toMon, kp _ _ _ st1 xi, (Post.split (Rl := fun _ (a b : Option Int) => a = b) h1).mono fun l H2 ⟨w2, l', e2, wd2, st2, r2, h2⟩ => ?_⟩
  subst e2 r2
  have st := st1.trans st2
  refine ⟨δ, w2, rfl, wd2, en.mono st.toMon, kp _ _ _ st xi, (Post.split (Rl := fun _ (a b : Option Int) => a = b) h2).mono fun u H3 ⟨w3, u', e3, wd3, st3, r3, h3⟩ => ?_⟩
  subst e3 r3
  exact ⟨W, σ, d1, w3, rfl, wd3, r1.mono (st2.trans st3).toMon, h3⟩
/-! isinstance -/
def tyName : Ty → String
  | .int => "int" | .bool => "bool" | .str => "str" | .list => "list" | .tuple => "tuple" | .dict => "dict" | .own _ => ""
def dName : D → String
  | .non => "NoneType" | .bl _ => "bool" | .int _ => "int" | .str _ => "str" | .tup _ => "tuple" | .lst _ => "list" | .dct _ _ => "dict" | _ => ""
theorem ty_dct {w : Wo} (wd : Wd T w) {d : D} {v : V} {ks vs : List D} (r : Rep T w d v) (e : deref w.S d = .dct ks vs) : ∃ a kvs, v = .ref a ∧ w.H a = some (.dK kvs) := by
  cases r with
  | dct h1 _ _ _ => exact ⟨_, _, rfl, h1⟩
  | @ref n a hn =>
    unfold deref at e
    dsimp only at e
    obtain ⟨c, hc⟩ := wd.cellAt hn
    rw [hc] at e
    have k := wd.cell n c a hc hn
    cases c with
    | dct _ _ =>
      obtain ⟨kvs, us', h1, h3, h4⟩ := k
      exact ⟨_, _, rfl, h1⟩
    | lst _ => cases e
    | dtt _ _ => cases e
    | ins _ _ _ => cases e
    | dead => cases e
  | _ => cases e
theorem isi_ok {w : Wo} (wd : Wd T w) {d : D} {v : V} (r : Rep T w d v) {t : Ty} {k : Bool} (h : isiD w.S d t = some k) (ht : ∀ c, t ≠ .own c) (K : PySem.W.Frag) (hK : K = T.K) :
    ∃ tv, TyX K w.H v tv ∧ PySem.W.kitOne K tv (.type (tyName t)) = some k := by
  unfold isiD at h
  cases e : deref w.S d with
  | ref n => rw [e] at h; cases h
  | scr n => rw [e] at h; cases h
  | obj _ _ _ => rw [e] at h; cases h
  | err _ _ => rw [e] at h; cases h
  | non =>
    cases deref_non wd r e
    refine ⟨_, .base .non, ?_⟩
    rw [e] at h
    cases t <;> first | exact absurd rfl (ht _) | (cases h; exact kit_ty (by decide +kernel))
  | bl x =>
    cases deref_bl wd r e
    refine ⟨_, .base (.bl x), ?_⟩
    rw [e] at h
    cases t <;> first | exact absurd rfl (ht _) | (cases h; exact kit_ty (by decide +kernel))
  | int x =>
    cases deref_int wd r e
    refine ⟨_, .base (.int x), ?_⟩
    rw [e] at h
    cases t <;> first | exact absurd rfl (ht _) | (cases h; exact kit_ty (by decide +kernel))
  | str x =>
    cases deref_str wd r e
    refine ⟨_, .base (.str x), ?_⟩
    rw [e] at h
    cases t <;> first | exact absurd rfl (ht _) | (cases h; exact kit_ty (by decide +kernel))
  | lst ds =>
    obtain ⟨a, vs, rfl, ha, _⟩ := deref_lst wd r e
    refine ⟨_, .base (.lst ha), ?_⟩
    rw [e] at h
    cases t <;> first | exact absurd rfl (ht _) | (cases h; exact kit_ty (by decide +kernel))
  | tup ds =>
    obtain ⟨a, vs, rfl, _, ha, _⟩ := deref_tup wd r e
    refine ⟨_, .base (.tup ha.1), ?_⟩
    rw [e] at h
    cases t <;> first | exact absurd rfl (ht _) | (cases h; exact kit_ty (by decide +kernel))
  | dct ks vs =>
    obtain ⟨a, kvs, rfl, ha⟩ := ty_dct wd r e
    refine ⟨_, .base (.dK ha), ?_⟩
    rw [e] at h
    cases t <;> first | exact absurd rfl (ht _) | (cases h; exact kit_ty (by decide +kernel))
  | emp =>
    obtain ⟨a, rfl, ha⟩ := deref_emp wd r e
    obtain ⟨o, o1, o2⟩ := emp_ty ha
    refine ⟨_, .kTuple (by rw [hK]; exact o1) o2, ?_⟩
    rw [e] at h
    cases t <;> first | exact absurd rfl (ht _) | (cases h; exact kit_ty (by decide +kernel))
  | dtt ks vs =>
    obtain ⟨a, kvs, _, rfl, ha, _⟩ := deref_dtt wd r e
    refine ⟨_, .base (.dT ha), ?_⟩
    rw [e] at h
    cases t <;> first | exact absurd rfl (ht _) | (cases h; exact kit_ty (by decide +kernel))
theorem ok_isi (hK : X.K = T.K) (kp : Kept Ξ) {x : C} {t : Ty} {p p3 : Pos} {n : Str} (hg : Gl X "isinstance") (hm : X.mg "isinstance" = none) (hgn : Gl X n) (hmn : X.mg n = none) (hv : bootBuiltins n = some (.type (tyName t))) (hn : n ≠ "__name__") (hdn : (n == ("__debug__" : Str)) = false)
    (ht : ∀ c, t ≠ .own c) (ha : PE X a (tEv T W Ξ (ev G x))) (hs : plainE a = true) : PE X (.Call (.Name "isinstance" p) [a, .Name n p3] [] pos) (tEv T W Ξ (ev G (.isi x t))) := by
  have hT : PE X (.Name n p3) (tC (.ty (tyName t))) := ⟨fun pins s σ H Q I h => ld_blt I hgn hmn hv ⟨.ty _, H, I, rfl, h⟩ hn hdn⟩
  have e1 : starEach [a, .Name n p3] X.env = (false, eval a X.env) :: starEach [.Name n p3] X.env := star_plain hs
  refine toPE (pe_callB call_isi hg hm (by decide +kernel) (pa_cons ha (pa_cons hT pa_nil) e1) (by decide) (by decide) e1 rfl) fun σ H Q h => ?_
  obtain ⟨δ, w, rfl, wd, en, xi, h⟩ := h
  refine (tEv.bind1 kp wd en xi h).imp fun v H1 ⟨w1, d, e1, wd1, _, _, r, q⟩ => ?_
  subst e1
  unfold optD at q
  split at q
  · rename_i k ek
    obtain ⟨tv, h1, h2⟩ := isi_ok wd1 r ek ht X.K hK
    exact ⟨v, .ty _, tv, _, k, rfl, .ty _, h1, h2, Post.here wd1 (.bl _) q⟩
  · exact q.elim
/-! xs.append(e) -/
theorem ok_app (kp : Kept Ξ) {x y : C} {ap : Pos} {e : Expr} (ha : PE X a (tEv T W Ξ (ev G x))) (he : PE X e (tEv T W Ξ (ev G y))) (hs : plainE e = true) (hb : attributeBase a "append" X.env (eval a X.env) = eval a X.env)
    (hl : (ap.endLine == pos.line) = true) : PE X (.Call (.Attribute a "append" ap) [e] [] pos) (tEv T W Ξ (ev G (.app x y))) := by
  have e1 : starEach [e] X.env = (false, eval e X.env) :: starEach [] X.env := star_plain hs
  refine toPE (pe_bm (r := rAppend) PySem.F.plainAttrs_list PySem.F.slot_list_append PySem.F.type_list_append mt_append ha (pa_cons he pa_nil e1) hb (by rw [e1]; rfl) hl e1 rfl) fun σ H Q h => ?_
  obtain ⟨δ, w, rfl, wd, en, xi, h⟩ := h
  refine ⟨δ, w, rfl, wd, en, xi, (Post.split h).mono fun v H1 ⟨w1, d1, e1, wd1, st1, r1, h1⟩ => ?_⟩
  subst e1
  split at h1
  · rename_i f
    cases q : isL (deref w1.S d1) with
    | none => rw [q] at f; cases f
    | some ds =>
      obtain ⟨p, vs, rfl, hp, _⟩ := deref_lst wd1 r1 (isL_some q)
      refine ⟨.inl ⟨rfl, vs, SqL.of hp⟩, δ, w1, rfl, wd1, en.mono st1.toMon, kp _ _ _ st1 xi, (Post.split h1).mono fun u H2 ⟨w2, d2, e2, wd2, st2, r2, h2⟩ => ?_⟩
      subst e2
      exact app_ok wd2 (r1.mono st2.toMon) r2 h2
  · exact h1.elim
theorem ok_frz (kp : Kept Ξ) {x : C} (ha : PE X a (tEv T W Ξ (ev G x))) : PE X a (tEv T W Ξ (ev G (.frz x))) := by
  refine toPE ha fun σ H Q h => ?_
  obtain ⟨δ, w, rfl, wd, en, xi, h⟩ := h
  refine (tEv.bind1 kp wd en xi h).imp fun v H1 ⟨w1, d, e1, wd1, _, _, r, q⟩ => ?_
  subst e1
  cases hf : frzD d w1.S with
  | stuck => rw [hf] at q; exact q.elim
  | ex c u S2 =>
    exfalso
    unfold frzD at hf
    split at hf
    · split at hf <;> cases hf
    · cases hf
  | ok e S2 =>
    rw [hf] at q
    obtain ⟨w2, e2, eh, wd2, st2, r2⟩ := frz_ok wd1 r hf
    rw [← eh]
    exact q w2 v e2 wd2 st2 r2
end
end PV

namespace PV
open PySem L2 PyProof.Rows RZ

section
variable {X : Cx} {T : Tb} {W : WX} {Ξ : Xi} {G : Gv} {a b c : Expr} {pos : Pos}
/-! targets -/
def tTg (T : Tb) (tg : Tg) : TG := fun v σ H Q => ∃ (w : Wo) (d : D) (δ δ' : Env), w.H = H ∧ Wd T w ∧ Rep T w d v ∧ EnvOk T w δ σ ∧ bindT tg d δ = some δ' ∧
  ∀ σ', wipe σ' (slots tg) = wipe σ (slots tg) → EnvOk T w δ' σ' → Q σ' H
theorem toPG {e : Expr} {t t' : TG} (h : PG X e t) (k : ∀ v σ H Q, t' v σ H Q → t v σ H Q) : PG X e t' := ⟨fun pins s σ H v u Q I r q => h.run pins s σ H v u Q I r (k v σ H Q q)⟩
theorem wipe_set_in {σ : L2.St} {i : Nat} {x : Option V} : ∀ {is : List Nat}, i ∈ is → wipe (σ.set i x) is = wipe σ is
  | j :: is, h => by
    show (wipe (σ.set i x) is).set j none = (wipe σ is).set j none
    by_cases e : i ∈ is
    · rw [wipe_set_in e]
    · have ej : i = j := by
        rcases List.mem_cons.mp h with h | h
        · exact h
        · exact absurd h e
      subst ej
      have key : ∀ (l : List Nat) (σ : L2.St), i ∉ l → wipe (σ.set i x) l = (wipe σ l).set i x := by
        intro l
        induction l with
        | nil => intro σ _; rfl
        | cons k l ih =>
          intro σ hn
          show (wipe (σ.set i x) l).set k none = ((wipe σ l).set k none).set i x
          rw [ih σ (fun z => hn (List.mem_cons_of_mem _ z)), List.set_comm _ _ (fun z => hn (by rw [z]; exact List.mem_cons_self))]
      rw [key is σ e, List.set_set]
theorem ok_tg1 {i : Nat} {x : Str} (hN : X.N.Nodup) (hi : X.N[i]? = some x) (hx : Loc X.env.scope x) (hf : X.fn x = true ∨ X.env.scope.names.lookup x = some .local) : PG X (.Name x pos) (tTg T (.one i)) := by
  refine toPG (pg_name hN hi hx hf) fun v σ H Q h => ?_
  obtain ⟨w, d, δ, δ', rfl, wd, r, en, e, k⟩ := h
  cases e
  exact k _ (wipe_set_in (by simp [slots])) (en.set i r)
/-- the names of a tuple target, one after another -/
theorem ok_tgs (hN : X.N.Nodup) : ∀ {es : List Expr} {is : List Nat}, (∀ (j : Nat) (e : Expr) (i : Nat), es[j]? = some e → is[j]? = some i → ∃ x p, e = .Name x p ∧ X.N[i]? = some x ∧ Loc X.env.scope x ∧ (X.fn x = true ∨ X.env.scope.names.lookup x = some .local)) → es.length = is.length →
    PGs X es (fun vs σ H Q => ∃ (w : Wo) (ds : List D) (δ : Env) (all : List Nat), w.H = H ∧ Wd T w ∧ Reps T w ds vs ∧ EnvOk T w δ σ ∧ is.length = ds.length ∧ (∀ i ∈ is, i ∈ all) ∧
      ∀ σ', wipe σ' all = wipe σ all → EnvOk T w ((is.zip ds).foldl (fun δ p => δ.set p.1 (some p.2)) δ) σ' → Q σ' H)
  | [], [], _, _ => ⟨fun pins s σ H vs us Q I r h => pgs_nil.run pins s σ H vs us Q I r (by
      obtain ⟨w, ds, δ, all, rfl, wd, rs, en, hl, ha, k⟩ := h
      cases ds with
      | cons _ _ => cases hl
      | nil =>
        cases rs
        exact ⟨rfl, k σ rfl en⟩)⟩
  | e :: es, i :: is, h, hl => by
    obtain ⟨x, p, ex, h1, h2, h3⟩ := h 0 e i rfl rfl
    subst ex
    have ih := ok_tgs hN (es := es) (is := is) (fun j e i h1 h2 => h (j + 1) e i (by simpa using h1) (by simpa using h2)) (by simpa using hl)
    refine ⟨fun pins s σ H vs us Q I r h => (pgs_cons (pg_name hN h1 h2 h3) ih (by rfl)).run pins s σ H vs us Q I r ?_⟩
    obtain ⟨w, ds, δ, all, rfl, wd, rs, en, hl, ha, k⟩ := h
    cases rs with
    | nil => cases hl
    | @cons d v ds vs rd rs =>
      refine ⟨v, vs, rfl, w, ds, δ.set i (some d), all, rfl, wd, rs, en.set i rd, by simpa using hl, fun j hj => ha j (List.mem_cons_of_mem _ hj), fun σ' e' en' => k σ' ?_ en'⟩
      rw [e', wipe_set_in (ha i List.mem_cons_self)]
theorem ok_tgt (hK : X.K = T.K) (hc : X.calm = true) (hN : X.N.Nodup) {es : List Expr} {is : List Nat} {k : Nat} (h : ∀ (j : Nat) (e : Expr) (i : Nat), es[j]? = some e → is[j]? = some i → ∃ x p, e = .Name x p ∧ X.N[i]? = some x ∧ Loc X.env.scope x ∧ (X.fn x = true ∨ X.env.scope.names.lookup x = some .local)) (hl : es.length = is.length)
    (hn : (assignEach es X.env).length = is.length) (hst : (assignEach es X.env).findIdx? (·.1) = none) : PG X (.Tuple es k pos) (tTg T (.tup is)) := by
  refine toPG (pg_tup hc (ok_tgs (T := T) hN h hl) hn hst) fun v σ H Q q => ?_
  obtain ⟨w, d, δ, δ', rfl, wd, r, en, e, kk⟩ := q
  cases d with
  | tup ds =>
    have e' : (if is.length = ds.length then some ((is.zip ds).foldl (fun δ p => δ.set p.1 (some p.2)) δ) else none) = some δ' := e
    by_cases hlen : is.length = ds.length
    · rw [if_pos hlen] at e'
      cases e'
      cases r with
      | @tup p vs _ hp rs =>
        refine ⟨p, vs, rfl, by rw [hK]; exact hp.sq, by rw [← rs.len]; exact hlen.symm, w, ds, δ, is, rfl, wd, rs, en, hlen, fun i hi => hi, kk⟩
    · rw [if_neg hlen] at e'
      cases e'
  | _ => cases e
theorem wipe_len {σ : L2.St} : ∀ (l : List Nat), (wipe σ l).length = σ.length
  | [] => rfl
  | v :: vs => by
    show ((wipe σ vs).set v none).length = _
    rw [List.length_set, wipe_len vs]
theorem wipe_out {σ : L2.St} : ∀ (l : List Nat) (j : Nat), j ∉ l → (wipe σ l)[j]? = σ[j]?
  | [], j, _ => rfl
  | v :: vs, j, h => by
    show ((wipe σ vs).set v none)[j]? = _
    rw [List.getElem?_set_ne (fun z => h (by rw [z]; exact List.mem_cons_self)), wipe_out vs j fun z => h (List.mem_cons_of_mem _ z)]
theorem wipe_in {σ : L2.St} : ∀ (l : List Nat) (j : Nat), j ∈ l → j < σ.length → (wipe σ l)[j]? = some none
  | v :: vs, j, h, hl => by
    show ((wipe σ vs).set v none)[j]? = _
    by_cases e : v = j
    · subst e
      rw [List.getElem?_set_self (by rw [wipe_len]; exact hl)]
    · rw [List.getElem?_set_ne e]
      refine wipe_in vs j ?_ hl
      rcases List.mem_cons.mp h with h | h
      · exact absurd h.symm e
      · exact h
theorem wipe_sub {σ σ' : L2.St} {a all : List Nat} (h : wipe σ' a = wipe σ a) (hs : ∀ i ∈ a, i ∈ all) : wipe σ' all = wipe σ all := by
  have hl : σ'.length = σ.length := by rw [← wipe_len (σ := σ') a, h, wipe_len]
  apply List.ext_getElem?
  intro j
  by_cases hj : j ∈ all
  · by_cases hlt : j < σ.length
    · rw [wipe_in all j hj hlt, wipe_in all j hj (by omega)]
    · rw [List.getElem?_eq_none (by rw [wipe_len]; omega), List.getElem?_eq_none (by rw [wipe_len]; omega)]
  · rw [wipe_out all j hj, wipe_out all j hj]
    have ha : j ∉ a := fun z => hj (hs j z)
    rw [← wipe_out (σ := σ') a j ha, h, wipe_out a j ha]
/-- names and tuples of names -/
inductive TgQ (X : Cx) : Expr → Tq → Prop where
  | one {x : Str} {p : Pos} {i : Nat} : X.N[i]? = some x → Loc X.env.scope x → (X.fn x = true ∨ X.env.scope.names.lookup x = some .local) → TgQ X (.Name x p) (.one i)
  | tup {es : List Expr} {is : List Nat} {k : Nat} {p : Pos} : (∀ (j : Nat) (e : Expr) (i : Nat), es[j]? = some e → is[j]? = some i → ∃ x p, e = .Name x p ∧ X.N[i]? = some x ∧ Loc X.env.scope x ∧ (X.fn x = true ∨ X.env.scope.names.lookup x = some .local)) → es.length = is.length → (assignEach es X.env).length = is.length → (assignEach es X.env).findIdx? (·.1) = none → TgQ X (.Tuple es k p) (.tup is)
inductive TgQs (X : Cx) : List Expr → List Tq → Prop where
  | nil : TgQs X [] []
  | cons {e : Expr} {es : List Expr} {t : Tq} {ts : List Tq} : TgQ X e t → TgQs X es ts → TgQs X (e :: es) (t :: ts)
def tTgs (T : Tb) (ts : List Tq) : TGs := fun vs σ H Q => ∃ (w : Wo) (ds : List D) (δ δ' : Env) (all : List Nat), w.H = H ∧ Wd T w ∧ Reps T w ds vs ∧ EnvOk T w δ σ ∧ bindP ts ds δ = some δ' ∧ (∀ i ∈ slotsP ts, i ∈ all) ∧ ∀ σ', wipe σ' all = wipe σ all → EnvOk T w δ' σ' → Q σ' H
theorem ok_tgqs (hK : X.K = T.K) (hc : X.calm = true) (hN : X.N.Nodup) : ∀ {es : List Expr} {ts : List Tq}, TgQs X es ts → PGs X es (tTgs T ts)
  | _, _, .nil => ⟨fun pins s σ H vs us Q I r h => pgs_nil.run pins s σ H vs us Q I r (by
      obtain ⟨w, ds, δ, δ', all, rfl, wd, rs, en, hb, ha, k⟩ := h
      cases rs with
      | cons _ _ => cases hb
      | nil =>
        cases hb
        exact ⟨rfl, k σ rfl en⟩)⟩
  | _, _, .cons (.one h1 h2 h3) r => by
    have ih := ok_tgqs hK hc hN r
    refine ⟨fun pins s σ H vs us Q I r h => (pgs_cons (pg_name hN h1 h2 h3) ih (by rfl)).run pins s σ H vs us Q I r ?_⟩
    obtain ⟨w, ds, δ, δ', all, rfl, wd, rs, en, hb, ha, k⟩ := h
    cases rs with
    | nil => cases hb
    | @cons d v ds vs rd rs =>
      refine ⟨v, vs, rfl, w, ds, _, δ', all, rfl, wd, rs, en.set _ rd, hb, fun j hj => ha j (List.mem_append.mpr (.inr hj)), fun σ' e' en' => k σ' ?_ en'⟩
      rw [e', wipe_set_in (ha _ (List.mem_append.mpr (.inl List.mem_cons_self)))]
  | _, _, .cons (.tup (es := es1) (is := is) h1 h2 h3 h4) r => by
    have ih := ok_tgqs hK hc hN r
    refine ⟨fun pins s σ H vs us Q I r h => (pgs_cons (ok_tgt (T := T) hK hc hN h1 h2 h3 h4) ih (by rfl)).run pins s σ H vs us Q I r ?_⟩
    obtain ⟨w, ds, δ, δ', all, rfl, wd, rs, en, hb, ha, k⟩ := h
    cases rs with
    | nil => cases hb
    | @cons d v ds vs rd rs =>
      cases d with
      | tup qs =>
        have hb' : (if is.length = qs.length then bindP _ ds ((is.zip qs).foldl (fun δ p => δ.set p.1 (some p.2)) δ) else none) = some δ' := hb
        by_cases hl : is.length = qs.length
        · rw [if_pos hl] at hb'
          refine ⟨v, vs, rfl, w, .tup qs, δ, (is.zip qs).foldl (fun δ p => δ.set p.1 (some p.2)) δ, rfl, wd, rd, en, ?_, fun σ' e' en' => ⟨w, ds, _, δ', all, rfl, wd, rs, en', hb', fun j hj => ha j (List.mem_append.mpr (.inr hj)), fun σ2 e2 en2 => k σ2 ?_ en2⟩⟩
          · show (if is.length = qs.length then some _ else none) = _
            rw [if_pos hl]
          · rw [e2]
            exact wipe_sub (a := is) e' fun i hi => ha i (List.mem_append.mpr (.inl hi))
        · rw [if_neg hl] at hb'
          cases hb'
      | _ => cases hb
theorem ok_tgd (hK : X.K = T.K) (hc : X.calm = true) (hN : X.N.Nodup) {es : List Expr} {ts : List Tq} {k : Nat} (h : TgQs X es ts) (hn : (assignEach es X.env).length = ts.length) (hst : (assignEach es X.env).findIdx? (·.1) = none) : PG X (.Tuple es k pos) (tTg T (.deep ts)) := by
  have hlen : ∀ {ts : List Tq} {ds : List D} {δ δ' : Env}, bindP ts ds δ = some δ' → ds.length = ts.length := by
    intro ts
    induction ts with
    | nil =>
      intro ds δ δ' e
      cases ds with
      | nil => rfl
      | cons _ _ => cases e
    | cons t ts ih =>
      intro ds δ δ' e
      cases ds with
      | nil => cases t <;> cases e
      | cons d ds =>
        cases t with
        | one i => exact congrArg Nat.succ (ih (show bindP ts ds (δ.set i (some d)) = some δ' from e))
        | tup is =>
          cases d with
          | tup qs =>
            have e' : (if is.length = qs.length then bindP ts ds ((is.zip qs).foldl (fun δ p => δ.set p.1 (some p.2)) δ) else none) = some δ' := e
            split at e'
            · exact congrArg Nat.succ (ih e')
            · cases e'
          | _ => cases e
  refine toPG (pg_tup hc (ok_tgqs (T := T) hK hc hN h) hn hst) fun v σ H Q q => ?_
  obtain ⟨w, d, δ, δ', rfl, wd, r, en, e, kk⟩ := q
  cases d with
  | tup ds =>
    have e' : bindP ts ds δ = some δ' := e
    cases r with
    | @tup p vs _ hp rs => exact ⟨p, vs, rfl, by rw [hK]; exact hp.sq, by rw [← rs.len]; exact hlen e', w, ds, δ, δ', slotsP ts, rfl, wd, rs, en, e', fun i hi => hi, kk⟩
  | _ => cases e
/-! what is walked -/
def ItF (T : Tb) (w0 : Wo) (J : L2.It) (its : List D) : Prop := ∀ (w : Wo) (i : Nat), Mon w0 w → Wd T w →
  (its.length ≤ i → J.stop i w.H) ∧ ∀ d, its[i]? = some d → J.go i w.H ∧ ∀ x H', J.yld i w.H x H' → ∃ w' : Wo, w'.H = H' ∧ w'.S = w.S ∧ Wd T w' ∧ Step w w' ∧ Rep T w' d x
/-- a list that may change, walked -/
def ItL (T : Tb) (w0 : Wo) (J : L2.It) (n : Nat) : Prop := ∀ (w : Wo) (i : Nat), Mon w0 w → Wd T w → match atL w.S n i with
  | none => True
  | some none => J.stop i w.H
  | some (some d) => J.go i w.H ∧ ∀ x H', J.yld i w.H x H' → ∃ w' : Wo, w'.H = H' ∧ w'.S = w.S ∧ Wd T w' ∧ Step w w' ∧ Rep T w' d x
def ItOk (T : Tb) (w0 : Wo) (J : L2.It) : PV.It → Prop
  | .fix its => ItF T w0 J its
  | .live n => ItL T w0 J n
def PostI (T : Tb) (W : WX) (w : Wo) (σ : L2.St) (r : R PV.It) (Q : L2.It → Hp → Prop) : Prop := match r with
  | .ok its S' => ∀ (w' : Wo) (J : L2.It), w'.S = S' → Wd T w' → Step w w' → ItOk T w' J its → Q J w'.H
  | .ex c v S' => ∀ (w' : Wo) (cls : Value) (dd : Option Addr), w'.S = S' → Wd T w' → Step w w' → RepX T w' c v cls dd → W cls dd σ w'.H
  | .stuck => False
def tEvI (T : Tb) (W : WX) (Ξ : Xi) (f : Env → Store → R PV.It) : TI := fun σ H R => ∃ (δ : Env) (w : Wo), w.H = H ∧ Wd T w ∧ EnvOk T w δ σ ∧ Ξ w σ ∧ PostI T W w σ (f δ w.S) R
theorem PostI.step {w w' : Wo} {σ : L2.St} {r : R PV.It} {Q : L2.It → Hp → Prop} (st : Step w w') (h : PostI T W w σ r Q) : PostI T W w' σ r Q := by
  cases r with
  | ok a S => exact fun w2 v e wd s2 rl => h w2 v e wd (st.trans s2) rl
  | ex c v S => exact fun w2 cl dd e wd s2 rx => h w2 cl dd e wd (st.trans s2) rx
  | stuck => exact h
theorem PostI.split {w : Wo} {σ : L2.St} {r : R D} {f : D → Store → R PV.It} {Q : L2.It → Hp → Prop} (h : PostI T W w σ (r.bind f) Q) :
    Post T W w σ (Rep T) r fun v1 H1 => ∃ (w1 : Wo) (d1 : D), w1.H = H1 ∧ Wd T w1 ∧ Step w w1 ∧ Rep T w1 d1 v1 ∧ PostI T W w1 σ (f d1 w1.S) Q := by
  cases r with
  | ok a S =>
    intro w' v e wd st rl
    refine ⟨w', a, rfl, wd, st, rl, PostI.step st ?_⟩
    rw [e]
    exact h
  | ex c v S => exact h
  | stuck => exact h
theorem it_lst {w0 : Wo} {p : Addr} {vs : List V} {ds : List D} (h : StL T w0 p vs) (rs : Reps T w0 ds vs) : ItF T w0 (Itl T.K p) ds := by
  intro w i mo wd
  have h1 := h.mono mo
  have rs1 := rs.mono mo
  refine ⟨fun hl => ⟨vs, SqL.of h1.1, by rw [← rs.len]; exact hl⟩, fun d hd => ?_⟩
  obtain ⟨v, hv, rv⟩ := rs1.get hd
  refine ⟨⟨vs, v, SqL.of h1.1, hv⟩, fun x H' y => ?_⟩
  obtain ⟨e, y⟩ := y
  have ex := y vs (SqL.of h1.1)
  rw [hv] at ex
  cases ex
  exact ⟨w, e.symm, rfl, wd, Step.refl w, rv⟩
theorem it_tup {w0 : Wo} {p : Addr} {vs : List V} {ds : List D} (h : StT T w0 p vs) (rs : Reps T w0 ds vs) : ItF T w0 (Itt T.K p) ds := by
  intro w i mo wd
  have h1 := h.mono mo
  have rs1 := rs.mono mo
  refine ⟨fun hl => ⟨vs, h1.sq, by rw [← rs.len]; exact hl⟩, fun d hd => ?_⟩
  obtain ⟨v, hv, rv⟩ := rs1.get hd
  refine ⟨⟨vs, v, h1.sq, hv⟩, fun x H' y => ?_⟩
  obtain ⟨e, y⟩ := y
  have ex := y vs h1.sq
  rw [hv] at ex
  cases ex
  exact ⟨w, e.symm, rfl, wd, Step.refl w, rv⟩
theorem it_live {w0 : Wo} {p : Addr} {n : Nat} (h : w0.r[n]? = some p) : ItL T w0 (Itl T.K p) n := by
  intro w i mo wd
  have h1 := mo.pre n p h
  unfold atL
  cases hS : w.S[n]? with
  | none => trivial
  | some c =>
    have k := wd.cell n c p hS h1
    cases c with
    | lst ds =>
      obtain ⟨vs, hp, rs⟩ := k
      show match some ds[i]? with | none => True | some none => (Itl T.K p).stop i w.H | some (some d) => (Itl T.K p).go i w.H ∧ ∀ x H', (Itl T.K p).yld i w.H x H' → ∃ w' : Wo, w'.H = H' ∧ w'.S = w.S ∧ Wd T w' ∧ Step w w' ∧ Rep T w' d x
      cases hd : ds[i]? with
      | none => exact ⟨vs, SqL.of hp, by rw [← rs.len]; exact List.getElem?_eq_none_iff.mp hd⟩
      | some d =>
        obtain ⟨v, hv, rv⟩ := rs.get hd
        refine ⟨⟨vs, v, SqL.of hp, hv⟩, fun x H' y => ?_⟩
        obtain ⟨e, y⟩ := y
        have ex := y vs (SqL.of hp)
        rw [hv] at ex
        cases ex
        exact ⟨w, e.symm, rfl, wd, Step.refl w, rv⟩
    | _ => trivial
theorem it_rng {w0 : Wo} (lo hi : Int) : ItF T w0 (Itr lo (hi - lo).toNat) (rangeD lo hi) := by
  intro w i mo wd
  unfold rangeD
  refine ⟨fun hl => ?_, fun d hd => ?_⟩
  · show (hi - lo).toNat ≤ i
    simpa using hl
  · rw [List.getElem?_map] at hd
    by_cases hi' : i < (hi - lo).toNat
    · rw [List.getElem?_range hi'] at hd
      cases hd
      refine ⟨hi', fun x H' y => ?_⟩
      obtain ⟨e, ex⟩ := y
      subst ex
      exact ⟨w, e.symm, rfl, wd, Step.refl w, .int _⟩
    · rw [List.getElem?_eq_none (by simpa using hi')] at hd
      cases hd
theorem it_pair {w : Wo} (wd : Wd T w) {t : Addr} (ht : w.H t = none) {x y : V} {d e : D} (r1 : Rep T w d x) (r2 : Rep T w e y) : ∃ w' : Wo, w'.H = upd w.H t (.tup [x, y]) ∧ w'.S = w.S ∧ Wd T w' ∧ Step w w' ∧ Rep T w' (.tup [d, e]) (.ref t) := by
  obtain ⟨w1, s1, l1⟩ := wd.still ht (.tup [x, y])
  exact ⟨⟨w.S, w.r, upd w.H t (.tup [x, y]), w.x⟩, rfl, rfl, w1, s1, .tup ⟨upd_same, l1⟩ (.cons (r1.mono s1.toMon) (.cons (r2.mono s1.toMon) .nil))⟩
theorem it_enum {w0 : Wo} {p : Addr} {vs : List V} {ds : List D} (h : StL T w0 p vs) (rs : Reps T w0 ds vs) : ItF T w0 (Ite T.K p) (enumD ds) := by
  intro w i mo wd
  have h1 := h.mono mo
  have rs1 := rs.mono mo
  unfold enumD
  refine ⟨fun hl => ⟨vs, SqL.of h1.1, by rw [← rs.len]; simpa using hl⟩, fun d hd => ?_⟩
  rw [List.getElem?_map, List.getElem?_zipIdx] at hd
  cases hq : ds[i]? with
  | none => rw [hq] at hd; cases hd
  | some q =>
    rw [hq] at hd
    cases hd
    obtain ⟨v, hv, rv⟩ := rs1.get hq
    refine ⟨⟨vs, v, SqL.of h1.1, hv⟩, fun x H' y => ?_⟩
    obtain ⟨t, z, rfl, ht, rfl, y⟩ := y
    have ex := y vs (SqL.of h1.1)
    rw [hv] at ex
    cases ex
    rw [Nat.zero_add]
    exact it_pair wd ht (.int _) rv
theorem zip_get : ∀ {xs ys : List D} {i : Nat} {d : D}, ((xs.zip ys).map fun (x, y) => D.tup [x, y])[i]? = some d → ∃ x y, xs[i]? = some x ∧ ys[i]? = some y ∧ d = .tup [x, y]
  | [], _, _, _, h => by simp at h
  | _ :: _, [], _, _, h => by simp at h
  | x :: xs, y :: ys, 0, d, h => by
    simp at h
    exact ⟨x, y, rfl, rfl, h.symm⟩
  | x :: xs, y :: ys, i + 1, d, h => by
    have h' : ((xs.zip ys).map fun (x, y) => D.tup [x, y])[i]? = some d := by simpa using h
    obtain ⟨p, q, h1, h2, h3⟩ := zip_get h'
    exact ⟨p, q, by simpa using h1, by simpa using h2, h3⟩
theorem it_zipL {w0 : Wo} {p q : Addr} {vs us : List V} {ds es : List D} (h : StL T w0 p vs) (rs : Reps T w0 ds vs) (h' : StL T w0 q us) (rs' : Reps T w0 es us) : ItF T w0 (Itz T.K p q) ((ds.zip es).map fun (x, y) => D.tup [x, y]) := by
  intro w i mo wd
  have h1 := h.mono mo
  have rs1 := rs.mono mo
  have h2 := h'.mono mo
  have rs2 := rs'.mono mo
  refine ⟨fun hl => ⟨vs, us, SqL.of h1.1, SqL.of h2.1, ?_⟩, fun d hd => ?_⟩
  · rw [← rs.len, ← rs'.len]
    rw [List.length_map, List.length_zip] at hl
    omega
  · obtain ⟨x, y, hx, hy, rfl⟩ := zip_get hd
    obtain ⟨v, hv, rv⟩ := rs1.get hx
    obtain ⟨u, hu, ru⟩ := rs2.get hy
    refine ⟨⟨vs, us, v, u, SqL.of h1.1, SqL.of h2.1, hv, hu⟩, fun z H' yy => ?_⟩
    obtain ⟨t, a, b, rfl, ht, rfl, y1, y2⟩ := yy
    have e1 := y1 vs (SqL.of h1.1)
    have e2 := y2 us (SqL.of h2.1)
    rw [hv] at e1
    rw [hu] at e2
    cases e1
    cases e2
    exact it_pair wd ht rv ru
theorem it_zipT {w0 : Wo} {p q : Addr} {vs us : List V} {ds es : List D} (h : StT T w0 p vs) (rs : Reps T w0 ds vs) (h' : StT T w0 q us) (rs' : Reps T w0 es us) : ItF T w0 (ItzT T.K p q) ((ds.zip es).map fun (x, y) => D.tup [x, y]) := by
  intro w i mo wd
  have h1 := h.mono mo
  have rs1 := rs.mono mo
  have h2 := h'.mono mo
  have rs2 := rs'.mono mo
  refine ⟨fun hl => ⟨vs, us, h1.sq, h2.sq, ?_⟩, fun d hd => ?_⟩
  · rw [← rs.len, ← rs'.len]
    rw [List.length_map, List.length_zip] at hl
    omega
  · obtain ⟨x, y, hx, hy, rfl⟩ := zip_get hd
    obtain ⟨v, hv, rv⟩ := rs1.get hx
    obtain ⟨u, hu, ru⟩ := rs2.get hy
    refine ⟨⟨vs, us, v, u, h1.sq, h2.sq, hv, hu⟩, fun z H' yy => ?_⟩
    obtain ⟨t, a, b, rfl, ht, rfl, y1, y2⟩ := yy
    have e1 := y1 vs h1.sq
    have e2 := y2 us h2.sq
    rw [hv] at e1
    rw [hu] at e2
    cases e1
    cases e2
    exact it_pair wd ht rv ru
theorem toPI {tg e : Expr} {t t' : TI} (h : PI X tg e t) (k : ∀ σ H R, t' σ H R → t σ H R) : PI X tg e t' := ⟨fun pins s σ H R I q => h.run pins s σ H R I (k σ H R q)⟩
theorem ok_it (hK : X.K = T.K) {tg : Expr} {x : C} (ha : PE X a (tEv T W Ξ (ev G x))) : PI X tg a (tEvI T W Ξ (evI G (.tst x))) := by
  refine ⟨fun pins s σ H R I h => ?_⟩
  obtain ⟨δ, w, rfl, wd, en, xi, h⟩ := h
  change PostI T W w σ ((ev G x δ w.S).bind fun d S1 => itD S1 d) R at h
  cases hf : ev G x δ w.S with
  | stuck => rw [hf] at h; exact h.elim
  | ex c v S1 =>
    rw [hf] at h
    refine (pi_list ha).run pins s σ w.H R I ⟨δ, w, rfl, wd, en, xi, ?_⟩
    rw [hf]
    exact h
  | ok d S1 =>
    rw [hf] at h
    cases d with
    | lst ds =>
      refine (pi_list ha).run pins s σ w.H R I ⟨δ, w, rfl, wd, en, xi, ?_⟩
      rw [hf]
      intro w' v e wd' st r
      cases r with
      | @lst p vs _ hp rs => exact ⟨p, rfl, ⟨vs, SqL.of hp.1⟩, by rw [hK]; exact h w' _ e wd' st (it_lst hp rs)⟩
    | tup ds =>
      refine (pi_tup ha).run pins s σ w.H R I ⟨δ, w, rfl, wd, en, xi, ?_⟩
      rw [hf]
      intro w' v e wd' st r
      cases r with
      | @tup p vs _ hp rs => exact ⟨p, rfl, ⟨vs, SqT.of hp.1⟩, by rw [hK]; exact h w' _ e wd' st (it_tup hp rs)⟩
    | emp =>
      refine (pi_tup ha).run pins s σ w.H R I ⟨δ, w, rfl, wd, en, xi, ?_⟩
      rw [hf]
      intro w' v e wd' st r
      cases r with
      | @emp p hp => exact ⟨p, rfl, ⟨[], by rw [hK]; exact emp_sq hp⟩, by rw [hK]; exact h w' _ e wd' st (fun w2 i _ _ => ⟨fun _ => ⟨[], emp_sq hp, Nat.zero_le _⟩, fun d hd => by simp at hd⟩)⟩
    | ref n =>
      change PostI T W w σ (match S1[n]? with | some (.lst _) => .ok (.live n) S1 | _ => .stuck) R at h
      cases hS : S1[n]? with
      | none => rw [hS] at h; exact h.elim
      | some c =>
        cases c with
        | lst ds =>
          rw [hS] at h
          refine (pi_list ha).run pins s σ w.H R I ⟨δ, w, rfl, wd, en, xi, ?_⟩
          rw [hf]
          intro w' v e wd' st r
          cases r with
          | @ref _ p hn =>
            obtain ⟨vs, hp, _⟩ := wd'.cell n _ p (by rw [e]; exact hS) hn
            exact ⟨p, rfl, ⟨vs, SqL.of hp⟩, by rw [hK]; exact h w' _ e wd' st (it_live hn)⟩
        | _ => rw [hS] at h; exact h.elim
    | _ => exact h.elim
theorem inR_lt {i : Int} (h : inR i = true) : -4611686018427387904 ≤ i ∧ i < 4611686018427387904 := by
  unfold inR at h
  rw [Bool.and_eq_true] at h
  exact ⟨of_decide_eq_true h.1, of_decide_eq_true h.2⟩
theorem ok_rng1 (kp : Kept Ξ) {tg : Expr} {y : C} {p : Pos} (hg : Gl X "range") (hm : X.mg "range" = none) (ha : PE X a (tEv T W Ξ (ev G y))) (hs : plainE a = true) : PI X tg (.Call (.Name "range" p) [a] [] pos) (tEvI T W Ξ (evI G (.rng (.con (.int 0)) y))) := by
  have e1 : starEach [a] X.env = [(false, eval a X.env)] := star_plain hs
  refine toPI (pi_range1 hg hm (pa_cons ha pa_nil e1) e1) fun σ H R h => ?_
  obtain ⟨δ, w, rfl, wd, en, xi, h⟩ := h
  refine ⟨δ, w, rfl, wd, en, xi, (PostI.split (r := ev G y δ w.S) (f := fun y S2 => match D.int 0, y with | .int i, .int j => if inR i && inR j then .ok (PV.It.fix (rangeD i j)) S2 else .stuck | _, _ => .stuck) h).mono fun v H1 ⟨w1, d1, e1, wd1, st1, r1, h1⟩ => ?_⟩
  subst e1
  obtain ⟨j, rfl, rfl⟩ : ∃ j, d1 = .int j ∧ v = .int j := by
    cases r1 with
    | int j => exact ⟨j, rfl, rfl⟩
    | _ => exact h1.elim
  change PostI T W w1 σ (if inR 0 && inR j then PV.R.ok (PV.It.fix (rangeD 0 j)) w1.S else .stuck) R at h1
  by_cases f : (inR 0 && inR j) = true
  · rw [if_pos f] at h1
    rw [Bool.and_eq_true] at f
    have g := inR_lt f.2
    have q := h1 w1 (Itr 0 (j - 0).toNat) rfl wd1 (Step.refl _) (it_rng 0 j)
    rw [Int.sub_zero] at q
    exact ⟨j, rfl, by omega, by omega, q⟩
  · rw [if_neg f] at h1
    exact h1.elim
theorem ok_rng2 (kp : Kept Ξ) {tg : Expr} {x y : C} {p : Pos} (hg : Gl X "range") (hm : X.mg "range" = none) (ha : PE X a (tEv T W Ξ (ev G x))) (hb : PE X b (tEv T W Ξ (ev G y))) (hs : plainE a = true) (hs2 : plainE b = true) :
    PI X tg (.Call (.Name "range" p) [a, b] [] pos) (tEvI T W Ξ (evI G (.rng x y))) := by
  have e2 : starEach [b] X.env = [(false, eval b X.env)] := star_plain hs2
  have e1 : starEach [a, b] X.env = (false, eval a X.env) :: starEach [b] X.env := star_plain hs
  refine toPI (pi_range2 hg hm (pa_cons ha (pa_cons hb pa_nil e2) e1) (by rw [e1, e2]) e2) fun σ H R h => ?_
  obtain ⟨δ, w, rfl, wd, en, xi, h⟩ := h
  refine ⟨δ, w, rfl, wd, en, xi, (PostI.split h).mono fun v H1 ⟨w1, d1, e1, wd1, st1, r1, h1⟩ => ?_⟩
  subst e1
  refine ⟨δ, w1, rfl, wd1, en.mono st1.toMon, kp _ _ _ st1 xi, (PostI.split h1).mono fun u H2 ⟨w2, d2, e2, wd2, st2, r2, h2⟩ => ?_⟩
  subst e2
  obtain ⟨i, rfl, rfl⟩ : ∃ j, d1 = .int j ∧ v = .int j := by
    cases r1 with
    | int j => exact ⟨j, rfl, rfl⟩
    | _ => exact h2.elim
  obtain ⟨j, rfl, rfl⟩ : ∃ j, d2 = .int j ∧ u = .int j := by
    cases r2 with
    | int j => exact ⟨j, rfl, rfl⟩
    | _ => exact h2.elim
  change PostI T W w2 σ (if inR i && inR j then PV.R.ok (PV.It.fix (rangeD i j)) w2.S else .stuck) R at h2
  by_cases f : (inR i && inR j) = true
  · rw [if_pos f] at h2
    rw [Bool.and_eq_true] at f
    have g := inR_lt f.2
    have g' := inR_lt f.1
    exact ⟨i, j, rfl, ⟨by omega, by omega, by omega, by omega⟩, h2 w2 _ rfl wd2 (Step.refl _) (it_rng i j)⟩
  · rw [if_neg f] at h2
    exact h2.elim
theorem ok_enum (hK : X.K = T.K) {elts : List Expr} {kk : Nat} {tpos : Pos} {x : C} {p : Pos} (hg : Gl X "enumerate") (hm : X.mg "enumerate" = none) (ha : PE X a (tEv T W Ξ (ev G x))) (hs : plainE a = true) :
    PI X (.Tuple elts kk tpos) (.Call (.Name "enumerate" p) [a] [] pos) (tEvI T W Ξ (evI G (.enum x))) := by
  have e1 : starEach [a] X.env = [(false, eval a X.env)] := star_plain hs
  refine toPI (pi_enum hg hm (pa_cons ha pa_nil e1) e1) fun σ H R h => ?_
  obtain ⟨δ, w, rfl, wd, en, xi, h⟩ := h
  refine ⟨δ, w, rfl, wd, en, xi, (PostI.split h).mono fun v H1 ⟨w1, d1, e1, wd1, st1, r1, h1⟩ => ?_⟩
  subst e1
  cases r1 with
  | @lst q vs ds hp rs => exact ⟨q, vs, rfl, SqL.of hp.1, by rw [hK]; exact h1 w1 _ rfl wd1 (Step.refl _) (it_enum hp rs)⟩
  | _ => exact h1.elim
theorem ok_zip (hK : X.K = T.K) (kp : Kept Ξ) {elts : List Expr} {kk : Nat} {tpos : Pos} {x y : C} {p : Pos} (hg : Gl X "zip") (hm : X.mg "zip" = none) (ha : PE X a (tEv T W Ξ (ev G x))) (hb : PE X b (tEv T W Ξ (ev G y))) (hs : plainE a = true) (hs2 : plainE b = true) :
    PI X (.Tuple elts kk tpos) (.Call (.Name "zip" p) [a, b] [] pos) (tEvI T W Ξ (evI G (.zip x y))) := by
  have e2 : starEach [b] X.env = [(false, eval b X.env)] := star_plain hs2
  have e1 : starEach [a, b] X.env = (false, eval a X.env) :: starEach [b] X.env := star_plain hs
  refine toPI (pi_zipA hg hm (pa_cons ha (pa_cons hb pa_nil e2) e1) e1 (by rw [e2]; rfl)) fun σ H R h => ?_
  obtain ⟨δ, w, rfl, wd, en, xi, h⟩ := h
  refine ⟨δ, w, rfl, wd, en, xi, (PostI.split h).mono fun v H1 ⟨w1, d1, e1, wd1, st1, r1, h1⟩ => ?_⟩
  subst e1
  refine ⟨δ, w1, rfl, wd1, en.mono st1.toMon, kp _ _ _ st1 xi, (PostI.split h1).mono fun u H2 ⟨w2, d2, e2, wd2, st2, r2, h2⟩ => ?_⟩
  subst e2
  have r1 := r1.mono st2.toMon
  cases r1 with
  | @lst q vs ds hp rs =>
    cases r2 with
    | @lst q' us es hp' rs' => exact ⟨q, q', vs, us, rfl, .inl ⟨SqL.of hp.1, SqL.of hp'.1, by rw [hK]; exact h2 w2 _ rfl wd2 (Step.refl _) (it_zipL hp rs hp' rs')⟩⟩
    | _ => exact h2.elim
  | @tup q vs ds hp rs =>
    cases r2 with
    | @tup q' us es hp' rs' => exact ⟨q, q', vs, us, rfl, .inr ⟨SqT.of hp.1, SqT.of hp'.1, by rw [hK]; exact h2 w2 _ rfl wd2 (Step.refl _) (it_zipT hp rs hp' rs')⟩⟩
    | _ => exact h2.elim
  | _ => exact h2.elim
end
end PV

namespace PV
open PySem L2 PyProof.Rows RZ

theorem Wd.adopt {T : Tb} {w : Wo} {xs : List Addr} {p : Addr} {c : Cell} (W : Wd T w) (hx : w.x = p :: xs) (hp : p ∉ xs) (hc : ∀ w', Mon w w' → w'.H = w.H → CellOk T w' p c) :
    Wd T ⟨w.S ++ [c], w.r ++ [p], w.H, xs⟩ ∧ Mon w ⟨w.S ++ [c], w.r ++ [p], w.H, xs⟩ ∧ (w.r ++ [p])[w.S.length]? = some p := by
  have hpx : p ∈ w.x := by rw [hx]; exact List.mem_cons_self
  have mo : Mon w ⟨w.S ++ [c], w.r ++ [p], w.H, xs⟩ := by
    refine ⟨fun n a h => ?_, fun a u h l => ⟨h, fun l' => ?_⟩⟩
    · show (w.r ++ [p])[n]? = some a
      rw [List.getElem?_append_left (List.getElem?_eq_some_iff.mp h).1]
      exact h
    · rcases l' with l' | ⟨n, c', h1, h2, h3⟩
      · exact l (.inl (by rw [hx]; exact List.mem_cons_of_mem _ l'))
      change (w.S ++ [c])[n]? = some c' at h1
      change (w.r ++ [p])[n]? = some a at h3
      by_cases hn : n < w.S.length
      · rw [List.getElem?_append_left hn] at h1
        rw [List.getElem?_append_left (by rw [W.len]; exact hn)] at h3
        exact l (.inr ⟨n, c', h1, h2, h3⟩)
      · rw [List.getElem?_append_right (by rw [W.len]; omega)] at h3
        have e : a = p := by simpa using List.mem_of_getElem? h3
        exact l (.inl (by rw [e]; exact hpx))
  have last : (w.r ++ [p])[w.S.length]? = some p := by
    rw [← W.len, List.getElem?_append_right (Nat.le_refl _)]
    simp
  refine ⟨⟨by simp [W.len], ?_, fun n c' a h1 h2 => ?_, fun a ha => ?_⟩, mo, last⟩
  · rw [List.nodup_append]
    refine ⟨W.nd, by simp, fun a ha b hb e => ?_⟩
    have : b = p := by simpa using hb
    exact (W.res p hpx).1 (by rw [← this, ← e]; exact ha)
  · change (w.S ++ [c])[n]? = some c' at h1
    change (w.r ++ [p])[n]? = some a at h2
    by_cases hn : n < w.S.length
    · rw [List.getElem?_append_left hn] at h1
      rw [List.getElem?_append_left (by rw [W.len]; exact hn)] at h2
      exact (W.cell n c' a h1 h2).mono mo rfl
    · rw [List.getElem?_append_right (by omega)] at h1
      rw [List.getElem?_append_right (by rw [W.len]; omega)] at h2
      have e1 : c' = c := by simpa using List.mem_of_getElem? h1
      have e2 : a = p := by simpa using List.mem_of_getElem? h2
      rw [e1, e2]
      exact hc _ mo rfl
  · obtain ⟨h1, u⟩ := W.res a (by rw [hx]; exact List.mem_cons_of_mem _ ha)
    refine ⟨fun hm => ?_, u⟩
    rcases List.mem_append.mp hm with hm | hm
    · exact h1 hm
    · have : a = p := by simpa using hm
      exact hp (by rw [← this]; exact ha)
theorem EnvOk.wipe {T : Tb} {w : Wo} {δ : Env} {σ : L2.St} (h : EnvOk T w δ σ) : ∀ vs : List Nat, EnvOk T w (wipeD δ vs) (L2.wipe σ vs)
  | [] => h
  | v :: vs => (EnvOk.wipe h vs).unset v none
theorem wipe_set_same {σ : L2.St} : ∀ (l : List Nat) (i : Nat), i ∈ l → (L2.wipe σ l).set i none = L2.wipe σ l
  | j :: l, i, h => by
    show ((L2.wipe σ l).set j none).set i none = (L2.wipe σ l).set j none
    by_cases e : i = j
    · subst e
      rw [List.set_set]
    · rw [List.set_comm _ _ (fun z => e z.symm)]
      rcases List.mem_cons.mp h with h | h
      · exact absurd h e
      · rw [wipe_set_same l i h]
theorem wipe_wipe {σ : L2.St} (vs : List Nat) : L2.wipe (L2.wipe σ vs) vs = L2.wipe σ vs := by
  have key : ∀ l : List Nat, (∀ i ∈ l, i ∈ vs) → L2.wipe (L2.wipe σ vs) l = L2.wipe σ vs := by
    intro l
    induction l with
    | nil => intro _; rfl
    | cons k l ih =>
      intro hl
      show (L2.wipe (L2.wipe σ vs) l).set k none = _
      rw [ih (fun i hi => hl i (List.mem_cons_of_mem _ hi)), wipe_set_same vs k (hl k List.mem_cons_self)]
  exact key vs fun _ h => h
theorem compG_noex {at_ : Store → Nat → Option (Option D)} {sl : List Nat} {tg : Tg} {cnd : Env → Store → R Bool} {elt : F} {δ : Env} : ∀ (k i : Nat) (S : Store) (c : Nat) (v : D) (S' : Store), compG at_ sl tg cnd elt δ k i S ≠ .ex c v S'
  | 0, _, _, _, _, _, h => by cases h
  | k + 1, i, S, c, v, S', h => by
    unfold compG at h
    split at h
    · cases h
    · cases h
    · split at h
      · cases h
      · split at h
        · split at h
          · split at h
            · cases h
            · cases h
          · cases h
        · exact compG_noex k (i + 1) _ c v S' h
        · cases h
theorem compW_noex {at_ : Store → Nat → Option (Option D)} {sl : List Nat} {tg : Tg} {cnd : Env → Store → R Bool} {elt : Env → Store → R (List D)} {δ : Env} : ∀ (k i : Nat) (S : Store) (c : Nat) (v : D) (S' : Store), compW at_ sl tg cnd elt δ k i S ≠ .ex c v S'
  | 0, _, _, _, _, _, h => by cases h
  | k + 1, i, S, c, v, S', h => by
    unfold compW at h
    split at h
    · cases h
    · cases h
    · split at h
      · cases h
      · split at h
        · split at h
          · split at h
            · cases h
            · cases h
          · cases h
        · exact compW_noex k (i + 1) _ c v S' h
        · cases h
theorem compL_G {tg : Tg} {cnd : Env → Store → R Bool} {elt : F} {δ : Env} {its : List D} : ∀ (j i : Nat) (S : Store), i + j = its.length → compL tg cnd elt δ (its.drop i) S = compG (atF its) (slots tg) tg cnd elt δ (j + 1) i S
  | 0, i, S, h => by
    have e : its.drop i = [] := List.drop_eq_nil_of_le (by omega)
    have e2 : its[i]? = none := List.getElem?_eq_none (by omega)
    rw [e]
    unfold compL compG atF
    rw [e2]
  | j + 1, i, S, h => by
    have hlt : i < its.length := by omega
    have e : its.drop i = its[i] :: its.drop (i + 1) := List.drop_eq_getElem_cons hlt
    have e2 : its[i]? = some its[i] := List.getElem?_eq_getElem hlt
    rw [e]
    unfold compL compG
    have e3 : atF its S i = some (some its[i]) := by unfold atF; rw [e2]
    rw [e3]
    simp only [compL_G j (i + 1) _ (by omega : i + 1 + j = its.length)]
theorem forL_G {tg : Tg} {body : FS} {its : List D} : ∀ (j i : Nat) (δ : Env) (S : Store), i + j = its.length → forL tg body (its.drop i) δ S = forG (atF its) tg body (j + 1) i δ S
  | 0, i, δ, S, h => by
    have e : its.drop i = [] := List.drop_eq_nil_of_le (by omega)
    have e2 : its[i]? = none := List.getElem?_eq_none (by omega)
    rw [e]
    unfold forL forG atF
    rw [e2]
  | j + 1, i, δ, S, h => by
    have hlt : i < its.length := by omega
    have e : its.drop i = its[i] :: its.drop (i + 1) := List.drop_eq_getElem_cons hlt
    have e2 : its[i]? = some its[i] := List.getElem?_eq_getElem hlt
    rw [e]
    unfold forL forG
    have e3 : atF its S i = some (some its[i]) := by unfold atF; rw [e2]
    rw [e3]
    simp only [forL_G j (i + 1) _ _ (by omega : i + 1 + j = its.length)]
/-- a walk by places -/
def ItG (T : Tb) (w0 : Wo) (J : L2.It) (at_ : Store → Nat → Option (Option D)) : Prop := ∀ (w : Wo) (i : Nat), Mon w0 w → Wd T w → match at_ w.S i with
  | none => True
  | some none => J.stop i w.H
  | some (some d) => J.go i w.H ∧ ∀ x H', J.yld i w.H x H' → ∃ w' : Wo, w'.H = H' ∧ w'.S = w.S ∧ Wd T w' ∧ Step w w' ∧ Rep T w' d x
theorem ItF.g {T : Tb} {w0 : Wo} {J : L2.It} {its : List D} (h : ItF T w0 J its) : ItG T w0 J (atF its) := by
  intro w i mo wd
  obtain ⟨h1, h2⟩ := h w i mo wd
  unfold atF
  cases e : its[i]? with
  | none => exact h1 (List.getElem?_eq_none_iff.mp e)
  | some d => exact h2 d e
/-- what a walk is, and its turns -/
theorem ItOk.g {T : Tb} {w0 : Wo} {J : L2.It} {it : PV.It} (h : ItOk T w0 J it) : ∃ at_ k, ItG T w0 J at_ ∧ (∀ tg cnd elt δ S, compI tg cnd elt δ it S = compG at_ (slots tg) tg cnd elt δ k 0 S) ∧ (∀ tg body δ S, forI tg body it δ S = forG at_ tg body k 0 δ S) ∧ ∀ sl tg cnd elt δ S, compWI sl tg cnd elt δ it S = compW at_ sl tg cnd elt δ k 0 S := by
  cases it with
  | fix its => exact ⟨atF its, its.length + 1, ItF.g h, fun tg cnd elt δ S => compL_G its.length 0 S (by omega), fun tg body δ S => forL_G its.length 0 δ S (by omega), fun _ _ _ _ _ _ => rfl⟩
  | live n => exact ⟨fun S i => atL S n i, bigN, h, fun _ _ _ _ _ => rfl, fun _ _ _ _ => rfl, fun _ _ _ _ _ _ => rfl⟩
abbrev X0 : Xi := fun _ _ => True
abbrev W0 : WX := fun _ _ _ _ => False
theorem kept0 : Kept X0 := fun _ _ _ _ h => h
section
variable {X : Cx} {T : Tb} {W : WX} {Ξ : Xi} {G : Gv} {pos : Pos}
/-- the state between two turns of a comprehension that fills p -/
structure Fil (T : Tb) (w1 : Wo) (p : Addr) (w' : Wo) (acc : List V) (accD : List D) : Prop where
  wd : Wd T w'
  mo : Mon w1 w'
  ex : w'.x = p :: w1.x
  hx : ∀ a, a ∈ w1.x → w'.H a = w1.H a
  at_ : w'.H p = some (.lst acc)
  rs : Reps T w' accD acc
theorem Fil.start {w1 : Wo} (wd1 : Wd T w1) {p : Addr} (hp : w1.H p = none) : Fil T w1 p ⟨w1.S, w1.r, upd w1.H p (.lst []), p :: w1.x⟩ [] [] := by
  have hnx : p ∉ w1.x := fun z => by
    obtain ⟨_, o, ho⟩ := wd1.res p z
    rw [hp] at ho
    cases ho
  obtain ⟨r1, r2⟩ := wd1.reserve hp (.lst [])
  refine ⟨r1, r2, rfl, fun a ha => ?_, upd_same, .nil⟩
  show upd w1.H p (.lst []) a = _
  rw [upd_ne (fun z => hnx (by rw [← z]; exact ha))]
theorem Fil.step {w1 w' w2 : Wo} {p : Addr} {acc : List V} {accD : List D} (f : Fil T w1 p w' acc accD) (wd2 : Wd T w2) (st : Step w' w2) : Fil T w1 p w2 acc accD := by
  have hpx : p ∈ w'.x := by rw [f.ex]; exact List.mem_cons_self
  refine ⟨wd2, f.mo.trans st.toMon, by rw [st.ex, f.ex], fun a ha => ?_, (st.hx p hpx).trans f.at_, f.rs.mono st.toMon⟩
  rw [st.hx a (by rw [f.ex]; exact List.mem_cons_of_mem _ ha), f.hx a ha]
theorem Fil.push {w1 w' : Wo} {p : Addr} {acc : List V} {accD : List D} (hnx : p ∉ w1.x) (f : Fil T w1 p w' acc accD) {v : V} {e : D} (r : Rep T w' e v) : Fil T w1 p ⟨w'.S, w'.r, upd w'.H p (.lst (acc ++ [v])), w'.x⟩ (acc ++ [v]) (accD ++ [e]) := by
  have hpx : p ∈ w'.x := by rw [f.ex]; exact List.mem_cons_self
  obtain ⟨f1, f2⟩ := f.wd.fill hpx (.lst (acc ++ [v]))
  refine ⟨f1, f.mo.trans f2, f.ex, fun a ha => ?_, upd_same, (f.rs.append (.cons r .nil)).mono f2⟩
  show upd w'.H p _ a = _
  rw [upd_ne (fun z => hnx (by rw [← z]; exact ha)), f.hx a ha]
theorem Fil.done {w w1 w' : Wo} {σ : L2.St} {p : Addr} {acc : List V} {ds : List D} {m : Bool} {Q : VK} (hnx : p ∉ w1.x) (st1 : Step w w1) (f : Fil T w1 p w' acc ds) (h : Post T W w σ (Rep T) (newL m ds w'.S) Q) : Q (.ref p) w'.H := by
  unfold newL at h
  by_cases c : fits ds.length = true
  · rw [if_pos c] at h
    cases m with
    | false =>
      obtain ⟨q1, q2, q3⟩ := f.wd.release f.ex hnx
      exact h ⟨w'.S, w'.r, w'.H, w1.x⟩ _ rfl q1 (st1.trans ⟨f.mo.trans q2, rfl, f.hx⟩) (.lst ⟨f.at_, q3⟩ (f.rs.mono q2))
    | true =>
      obtain ⟨q1, q2, q3⟩ := f.wd.adopt (c := .lst ds) f.ex hnx fun w2 m2 e2 => ⟨acc, by rw [e2]; exact f.at_, f.rs.mono m2⟩
      exact h ⟨w'.S ++ [.lst ds], w'.r ++ [p], w'.H, w1.x⟩ _ rfl q1 (st1.trans ⟨f.mo.trans q2, rfl, f.hx⟩) (.ref q3)
  · rw [if_neg c] at h
    exact h.elim
/-- the reading of a comprehension -/
theorem comp_reads {wi : TI} {tg : Tg} {src cnd elt : C} {m : Bool} {σ : L2.St} {H : Hp} {Q : VK} (h : tEv T W Ξ (ev G (.comp m tg src cnd elt)) σ H Q) :
    tLc (tEvI T W Ξ (evI G src)) (tTg T tg) (tEvT T W0 X0 (evT G cnd)) (tEv T W0 X0 (ev G elt)) (slots tg) σ H Q := by
  obtain ⟨δ, w, rfl, wd, en, xi, h⟩ := h
  refine ⟨δ, w, rfl, wd, en, xi, ?_⟩
  change Post T W w σ (Rep T) ((evI G src δ w.S).bind fun its S1 => (compI tg (evT G cnd) (ev G elt) δ its S1).bind fun ds S2 => newL m ds S2) Q at h
  cases hf : evI G src δ w.S with
  | stuck => rw [hf] at h; exact h.elim
  | ex c v S1 => rw [hf] at h; exact h
  | ok its S1 =>
    rw [hf] at h
    intro w1 J e1 wd1 st1 it p hp
    obtain ⟨at_, fu, itg, hcI, _, _⟩ := it.g
    change Post T W w σ (Rep T) ((compI tg (evT G cnd) (ev G elt) δ its S1).bind fun ds S2 => newL m ds S2) Q at h
    rw [hcI] at h
    cases hc : compG at_ (slots tg) tg (evT G cnd) (ev G elt) δ fu 0 S1 with
    | stuck => rw [hc] at h; exact h.elim
    | ex c v S2 => exact absurd hc (compG_noex fu 0 S1 c v S2)
    | ok ds S2 =>
      rw [hc] at h
      change Post T W w σ (Rep T) (newL m ds S2) Q at h
      have hsz : ds.length ≤ sizeLine := by
        unfold newL at h
        by_cases f : fits ds.length = true
        · exact fits_le f
        · rw [if_neg f] at h; exact h.elim
      have hnx : p ∉ w1.x := fun z => by
        obtain ⟨_, o, ho⟩ := wd1.res p z
        rw [hp] at ho
        cases ho
      have en1 := en.mono st1.toMon
      refine ⟨fun i k H => ∃ (w' : Wo) (acc : List V) (accD rest : List D), w'.H = H ∧ Fil T w1 p w' acc accD ∧ compG at_ (slots tg) tg (evT G cnd) (ev G elt) δ k i w'.S = .ok rest S2 ∧ accD ++ rest = ds, ⟨fu, ⟨w1.S, w1.r, upd w1.H p (.lst []), p :: w1.x⟩, [], [], ds, rfl, Fil.start wd1 hp, by show compG _ _ _ _ _ _ _ _ w1.S = _; rw [e1]; exact hc, rfl⟩, ?_⟩
      rintro i k H ⟨w', acc, accD, rest, rfl, f, hrest, hds⟩
      cases k with
      | zero => cases hrest
      | succ k =>
        unfold compG at hrest
        have itw := itg w' i f.mo f.wd
        split at hrest
        · cases hrest
        · rename_i ea
          rw [ea] at itw
          cases hrest
          rw [List.append_nil] at hds
          subst hds
          exact .inl ⟨itw, f.done hnx st1 h⟩
        · rename_i d ea
          rw [ea] at itw
          obtain ⟨g1, g2⟩ := itw
          refine .inr ⟨g1, fun H' => ∃ (w' : Wo) (acc : List V) (accD rest : List D), w'.H = H' ∧ Fil T w1 p w' acc accD ∧ compG at_ (slots tg) tg (evT G cnd) (ev G elt) δ k (i + 1) w'.S = .ok rest S2 ∧ accD ++ rest = ds, fun H' q => ⟨k, Nat.lt_succ_self _, q⟩, fun x H' y => ?_⟩
          obtain ⟨w2, rfl, eS2, wd2, st2, r2⟩ := g2 x H' y
          have f2 := f.step wd2 st2
          split at hrest
          · cases hrest
          · rename_i δ1 hb
            refine ⟨w2, d, wipeD δ (slots tg), δ1, rfl, wd2, r2, (en1.mono f2.mo).wipe _, hb, fun σ' eσ en2 => ⟨by rw [eσ, wipe_wipe], ?_⟩⟩
            refine ⟨δ1, w2, rfl, wd2, en2, trivial, ?_⟩
            rw [eS2]
            split at hrest
            · rename_i S3 hcnd
              rw [hcnd]
              intro w3 k3 e3 wd3 st3 ek
              cases ek
              refine iteT ⟨δ1, w3, rfl, wd3, en2.mono st3.toMon, trivial, ?_⟩
              rw [e3]
              split at hrest
              · rename_i e S4 helt
                rw [helt]
                intro w4 v e4 wd4 st4 r4
                have f4 := f2.step wd4 (st3.trans st4)
                split at hrest
                · rename_i es S5 hmore
                  cases hrest
                  have hlen : accD.length + (es.length + 1) = ds.length := by
                    rw [← hds]
                    simp
                  have hl := f4.rs.len
                  refine ⟨acc, f4.at_, by omega, _, _, _, es, rfl, f4.push hnx r4, ?_, by rw [List.append_assoc]; exact hds⟩
                  show compG _ _ _ _ _ _ _ _ w4.S = _
                  rw [e4]
                  exact hmore
                · cases hrest
              · cases hrest
            · rename_i S3 hcnd
              rw [hcnd]
              intro w3 k3 e3 wd3 st3 ek
              cases ek
              refine iteF ⟨w3, acc, accD, rest, rfl, f2.step wd3 st3, ?_, hds⟩
              rw [e3]
              exact hrest
            · cases hrest
/-- .. of two clauses -/
theorem comp_reads2 {tg tg2 : Tg} {src cnd src2 cnd2 elt : C} {m : Bool} {σ : L2.St} {H : Hp} {Q : VK} (h : tEv T W Ξ (ev G (.comp2 m tg src cnd tg2 src2 cnd2 elt)) σ H Q) :
    tLc2 (tEvI T W Ξ (evI G src)) (tTg T tg) (tEvT T W0 X0 (evT G cnd)) (tEvI T W0 X0 (evI G src2)) (tTg T tg2) (tEvT T W0 X0 (evT G cnd2)) (tEv T W0 X0 (ev G elt)) (slots tg ++ slots tg2) (slots tg2) σ H Q := by
  obtain ⟨δ, w, rfl, wd, en, xi, h⟩ := h
  refine ⟨δ, w, rfl, wd, en, xi, ?_⟩
  change Post T W w σ (Rep T) ((evI G src δ w.S).bind fun its S1 => (compWI (slots tg ++ slots tg2) tg (evT G cnd) (fun δ1 S2 => comp1I tg2 (evT G cnd2) (ev G elt) δ1 (evI G src2 δ1 S2)) δ its S1).bind fun ds S2 => newL m ds S2) Q at h
  cases hf : evI G src δ w.S with
  | stuck => rw [hf] at h; exact h.elim
  | ex c v S1 => rw [hf] at h; exact h
  | ok its S1 =>
    rw [hf] at h
    intro w1 J e1 wd1 st1 it p hp
    obtain ⟨at_, fu, itg, _, _, hcI⟩ := it.g
    change Post T W w σ (Rep T) ((compWI (slots tg ++ slots tg2) tg (evT G cnd) (fun δ1 S2 => comp1I tg2 (evT G cnd2) (ev G elt) δ1 (evI G src2 δ1 S2)) δ its S1).bind fun ds S2 => newL m ds S2) Q at h
    rw [hcI] at h
    cases hc : compW at_ (slots tg ++ slots tg2) tg (evT G cnd) (fun δ1 S2 => comp1I tg2 (evT G cnd2) (ev G elt) δ1 (evI G src2 δ1 S2)) δ fu 0 S1 with
    | stuck => rw [hc] at h; exact h.elim
    | ex c v S2 => exact absurd hc (compW_noex fu 0 S1 c v S2)
    | ok ds S2 =>
      rw [hc] at h
      change Post T W w σ (Rep T) (newL m ds S2) Q at h
      have hsz : ds.length ≤ sizeLine := by
        unfold newL at h
        by_cases f : fits ds.length = true
        · exact fits_le f
        · rw [if_neg f] at h; exact h.elim
      have hnx : p ∉ w1.x := fun z => by
        obtain ⟨_, o, ho⟩ := wd1.res p z
        rw [hp] at ho
        cases ho
      have en1 := en.mono st1.toMon
      refine ⟨fun i k H => ∃ (w' : Wo) (acc : List V) (accD rest : List D), w'.H = H ∧ Fil T w1 p w' acc accD ∧ compW at_ (slots tg ++ slots tg2) tg (evT G cnd) (fun δ1 S2 => comp1I tg2 (evT G cnd2) (ev G elt) δ1 (evI G src2 δ1 S2)) δ k i w'.S = .ok rest S2 ∧ accD ++ rest = ds, ⟨fu, ⟨w1.S, w1.r, upd w1.H p (.lst []), p :: w1.x⟩, [], [], ds, rfl, Fil.start wd1 hp, by show compW _ _ _ _ _ _ _ _ w1.S = _; rw [e1]; exact hc, rfl⟩, ?_⟩
      rintro i k H ⟨w', acc, accD, rest, rfl, f, hrest, hds⟩
      cases k with
      | zero => cases hrest
      | succ k =>
        unfold compW at hrest
        have itw := itg w' i f.mo f.wd
        split at hrest
        · cases hrest
        · rename_i ea
          rw [ea] at itw
          cases hrest
          rw [List.append_nil] at hds
          subst hds
          exact .inl ⟨itw, f.done hnx st1 h⟩
        · rename_i d ea
          rw [ea] at itw
          obtain ⟨g1, g2⟩ := itw
          refine .inr ⟨g1, fun H' => ∃ (w' : Wo) (acc : List V) (accD rest : List D), w'.H = H' ∧ Fil T w1 p w' acc accD ∧ compW at_ (slots tg ++ slots tg2) tg (evT G cnd) (fun δ1 S2 => comp1I tg2 (evT G cnd2) (ev G elt) δ1 (evI G src2 δ1 S2)) δ k (i + 1) w'.S = .ok rest S2 ∧ accD ++ rest = ds, fun H' q => ⟨k, Nat.lt_succ_self _, q⟩, fun x H' y => ?_⟩
          obtain ⟨w2, rfl, eS2, wd2, st2, r2⟩ := g2 x H' y
          have f2 := f.step wd2 st2
          split at hrest
          · cases hrest
          · rename_i δ1 hb
            refine ⟨w2, d, wipeD δ (slots tg ++ slots tg2), δ1, rfl, wd2, r2, (en1.mono f2.mo).wipe _, hb, fun σ' eσ en2 => ⟨by rw [wipe_sub (all := slots tg ++ slots tg2) eσ (fun i hi => List.mem_append.mpr (.inl hi)), wipe_wipe], ?_⟩⟩
            refine ⟨δ1, w2, rfl, wd2, en2, trivial, ?_⟩
            rw [eS2]
            split at hrest
            · rename_i S3 hcnd
              rw [hcnd]
              intro w3 k3 e3 wd3 st3 ek
              cases ek
              have f3 := f2.step wd3 st3
              have en3 := en2.mono st3.toMon
              refine iteT ⟨δ1, w3, rfl, wd3, en3, trivial, ?_⟩
              rw [e3]
              split at hrest
              · rename_i es S4 helt
                split at hrest
                · rename_i more S5 hmore
                  cases hrest
                  cases hi2 : evI G src2 δ1 S3 with
                  | stuck => rw [hi2] at helt; cases helt
                  | ex c v S9 => rw [hi2] at helt; cases helt
                  | ok it2 S6 =>
                    rw [hi2] at helt
                    have helt' : compI tg2 (evT G cnd2) (ev G elt) δ1 it2 S6 = .ok es S4 := helt
                    intro w4 J2 e4 wd4 st4 itk
                    obtain ⟨at2, fu2, itg2, hcI2, _, _⟩ := itk.g
                    rw [hcI2] at helt'
                    have f4 := f3.step wd4 st4
                    have en4 := en3.mono st4.toMon
                    refine ⟨fun j k2 H => ∃ (w' : Wo) (acc2 : List V) (accD2 rest2 : List D), w'.H = H ∧ Fil T w1 p w' acc2 accD2 ∧ Mon w4 w' ∧ compG at2 (slots tg2) tg2 (evT G cnd2) (ev G elt) δ1 k2 j w'.S = .ok rest2 S4 ∧ accD2 ++ rest2 = accD ++ es, ⟨fu2, w4, acc, accD, es, rfl, f4, Mon.refl _, by rw [e4]; exact helt', rfl⟩, ?_⟩
                    rintro j k2 H ⟨w5, acc2, accD2, rest2, rfl, f5, mo5, hrest2, hds2⟩
                    cases k2 with
                    | zero => cases hrest2
                    | succ k2 =>
                      unfold compG at hrest2
                      have itw2 := itg2 w5 j mo5 f5.wd
                      split at hrest2
                      · cases hrest2
                      · rename_i ea2
                        rw [ea2] at itw2
                        cases hrest2
                        rw [List.append_nil] at hds2
                        subst hds2
                        exact .inl ⟨itw2, w5, acc2, _, more, rfl, f5, hmore, by rw [List.append_assoc]; exact hds⟩
                      · rename_i d2 ea2
                        rw [ea2] at itw2
                        obtain ⟨g3, g4⟩ := itw2
                        refine .inr ⟨g3, fun H' => ∃ (w' : Wo) (acc2 : List V) (accD2 rest2 : List D), w'.H = H' ∧ Fil T w1 p w' acc2 accD2 ∧ Mon w4 w' ∧ compG at2 (slots tg2) tg2 (evT G cnd2) (ev G elt) δ1 k2 (j + 1) w'.S = .ok rest2 S4 ∧ accD2 ++ rest2 = accD ++ es, fun H' q => ⟨k2, Nat.lt_succ_self _, q⟩, fun x H' y => ?_⟩
                        obtain ⟨w6, rfl, eS6, wd6, st6, r6⟩ := g4 x H' y
                        have f6 := f5.step wd6 st6
                        split at hrest2
                        · cases hrest2
                        · rename_i δ2 hb2
                          refine ⟨w6, d2, wipeD δ1 (slots tg2), δ2, rfl, wd6, r6, (en4.mono (mo5.trans st6.toMon)).wipe _, hb2, fun σ2 eσ2 en6 => ⟨by rw [eσ2, wipe_wipe], ?_⟩⟩
                          refine ⟨δ2, w6, rfl, wd6, en6, trivial, ?_⟩
                          rw [eS6]
                          split at hrest2
                          · rename_i S7 hcnd2
                            rw [hcnd2]
                            intro w7 k7 e7 wd7 st7 ek
                            cases ek
                            refine iteT ⟨δ2, w7, rfl, wd7, en6.mono st7.toMon, trivial, ?_⟩
                            rw [e7]
                            split at hrest2
                            · rename_i e S8 helt2
                              rw [helt2]
                              intro w8 v e8 wd8 st8 r8
                              have f8 := f6.step wd8 (st7.trans st8)
                              split at hrest2
                              · rename_i es2 S9 hmore2
                                cases hrest2
                                have hlen : accD2.length + (es2.length + 1) = accD.length + es.length := by
                                  have := congrArg List.length hds2
                                  simpa using this
                                have hlen2 : accD.length + (es.length + more.length) = ds.length := by
                                  rw [← hds]
                                  simp
                                have hl := f8.rs.len
                                have pf := f8.push hnx r8
                                refine ⟨acc2, f8.at_, by omega, _, _, _, es2, rfl, pf, ?_, ?_, by rw [List.append_assoc]; exact hds2⟩
                                · exact ((mo5.trans st6.toMon).trans (st7.trans st8).toMon).trans (f8.wd.fill (by rw [f8.ex]; exact List.mem_cons_self) _).2
                                · show compG _ _ _ _ _ _ _ _ w8.S = _
                                  rw [e8]
                                  exact hmore2
                              · cases hrest2
                            · cases hrest2
                          · rename_i S7 hcnd2
                            rw [hcnd2]
                            intro w7 k7 e7 wd7 st7 ek
                            cases ek
                            refine iteF ⟨w7, acc2, accD2, rest2, rfl, f6.step wd7 st7, (mo5.trans st6.toMon).trans st7.toMon, ?_, hds2⟩
                            rw [e7]
                            exact hrest2
                          · cases hrest2
                · cases hrest
              · cases hrest
            · rename_i S3 hcnd
              rw [hcnd]
              intro w3 k3 e3 wd3 st3 ek
              cases ek
              refine iteF ⟨w3, acc, accD, rest, rfl, f2.step wd3 st3, ?_, hds⟩
              rw [e3]
              exact hrest
            · cases hrest
theorem ok_comp (hc : X.calm = true) (hN : X.N.Nodup) {elt tgE iter : Expr} {ifs : List Expr} {scope : Scope} {own : List (Str × Nat)} {tg : Tg} {src cnd el : C} {m : Bool} (hi : PI X tgE iter (tEvI T W Ξ (evI G src))) (ok : BlkOk X.N X.env.scope scope own) (ho : own.map (·.2) = slots tg)
    (hg : ∀ (s : Shared) (H : Hp) (C : Addr) (cl : List (Str × Addr)) (fp : List Addr), PG (X.blk s H scope (compEnvC scope cl C X.env) fp) tgE (tTg T tg)) (ht : ∀ (s : Shared) (H : Hp) (C : Addr) (cl : List (Str × Addr)) (fp : List Addr), PTs (X.blk s H scope (compEnvC scope cl C X.env) fp) ifs (tEvT T W0 X0 (evT G cnd)))
    (he : ∀ (s : Shared) (H : Hp) (C : Addr) (cl : List (Str × Addr)) (fp : List Addr), PE (X.blk s H scope (compEnvC scope cl C X.env) fp) elt (tEv T W0 X0 (ev G el))) (hs : ∀ x, foldedSetIterable iter X.env x = pure x) :
    PE X (.ListComp elt [⟨tgE, iter, ifs, 0⟩] scope pos) (tEv T W Ξ (ev G (.comp m tg src cnd el))) := by
  refine toPE (pe_lc hc hN hi ok hg ht he hs) fun σ H Q h => ?_
  rw [ho]
  exact comp_reads (wi := tEvI T W Ξ (evI G src)) h
theorem ok_setComp (hc : X.calm = true) (hN : X.N.Nodup) {i : Nat} {y : Str} {py spos : Pos} {elt tgE iter : Expr} {ifs : List Expr} {scope : Scope} {own : List (Str × Nat)} {tg : Tg} {src cnd el : C} {m : Bool} (hy : X.N[i]? = some y) (hyl : X.env.scope.names.lookup y = some .local)
    (hsw : swapsWith (.ListComp elt [⟨tgE, iter, ifs, 0⟩] scope pos) (some (.Name y py)) spos.line X.env = pure true) (hi : PI X tgE iter (tEvI T W X0 (evI G src))) (ok : BlkOk X.N X.env.scope scope own) (ho : own.map (·.2) = slots tg)
    (hg : ∀ (s : Shared) (H : Hp) (C : Addr) (cl : List (Str × Addr)) (fp : List Addr), PG (X.blk s H scope (compEnvC scope cl C X.env) fp) tgE (tTg T tg)) (ht : ∀ (s : Shared) (H : Hp) (C : Addr) (cl : List (Str × Addr)) (fp : List Addr), PTs (X.blk s H scope (compEnvC scope cl C X.env) fp) ifs (tEvT T W0 X0 (evT G cnd)))
    (he : ∀ (s : Shared) (H : Hp) (C : Addr) (cl : List (Str × Addr)) (fp : List Addr), PE (X.blk s H scope (compEnvC scope cl C X.env) fp) elt (tEv T W0 X0 (ev G el))) (hs : ∀ x, foldedSetIterable iter X.env x = pure x) :
    PS X (.Assign [.Name y py] (.ListComp elt [⟨tgE, iter, ifs, 0⟩] scope pos) spos) (tAsg (tEv T W X0 (ev G (.comp m tg src cnd el))) (gName i)) := by
  refine toPS (ps_setLc hc hN hy hyl hsw hi ok hg ht he hs) fun D σ H h => ?_
  rw [ho]
  exact comp_reads (wi := tEvI T W X0 (evI G src)) h
theorem ok_comp2 (hc : X.calm = true) (hN : X.N.Nodup) {elt tgE iter tgE2 iter2 : Expr} {ifs ifs2 : List Expr} {scope : Scope} {own : List (Str × Nat)} {tg tg2 : Tg} {src cnd src2 cnd2 el : C} {m : Bool} (hi : PI X tgE iter (tEvI T W Ξ (evI G src))) (ok : BlkOk X.N X.env.scope scope own) (ho : own.map (·.2) = slots tg ++ slots tg2)
    (hg : ∀ (s : Shared) (H : Hp) (C : Addr) (cl : List (Str × Addr)) (fp : List Addr), PG (X.blk s H scope (compEnvC scope cl C X.env) fp) tgE (tTg T tg)) (ht : ∀ (s : Shared) (H : Hp) (C : Addr) (cl : List (Str × Addr)) (fp : List Addr), PTs (X.blk s H scope (compEnvC scope cl C X.env) fp) ifs (tEvT T W0 X0 (evT G cnd)))
    (hi2 : ∀ (s : Shared) (H : Hp) (C : Addr) (cl : List (Str × Addr)) (fp : List Addr), PI (X.blk s H scope (compEnvC scope cl C X.env) fp) tgE2 iter2 (tEvI T W0 X0 (evI G src2))) (hg2 : ∀ (s : Shared) (H : Hp) (C : Addr) (cl : List (Str × Addr)) (fp : List Addr), PG (X.blk s H scope (compEnvC scope cl C X.env) fp) tgE2 (tTg T tg2)) (ht2 : ∀ (s : Shared) (H : Hp) (C : Addr) (cl : List (Str × Addr)) (fp : List Addr), PTs (X.blk s H scope (compEnvC scope cl C X.env) fp) ifs2 (tEvT T W0 X0 (evT G cnd2)))
    (he : ∀ (s : Shared) (H : Hp) (C : Addr) (cl : List (Str × Addr)) (fp : List Addr), PE (X.blk s H scope (compEnvC scope cl C X.env) fp) elt (tEv T W0 X0 (ev G el))) (hs : ∀ x, foldedSetIterable iter X.env x = pure x) (hs2 : ∀ env x, foldedSetIterable iter2 env x = pure x) :
    PE X (.ListComp elt [⟨tgE, iter, ifs, 0⟩, ⟨tgE2, iter2, ifs2, 0⟩] scope pos) (tEv T W Ξ (ev G (.comp2 m tg src cnd tg2 src2 cnd2 el))) := by
  refine toPE (pe_lc2 (vs1 := slots tg2) hc hN hi ok (by rw [ho]; exact fun i hi => List.mem_append.mpr (.inr hi)) hg ht hi2 hg2 ht2 he hs hs2) fun σ H Q h => ?_
  rw [ho]
  exact comp_reads2 h
theorem ok_setComp2 (hc : X.calm = true) (hN : X.N.Nodup) {i : Nat} {y : Str} {py spos : Pos} {elt tgE iter tgE2 iter2 : Expr} {ifs ifs2 : List Expr} {scope : Scope} {own : List (Str × Nat)} {tg tg2 : Tg} {src cnd src2 cnd2 el : C} {m : Bool} (hy : X.N[i]? = some y) (hyl : X.env.scope.names.lookup y = some .local)
    (hsw : swapsWith (.ListComp elt [⟨tgE, iter, ifs, 0⟩, ⟨tgE2, iter2, ifs2, 0⟩] scope pos) (some (.Name y py)) spos.line X.env = pure true) (hi : PI X tgE iter (tEvI T W X0 (evI G src))) (ok : BlkOk X.N X.env.scope scope own) (ho : own.map (·.2) = slots tg ++ slots tg2)
    (hg : ∀ (s : Shared) (H : Hp) (C : Addr) (cl : List (Str × Addr)) (fp : List Addr), PG (X.blk s H scope (compEnvC scope cl C X.env) fp) tgE (tTg T tg)) (ht : ∀ (s : Shared) (H : Hp) (C : Addr) (cl : List (Str × Addr)) (fp : List Addr), PTs (X.blk s H scope (compEnvC scope cl C X.env) fp) ifs (tEvT T W0 X0 (evT G cnd)))
    (hi2 : ∀ (s : Shared) (H : Hp) (C : Addr) (cl : List (Str × Addr)) (fp : List Addr), PI (X.blk s H scope (compEnvC scope cl C X.env) fp) tgE2 iter2 (tEvI T W0 X0 (evI G src2))) (hg2 : ∀ (s : Shared) (H : Hp) (C : Addr) (cl : List (Str × Addr)) (fp : List Addr), PG (X.blk s H scope (compEnvC scope cl C X.env) fp) tgE2 (tTg T tg2)) (ht2 : ∀ (s : Shared) (H : Hp) (C : Addr) (cl : List (Str × Addr)) (fp : List Addr), PTs (X.blk s H scope (compEnvC scope cl C X.env) fp) ifs2 (tEvT T W0 X0 (evT G cnd2)))
    (he : ∀ (s : Shared) (H : Hp) (C : Addr) (cl : List (Str × Addr)) (fp : List Addr), PE (X.blk s H scope (compEnvC scope cl C X.env) fp) elt (tEv T W0 X0 (ev G el))) (hs : ∀ x, foldedSetIterable iter X.env x = pure x) (hs2 : ∀ env x, foldedSetIterable iter2 env x = pure x) :
    PS X (.Assign [.Name y py] (.ListComp elt [⟨tgE, iter, ifs, 0⟩, ⟨tgE2, iter2, ifs2, 0⟩] scope pos) spos) (tAsg (tEv T W X0 (ev G (.comp2 m tg src cnd tg2 src2 cnd2 el))) (gName i)) := by
  refine toPS (ps_setLc2 (vs1 := slots tg2) hc hN hy hyl hsw hi ok (by rw [ho]; exact fun i hi => List.mem_append.mpr (.inr hi)) hg ht hi2 hg2 ht2 he hs hs2) fun D σ H h => ?_
  rw [ho]
  exact comp_reads2 h
end
end PV

namespace PV
open PySem L2 PyProof.Rows RZ

/-- a def keeps its promise where no repr is under way -/
structure FnG (P : Program) (wl : World) (K : PySem.W.Frag) (mg : Str → Option Value) (base : Heap) (k : Nat) (f : Addr) (fd : FuncData) (ps : List Str) (sp : Sp) : Prop where
  len : ∀ vs H Q E, sp vs H Q E → vs.length = ps.length
  run : ∀ (A : Around) (outer : List PySem.Env) (s : Shared) (H : Hp) (args : Args) (us : List Value) (vs : List V) (Q : VK) (E : XK), Room k A → A.guards = some [] → Env0 P wl K mg base A outer s H → BindsTo s fd args (ps.zip us) → Vals vs us → sp vs H Q E →
    codeAny (model P wl) A (.call (.ref f) args) (CR (L2.CX P wl) outer P wl H s Q E) s
theorem FnG.mono {P : Program} {wl : World} {K : PySem.W.Frag} {mg : Str → Option Value} {base : Heap} {j k : Nat} {f : Addr} {fd : FuncData} {ps : List Str} {sp : Sp} (F : FnG P wl K mg base j f fd ps sp) (h : j ≤ k) : FnG P wl K mg base k f fd ps sp :=
  ⟨F.len, fun A outer s H args us vs Q E hr => F.run A outer s H args us vs Q E (hr.mono h)⟩
theorem FnG.of {P : Program} {wl : World} {K : PySem.W.Frag} {mg : Str → Option Value} {base : Heap} {k : Nat} {f : Addr} {fd : FuncData} {x qual : Str} {st : Stmt} {N ps : List Str} {sp : Sp} (F : Fun K x qual st f fd) (S : FnScope N ps (defScope st))
    (len : ∀ vs H Q E, sp vs H Q E → vs.length = ps.length)
    (hbody : ∀ (cdv : Value) (A : Around) (outer : List PySem.Env) (s : Shared) (H : Hp) (vs : List V) (Q : VK) (E : XK), Room k (A.deeper (envOfC qual (defScope st) s.heap.objs.size f cdv)) → A.guards = some [] → sp vs H Q E →
      ∃ t, PSs (cxOf (L2.CX P wl) P wl K mg base N qual (defScope st) f cdv A outer s H E) (defBody st) t ∧ t { nx := fun _ H' => Q .non H', rt := Q } (start N vs) H) :
    FnG P wl K mg base (k + 1) f fd ps sp := by
  obtain ⟨oc, od, kV, doc, pm, an, cdv, ct, osl, rfl, lk, hcd⟩ := F.ex
  refine ⟨len, fun A outer s H args us vs Q E room gd env0 bnd rel pr => ?_⟩
  have hlen := len _ _ _ _ pr
  have kin : K.In s.heap := env0.mod.kin.keeps fun b o e => (env0.bs b o e).1
  have lim : s.heap.NoLimit := env0.mod.nolimit.keeps fun b o e => (env0.bs b o e).1
  refine codeAny_call_function room.depth (kin _ _ lk) rfl S.co S.gen rfl (PySem.W.codeRec_of kin hcd) (bnd _ _ _ _ ?_)
  refine wpAny_newFunctionEnv_cells S.kind (fun y hy => ?_) fun env he s1 ic => ?_
  · obtain ⟨n, v⟩ := y
    rcases S.par n (List.of_mem_zip hy).1 with q | q
    · exact Or.inl q
    · exact Or.inr ⟨q, PySem.W.cellsFrom_some _ _ _ (Or.inl q)⟩
  · subst he
    refine ⟨lim.keeps ic.toInCall.keep, codeAny_func ?_⟩
    obtain ⟨t, ht, hq⟩ := hbody cdv A outer s H vs Q E (room.deeper _) gd pr
    have inv := inv_start (CX := L2.CX P wl) (E := E) S room.hd env0 hlen rel ic
    refine wpAny_mono (ht.run [] s1 (start N vs) H _ inv hq) (fun fl s' hs => ?_) fun e s' hs => hs
    cases fl with
    | ret u => obtain ⟨v, σ', H', J, rv, q⟩ := hs; exact ⟨v, H', J.os, J.bare, J.base, J.hok, rv, q⟩
    | next => obtain ⟨σ', H', J, q⟩ := hs; exact ⟨V.non, H', J.os, J.bare, J.base, J.hok, rfl, q⟩
    | brk => obtain ⟨_, _, _, q⟩ := hs; exact q.elim
    | cont => obtain ⟨_, _, _, q⟩ := hs; exact q.elim
/-- a def keeps its promise at its arguments' places, where no repr is under way -/
structure FnA (P : Program) (wl : World) (K : PySem.W.Frag) (mg : Str → Option Value) (base : Heap) (k : Nat) (f : Addr) (sp : Sp) : Prop where
  run : ∀ (A : Around) (outer : List PySem.Env) (s : Shared) (H : Hp) (us : List Value) (vs : List V) (Q : VK) (E : XK), Room k A → A.guards = some [] → Env0 P wl K mg base A outer s H → Vals vs us → sp vs H Q E →
    codeAny (model P wl) A (.call (.ref f) ⟨us, []⟩) (CR (L2.CX P wl) outer P wl H s Q E) s
theorem FnA.ofG {P : Program} {wl : World} {K : PySem.W.Frag} {mg : Str → Option Value} {base : Heap} {k : Nat} {f : Addr} {fd : FuncData} {ps : List Str} {sp : Sp} (F : FnG P wl K mg base k f fd ps sp) (hb : Binds K fd ps []) : FnA P wl K mg base k f sp := by
  refine ⟨fun A outer s H us vs Q E hr hgd e0 r h => ?_⟩
  have hl : us.length = ps.length := r.length.symm.trans (F.len _ _ _ _ h)
  have kin : K.In s.heap := e0.mod.kin.keeps fun b o e => (e0.bs b o e).1
  have bd := hb s us kin (by rw [List.append_nil]; exact hl)
  rw [List.append_nil] at bd
  exact F.run A outer s H ⟨us, []⟩ us vs Q E hr hgd e0 bd r h
/-- a def keeps its promise at arguments of which the last are named -/
structure FnK (P : Program) (wl : World) (K : PySem.W.Frag) (mg : Str → Option Value) (base : Heap) (k : Nat) (f : Addr) (ks : List Str) (sp : List V → List V → Hp → VK → XK → Prop) : Prop where
  run : ∀ (A : Around) (outer : List PySem.Env) (s : Shared) (H : Hp) (us ws : List Value) (vs zs : List V) (Q : VK) (E : XK), Room k A → A.guards = some [] → Env0 P wl K mg base A outer s H → Vals vs us → Vals zs ws → sp vs zs H Q E →
    codeAny (model P wl) A (.call (.ref f) ⟨us, ks.zip ws⟩) (CR (L2.CX P wl) outer P wl H s Q E) s
def spEvK (T : Tb) (f : List D → List D → Store → R D) : List V → List V → Hp → VK → XK → Prop := fun vs zs H Q E => ∃ (ds xs : List D) (w : Wo), w.H = H ∧ Wd T w ∧ Reps T w ds vs ∧ Reps T w xs zs ∧ Post T (fun cls dd _ H => E cls dd H) w [] (Rep T) (f ds xs w.S) Q
/-- the promise of a function upon data -/
def spEv (T : Tb) (f : List D → Store → R D) : Sp := fun vs H Q E => ∃ (ds : List D) (w : Wo), w.H = H ∧ Wd T w ∧ Reps T w ds vs ∧ Post T (fun cls dd _ H => E cls dd H) w [] (Rep T) (f ds w.S) Q
section
variable {X : Cx} {T : Tb} {W : WX} {Ξ : Xi} {G : Gv} {a b c : Expr} {pos : Pos}
theorem run_A {k : Nat} {f : Addr} {sp : Sp} {pins : List (Addr × Obj)} {σ : L2.St} {H : Hp} {s : Shared} {Q : VK} {us : List Value} {vs : List V} (F : FnA X.prog X.w X.K X.mg X.base k f sp) (hr : Room k X.A) (hgd : X.A.guards = some [])
    (tk : Takes X W) (I : Inv X pins σ H s) (r : Vals vs us) (h : sp vs H Q (WE W σ)) : wpAny (model X.prog X.w) X.A (call (.ref f) us) (EP X pins σ Q) X.xe s := by
  refine wpAny_call (codeAny_mono (F.run X.A X.stack s H us vs Q (WE W σ) hr hgd I.env0 r h) fun res s' hq => ?_)
  match res, hq with
  | .error e, hq => exact passAt tk σ pins H s e s' I hq
  | .ok (.ret u), hq => exact I.after hq
theorem run_K {k : Nat} {f : Addr} {ks : List Str} {sp : List V → List V → Hp → VK → XK → Prop} {pins : List (Addr × Obj)} {σ : L2.St} {H : Hp} {s : Shared} {Q : VK} {us ws : List Value} {vs zs : List V} (F : FnK X.prog X.w X.K X.mg X.base k f ks sp) (hr : Room k X.A) (hgd : X.A.guards = some [])
    (tk : Takes X W) (I : Inv X pins σ H s) (r : Vals vs us) (rz : Vals zs ws) (h : sp vs zs H Q (WE W σ)) : wpAny (model X.prog X.w) X.A (call (.ref f) us (ks.zip ws)) (EP X pins σ Q) X.xe s := by
  refine wpAny_call (codeAny_mono (F.run X.A X.stack s H us ws vs zs Q (WE W σ) hr hgd I.env0 r rz h) fun res s' hq => ?_)
  match res, hq with
  | .error e, hq => exact passAt tk σ pins H s e s' I hq
  | .ok (.ret u), hq => exact I.after hq
theorem toPK {kws : List Keyword} {t t' : TA} (h : PK X kws t) (k : ∀ σ H Q, t' σ H Q → t σ H Q) : PK X kws t' := ⟨fun p pins s σ H Q I q => h.run p pins s σ H Q I (k σ H Q q)⟩
theorem ok_knil : PK X [] (tEvs T W Ξ (evs G .nil)) := by
  refine toPK pk_nil fun σ H Q h => ?_
  obtain ⟨δ, w, rfl, wd, en, xi, h⟩ := h
  exact h w [] rfl wd (Step.refl w) .nil
theorem ok_kcons (kp : Kept Ξ) {x y : C} {kws : List Keyword} {nm : Option Str} {q : Pos} (ha : PE X a (tEv T W Ξ (ev G x))) (hb : PK X kws (tEvs T W Ξ (evs G y))) (hx : isStar x = false) : PK X (⟨nm, a, q⟩ :: kws) (tEvs T W Ξ (evs G (.cons x y))) := by
  refine toPK (pk_cons ha hb) fun σ H Q h => ?_
  obtain ⟨δ, w, rfl, wd, en, xi, h⟩ := h
  have hev : evs G (.cons x y) δ w.S = (ev G x δ w.S).bind fun x S1 => (evs G y δ S1).bind fun xs S2 => .ok (x :: xs) S2 := by
    cases x <;> first | rfl | cases hx
  rw [hev] at h
  refine ⟨δ, w, rfl, wd, en, xi, (Post.split h).mono fun v H1 ⟨w1, d1, e1, wd1, st1, r1, h1⟩ => ?_⟩
  subst e1
  refine ⟨δ, w1, rfl, wd1, en.mono st1.toMon, kp _ _ _ st1 xi, (Post.split h1).mono fun vs H2 ⟨w2, ds, e2, wd2, st2, r2, h2⟩ => ?_⟩
  subst e2
  exact h2 w2 _ rfl wd2 (Step.refl w2) (.cons (r1.mono st2.toMon) r2)
/-- f(e, .., k = v, ..) -/
theorem ok_callK (kp : Kept Ξ) {k : Nat} {f : Addr} {ks : List Str} {x : Str} {p : Pos} {e : Expr} {es : List Expr} {kws : List Keyword} {n : Nat} {y z : C} (F : FnK X.prog X.w X.K X.mg X.base k f ks (spEvK T (G.cak n))) (hr : Room k X.A) (hgd : X.A.guards = some [])
    (hg : Gl X x) (hm : X.mg x = some (.ref f)) (hk : PySem.W.keepIn X.K (.ref f) = true) (tk : Takes X W) (ha : PA X (e :: es) (tEvs T W Ξ (evs G y))) (hkw : PK X kws (tEvs T W Ξ (evs G z))) (hs : plainE e = true) (hdb : (x == ("__debug__" : Str)) = false)
    (hall : (backToKw pos (keywordEach kws X.env)).all (·.1.isSome) = true) (hks : (backToKw pos (keywordEach kws X.env)).filterMap (·.1) = ks) (hpl : ((backTo pos (starEach (e :: es) X.env)).any (·.1) || (backToKw pos (keywordEach kws X.env)).any (·.1.isNone)) = false) :
    PE X (.Call (.Name x p) (e :: es) kws pos) (tEv T W Ξ (ev G (.callk n y z))) := by
  refine ⟨fun pins s σ H Q I h => ?_⟩
  obtain ⟨δ, w, rfl, wd, en, xi, h⟩ := h
  have h' : Post T W w σ (Rep T) ((evs G y δ w.S).bind fun ds S1 => (evs G z δ S1).bind fun zs S2 => G.cak n ds zs S2) Q := h
  refine wpAny_Call_Name_kw (ld_glob I hg hm ?_ hdb)
  refine PySem.W.callWith_KW (h₀ := X.base) I.ok.mod.kin hk hall (thn (ha.run pos pins s σ w.H (fun vs H1 => tEvs T W Ξ (evs G z) σ H1 fun zs H2 => ∃ (w2 : Wo) (xs ys : List D), w2.H = H2 ∧ Wd T w2 ∧ Reps T w2 xs vs ∧ Reps T w2 ys zs ∧ Post T W w2 σ (Rep T) (G.cak n xs ys w2.S) Q) I ?_) fun us s1 hq => ?_) hpl (star_plain hs)
  · refine ⟨δ, w, rfl, wd, en, xi, (Post.split h').mono fun vs H1 ⟨w1, xs, e1, wd1, st1, r1, h1⟩ => ?_⟩
    subst e1
    exact ⟨δ, w1, rfl, wd1, en.mono st1.toMon, kp _ _ _ st1 xi, (Post.split h1).mono fun zs H2 ⟨w2, ys, e2, wd2, st2, r2, h2⟩ => ⟨w2, xs, ys, e2, wd2, r1.mono st2.toMon, r2, h2⟩⟩
  · obtain ⟨vs, H1, I1, r, q⟩ := hq
    refine thn (hkw.run pos pins s1 σ H1 _ I1 q) fun ws s2 hq2 => ?_
    obtain ⟨zs, H2, I2, rz, w2, xs, ys, rfl, wd2, r2, r3, q2⟩ := hq2
    refine ⟨I2.kIn, ?_⟩
    rw [hks]
    exact run_K F hr hgd tk I2 r rz ⟨xs, ys, w2, rfl, wd2, r2, r3, q2⟩
theorem npl_of {env : PySem.Env} {pos : Pos} : ∀ l : List Expr, l.all plainE = true → (backTo pos (starEach l env)).any (·.1) = false := by
  intro l
  induction l with
  | nil => intro _; rfl
  | cons z l ih =>
    intro hl
    rw [List.all_cons, Bool.and_eq_true] at hl
    rw [star_plain hl.1]
    show (false || (backTo pos (starEach l env)).any (·.1)) = false
    rw [ih hl.2]
    rfl
/-- f(..) -/
theorem ok_call (kp : Kept Ξ) {k : Nat} {f : Addr} {x : Str} {p : Pos} {e : Expr} {es : List Expr} {n : Nat} {y : C} (F : FnA X.prog X.w X.K X.mg X.base k f (spEv T (G.cal n))) (hr : Room k X.A) (hgd : X.A.guards = some [])
    (hg : Gl X x) (hm : X.mg x = some (.ref f)) (hk : PySem.W.keepIn X.K (.ref f) = true) (tk : Takes X W) (ha : PA X (e :: es) (tEvs T W Ξ (evs G y))) (hs : plainE e = true) (hdb : (x == ("__debug__" : Str)) = false) :
    PE X (.Call (.Name x p) (e :: es) [] pos) (tEv T W Ξ (ev G (.call n y))) := by
  refine ⟨fun pins s σ H Q I h => ?_⟩
  obtain ⟨δ, w, rfl, wd, en, xi, h⟩ := h
  refine wpAny_Call_Name_kw (ld_glob I hg hm ?_ hdb)
  have hA := thn (ha.run pos pins s σ w.H _ I (tEvs.bind1 kp wd en xi h)) (Q' := fun us s1 => X.K.In s1.heap ∧ wpAny (model X.prog X.w) X.A (call (.ref f) us) (EP X pins σ Q) X.xe s1) fun us s1 hq => by
    obtain ⟨vs, H1, I1, r, w1, xs, rfl, wd1, en1, xi1, rs, q⟩ := hq
    exact ⟨I1.kIn, run_A F hr hgd tk I1 r ⟨xs, w1, rfl, wd1, rs, q⟩⟩
  by_cases hst : (backTo pos (starEach es X.env)).any (·.1) = true
  · exact PySem.W.callWith_S2 (h₀ := X.base) I.ok.mod.kin hk hA (star_plain hs) hst
  · exact PySem.W.callWith_K (h₀ := X.base) I.ok.mod.kin hk hA (star_plain hs) (by simpa using hst)
/-- f(*e) -/
theorem ok_callS (hK : X.K = T.K) (kp : Kept Ξ) {k : Nat} {f : Addr} {x : Str} {p q : Pos} {e : Expr} {n : Nat} {y : C} (F : FnA X.prog X.w X.K X.mg X.base k f (spEv T (G.cal n))) (hr : Room k X.A) (hgd : X.A.guards = some [])
    (hg : Gl X x) (hm : X.mg x = some (.ref f)) (hk : PySem.W.keepIn X.K (.ref f) = true) (tk : Takes X W) (ha : PE X e (tEv T W Ξ (ev G y))) (hdb : (x == ("__debug__" : Str)) = false) :
    PE X (.Call (.Name x p) [.Starred e q] [] pos) (tEv T W Ξ (ev G (.call n (.cons (.star y) .nil)))) := by
  refine ⟨fun pins s σ H Q I h => ?_⟩
  obtain ⟨δ, w, rfl, wd, en, xi, h⟩ := h
  refine wpAny_Call_Name_kw (ld_glob I hg hm ?_ hdb)
  have h' : Post T W w σ (Rep T) ((ev G y δ w.S).bind fun x S1 => match seqD S1 x with | some xs => G.cal n (xs ++ []) S1 | none => .stuck) Q := by
    have e : ev G (.call n (.cons (.star y) .nil)) δ w.S = (ev G y δ w.S).bind fun x S1 => match seqD S1 x with | some xs => G.cal n (xs ++ []) S1 | none => .stuck := by
      show (evs G (.cons (.star y) .nil) δ w.S).bind _ = _
      show ((ev G y δ w.S).bind fun x S1 => match seqD S1 x with
        | some xs => (evs G .nil δ S1).bind fun ys S2 => .ok (xs ++ ys) S2
        | none => .stuck).bind (fun ds S1 => G.cal n ds S1) = _
      cases ev G y δ w.S with
      | ok d S1 =>
        show (match seqD S1 d with
          | some xs => (evs G .nil δ S1).bind fun ys S2 => .ok (xs ++ ys) S2
          | none => .stuck).bind (fun ds S1 => G.cal n ds S1) = (match seqD S1 d with | some xs => G.cal n (xs ++ []) S1 | none => .stuck)
        cases seqD S1 d <;> rfl
      | ex _ _ _ => rfl
      | stuck => rfl
    rw [← e]
    exact h
  refine PySem.W.callWith_S (h₀ := X.base) I.ok.mod.kin hk (thn (ha.run pins s σ w.H _ I (tEv.bind1 kp wd en xi h')) fun v s1 hq => ?_) rfl
  obtain ⟨u, H1, I1, ru, w1, d, rfl, wd1, en1, xi1, r1, q1⟩ := hq
  split at q1
  · rename_i xs hxs
    obtain ⟨b, us, rfl, hb, rs⟩ : ∃ q us, u = .ref q ∧ (SqT X.K w1.H q us ∨ SqL X.K w1.H q us) ∧ Reps T w1 xs us := by
      unfold seqD at hxs
      split at hxs
      · rename_i ds ed
        cases hxs
        obtain ⟨q, us, e1, e2, e3⟩ := deref_lst wd1 r1 ed
        exact ⟨q, us, e1, .inr (SqL.of e2), e3⟩
      · rename_i ds ed
        cases hxs
        obtain ⟨q, us, e1, e2, _, e3⟩ := deref_tup wd1 r1 ed
        exact ⟨q, us, e1, .inl (by rw [hK]; exact e2), e3⟩
      · cases hxs
    have ev : v = Value.ref b := ru
    subst ev
    rw [List.append_nil] at q1
    exact StX.star_any I1 hb fun ws s2 I2 rv => ⟨I2.kIn, run_A F hr hgd tk I2 rv ⟨xs, w1, rfl, wd1, rs, q1⟩⟩
  · exact q1.elim
theorem ok_call0 {k : Nat} {f : Addr} {x : Str} {p : Pos} {n : Nat} (F : FnA X.prog X.w X.K X.mg X.base k f (spEv T (G.cal n))) (hr : Room k X.A) (hgd : X.A.guards = some [])
    (hg : Gl X x) (hm : X.mg x = some (.ref f)) (hk : PySem.W.keepIn X.K (.ref f) = true) (tk : Takes X W) (hdb : (x == ("__debug__" : Str)) = false) : PE X (.Call (.Name x p) [] [] pos) (tEv T W Ξ (ev G (.call n .nil))) := by
  refine ⟨fun pins s σ H Q I h => ?_⟩
  obtain ⟨δ, w, rfl, wd, en, xi, h⟩ := h
  have q : Post T W w σ (Rep T) (G.cal n [] w.S) Q := h
  refine wpAny_Call_Name_kw (ld_glob I hg hm ?_ hdb)
  exact PySem.W.callWith_K0 I.kIn hk (run_A (us := []) (vs := []) F hr hgd tk I .nil ⟨[], w, rfl, wd, .nil, q⟩)
theorem args_two {M : Model} {A : Around} {E : Value → Shared → Prop} {s : Shared} {f : Value} {b c : Bool} {x y : Sem Value} {rest : List (Bool × Sem Value)} {Q : Args → Shared → Prop} (hs : wpAny M A (spliced ((b, x) :: (c, y) :: rest)) (fun us s1 => Q ⟨us, []⟩ s1) E s) : wpAny M A (evalArgs f true ((b, x) :: (c, y) :: rest) []) Q E s := by
  unfold evalArgs
  cases b
  all_goals first
    | (refine wpAny_bind (wpAny_mono hs (fun us s1 hq => ?_) fun _ _ z => z); exact wpAny_holding (wpAny_bind (wpAny_pure (wpAny_bind (wpAny_pure (wpAny_pure hq))))))
    | (refine wpAny_bind (wpAny_bind (wpAny_mono hs (fun us s1 hq => wpAny_pure ?_) fun _ _ z => z)); exact wpAny_holding (wpAny_bind (wpAny_pure (wpAny_bind (wpAny_pure (wpAny_pure hq))))))
theorem star_cons (e : Expr) (es : List Expr) (env : PySem.Env) : ∃ b x, starEach (e :: es) env = (b, x) :: starEach es env := by
  cases e <;> exact ⟨_, _, rfl⟩
/-- f(*e, e2, ..) -/
theorem ok_call2 (kp : Kept Ξ) {k : Nat} {f : Addr} {x : Str} {p : Pos} {e e2 : Expr} {es : List Expr} {n : Nat} {y : C} (F : FnA X.prog X.w X.K X.mg X.base k f (spEv T (G.cal n))) (hr : Room k X.A) (hgd : X.A.guards = some [])
    (hg : Gl X x) (hm : X.mg x = some (.ref f)) (hk : PySem.W.keepIn X.K (.ref f) = true) (tk : Takes X W) (ha : PA X (e :: e2 :: es) (tEvs T W Ξ (evs G y))) (hdb : (x == ("__debug__" : Str)) = false) (hst : (backTo pos (starEach (e :: e2 :: es) X.env)).any (·.1) = true) :
    PE X (.Call (.Name x p) (e :: e2 :: es) [] pos) (tEv T W Ξ (ev G (.call n y))) := by
  refine ⟨fun pins s σ H Q I h => ?_⟩
  obtain ⟨δ, w, rfl, wd, en, xi, h⟩ := h
  refine wpAny_Call_Name_kw (ld_glob I hg hm ?_ hdb)
  have hA := thn (ha.run pos pins s σ w.H _ I (tEvs.bind1 kp wd en xi h)) (Q' := fun us s1 => X.K.In s1.heap ∧ wpAny (model X.prog X.w) X.A (call (.ref f) us) (EP X pins σ Q) X.xe s1) fun us s1 hq => by
    obtain ⟨vs, H1, I1, r, w1, xs, rfl, wd1, en1, xi1, rs, q⟩ := hq
    exact ⟨I1.kIn, run_A F hr hgd tk I1 r ⟨xs, w1, rfl, wd1, rs, q⟩⟩
  obtain ⟨b1, x1, e1⟩ := star_cons e (e2 :: es) X.env
  obtain ⟨b2, x2, e3⟩ := star_cons e2 es X.env
  rw [e1, e3] at hA hst ⊢
  exact PySem.W.ks_call (P := X.K.In) (first := []) hst (PySem.W.keeps_K hk) (args_two hA)
/-! statements -/
theorem PostS.step {w w' : Wo} {r : RS} {E : Ends} (st : Step w w') (h : PostS T W w r E) : PostS T W w' r E := by
  cases r with
  | nx δ S => exact fun w2 σ e wd s2 en => h w2 σ e wd (st.trans s2) en
  | bk δ S => exact fun w2 σ e wd s2 en => h w2 σ e wd (st.trans s2) en
  | ct δ S => exact fun w2 σ e wd s2 en => h w2 σ e wd (st.trans s2) en
  | rt d S => exact fun w2 v e wd s2 rv => h w2 v e wd (st.trans s2) rv
  | ex c v δ S => exact fun w2 σ cl dd e wd s2 en rx => h w2 σ cl dd e wd (st.trans s2) en rx
  | stuck => exact h
theorem PostS.ofR {w : Wo} {σ : L2.St} {δ : Env} {r : R D} {f : D → Store → RS} {E : Ends} (en : EnvOk T w δ σ) (h : PostS T W w (RofS δ r f) E) :
    Post T W w σ (Rep T) r fun v H1 => ∃ (w1 : Wo) (d : D), w1.H = H1 ∧ Wd T w1 ∧ Step w w1 ∧ Rep T w1 d v ∧ PostS T W w1 (f d w1.S) E := by
  cases r with
  | ok a S =>
    intro w' v e wd st rl
    refine ⟨w', a, rfl, wd, st, rl, PostS.step st ?_⟩
    rw [e]
    exact h
  | ex c v S => exact fun w' cl dd e wd st rx => h w' σ cl dd e wd st (en.mono st.toMon) rx
  | stuck => exact h
theorem ok_expr {y : C} (ha : PE X a (tEv T W X0 (ev G y))) (hs : swapsWith a none pos.line X.env = pure false) : PS X (.Expr a pos) (tSt T W (ex G (.expr y))) := by
  refine toPS (ps_expr ha hs) fun E σ H h => ?_
  obtain ⟨δ, w, rfl, wd, en, h⟩ := h
  exact ⟨δ, w, rfl, wd, en, trivial, (PostS.ofR en h).mono fun v H1 ⟨w1, d, e1, wd1, st1, r1, h1⟩ => by
    subst e1
    exact h1 w1 σ rfl wd1 (Step.refl _) (en.mono st1.toMon)⟩
theorem ok_ret {y : C} (ha : PE X a (tEv T W X0 (ev G y))) : PS X (.Return (some a) pos) (tSt T W (ex G (.ret y))) := by
  refine toPS (ps_ret ha) fun E σ H h => ?_
  obtain ⟨δ, w, rfl, wd, en, h⟩ := h
  exact ⟨δ, w, rfl, wd, en, trivial, (PostS.ofR en h).mono fun v H1 ⟨w1, d, e1, wd1, st1, r1, h1⟩ => by
    subst e1
    exact h1 w1 v rfl wd1 (Step.refl _) r1⟩
theorem ok_retN : PS X (.Return none pos) (tSt T W (ex G .retN)) := by
  refine toPS ps_retN fun E σ H h => ?_
  obtain ⟨δ, w, rfl, wd, en, h⟩ := h
  exact h w .non rfl wd (Step.refl _) .non
theorem ok_pass : PS X (.Pass pos) (tSt T W (ex G .pass)) := by
  refine toPS ps_pass fun E σ H h => ?_
  obtain ⟨δ, w, rfl, wd, en, h⟩ := h
  exact h w σ rfl wd (Step.refl _) en
theorem ok_brk : PS X (.Break pos) (tSt T W (ex G .brk)) := by
  refine toPS ps_break fun E σ H h => ?_
  obtain ⟨δ, w, rfl, wd, en, h⟩ := h
  exact h w σ rfl wd (Step.refl _) en
theorem ok_cnt : PS X (.Continue pos) (tSt T W (ex G .cnt)) := by
  refine toPS ps_continue fun E σ H h => ?_
  obtain ⟨δ, w, rfl, wd, en, h⟩ := h
  exact h w σ rfl wd (Step.refl _) en
/-- target = e -/
theorem asg_reads {tg : Tg} {y : C} {E : Ends} {σ : L2.St} {H : Hp} (h : tSt T W (ex G (.set tg y)) E σ H) : tAsg (tEv T W X0 (ev G y)) (tTg T tg) E σ H := by
  obtain ⟨δ, w, rfl, wd, en, h⟩ := h
  refine ⟨δ, w, rfl, wd, en, trivial, (PostS.ofR en h).mono fun v H1 ⟨w1, d, e1, wd1, st1, r1, h1⟩ => ?_⟩
  subst e1
  split at h1
  · rename_i δ1 hb
    exact ⟨w1, d, δ, δ1, rfl, wd1, r1, en.mono st1.toMon, hb, fun σ' _ en' => h1 w1 σ' rfl wd1 (Step.refl _) en'⟩
  · exact h1.elim
theorem ok_set {tg : Tg} {y : C} {tgE : Expr} (ha : PE X a (tEv T W X0 (ev G y))) (hg : PG X tgE (tTg T tg)) (hs : swapsWithSole [tgE] a pos.line X.env = pure false) (hw : swappedStores [tgE] a X.env = pure none) (h1 : (assignEach [tgE] X.env).map (·.2) = [assign tgE X.env]) :
    PS X (.Assign [tgE] a pos) (tSt T W (ex G (.set tg y))) := toPS (ps_asg ha hg hs hw h1) fun E σ H h => asg_reads h
theorem ok_setC {i : Nat} {y : C} {st : Stmt} (h : PS X st (tAsg (tEv T W X0 (ev G y)) (gName i))) : PS X st (tSt T W (ex G (.set (.one i) y))) := by
  refine toPS h fun E σ H h => ?_
  obtain ⟨δ, w, rfl, wd, en, h⟩ := h
  refine ⟨δ, w, rfl, wd, en, trivial, (PostS.ofR en h).mono fun v H1 ⟨w1, d, e1, wd1, st1, r1, h1⟩ => ?_⟩
  subst e1
  exact h1 w1 _ rfl wd1 (Step.refl _) ((en.mono st1.toMon).set i r1)
/-- a, b = x, y -/
theorem ok_par {i j : Nat} {x y : Str} {p q : C} {px py pt : Pos} {kt k2 : Nat} {pt2 : Pos} (hc : X.calm = true) (hN : X.N.Nodup) (hi : X.N[i]? = some x) (hj : X.N[j]? = some y) (hij : i ≠ j) (hx : X.env.scope.names.lookup x = some .local) (hy : X.env.scope.names.lookup y = some .local)
    (ha : PA X [a, b] (tEvs T W X0 (evs G (.cons p (.cons q .nil))))) (hw : swappedStores [.Tuple [.Name x px, .Name y py] kt pt] (.Tuple [a, b] k2 pt2) X.env = pure (some [x, y])) (hs : swapsWithSole [.Tuple [.Name x px, .Name y py] kt pt] (.Tuple [a, b] k2 pt2) pos.line X.env = pure false) :
    PS X (.Assign [.Tuple [.Name x px, .Name y py] kt pt] (.Tuple [a, b] k2 pt2) pos) (tSt T W (ex G (.set (.tup [i, j]) (.tup (.cons p (.cons q .nil)))))) := by
  refine toPS (ps_par hc hN hi hj hij hx hy ha hw hs) fun E σ H h => ?_
  obtain ⟨δ, w, rfl, wd, en, h⟩ := h
  refine ⟨δ, w, rfl, wd, en, trivial, ?_⟩
  change PostS T W w (RofS δ ((evs G (.cons p (.cons q .nil)) δ w.S).bind fun ds S1 => if fits ds.length then .ok (.tup ds) S1 else .stuck) fun d S1 => match bindT (.tup [i, j]) d δ with
    | some δ1 => .nx δ1 S1
    | none => .stuck) E at h
  cases hf : evs G (.cons p (.cons q .nil)) δ w.S with
  | stuck => rw [hf] at h; exact h.elim
  | ex c v S1 =>
    rw [hf] at h
    exact fun w' cl dd e wd st rx => h w' σ cl dd e wd st (en.mono st.toMon) rx
  | ok ds S1 =>
    rw [hf] at h
    intro w1 vs e1 wd1 st1 rs
    change PostS T W w (RofS δ (if fits ds.length then PV.R.ok (.tup ds) S1 else .stuck) fun d S1 => match bindT (.tup [i, j]) d δ with
      | some δ1 => .nx δ1 S1
      | none => .stuck) E at h
    by_cases f : fits ds.length = true
    · rw [if_pos f] at h
      change PostS T W w (match (if [i, j].length = ds.length then some (([i, j].zip ds).foldl (fun δ p => δ.set p.1 (some p.2)) δ) else none) with
        | some δ1 => .nx δ1 S1
        | none => .stuck) E at h
      by_cases hl : [i, j].length = ds.length
      · rw [if_pos hl] at h
        match ds, hl, rs, h with
        | [d1, d2], _, rs, h =>
          obtain ⟨v1, v2, rfl, r1, r2⟩ := reps2 rs
          exact ⟨v1, v2, rfl, h w1 _ e1 wd1 st1 (((en.mono st1.toMon).set i r1).set j r2)⟩
      · rw [if_neg hl] at h
        exact h.elim
    · rw [if_neg f] at h
      exact h.elim
/-- a[i] = e -/
theorem ok_stI (hu : X.A.units + 66 < cLine) {p q r : C} {e : Expr} {spos : Pos} (ha : PE X a (tEv T W X0 (ev G p))) (hb : PE X b (tEv T W X0 (ev G q))) (he : PE X e (tEv T W X0 (ev G r)))
    (hs : swapsWithSole [.Subscript a b spos] e pos.line X.env = pure false) (hw : swappedStores [.Subscript a b spos] e X.env = pure none) (h1 : (assignEach [.Subscript a b spos] X.env).map (·.2) = [assign (.Subscript a b spos) X.env])
    (h2 : ∀ v, assign (.Subscript a b spos) X.env v = (do
      let ov ← holding [v] (eval a X.env)
      let iv ← holding [v, ov] (eval b X.env)
      standAt spos
      holding [v, ov, iv] (setItem ov iv v)
      release [v, ov, iv] [])) : PS X (.Assign [.Subscript a b spos] e pos) (tSt T W (ex G (.stI p q r))) := by
  refine toPS (ps_asg he (pg_sub ha hb (set_any hu) h2) hs hw h1) fun E σ H h => ?_
  obtain ⟨δ, w, rfl, wd, en, h⟩ := h
  refine ⟨δ, w, rfl, wd, en, trivial, (PostS.ofR en h).mono fun v H1 ⟨w1, d, e1, wd1, st1, r1, h1⟩ => ?_⟩
  subst e1
  have en1 := en.mono st1.toMon
  refine ⟨δ, w1, rfl, wd1, en1, trivial, (PostS.ofR en1 h1).mono fun v2 H2 ⟨w2, d2, e2, wd2, st2, r2, h2⟩ => ?_⟩
  subst e2
  have en2 := en1.mono st2.toMon
  refine ⟨δ, w2, rfl, wd2, en2, trivial, (PostS.ofR en2 h2).mono fun v3 H3 ⟨w3, d3, e3, wd3, st3, r3, h3⟩ => ?_⟩
  subst e3
  have en3 := en2.mono st3.toMon
  refine set_setI (W := W) (σ0 := σ) wd3 (r2.mono st3.toMon) r3 ((r1.mono st2.toMon).mono st3.toMon) ((PostS.ofR en3 h3).mono fun v4 H4 ⟨w4, d4, e4, wd4, st4, r4, h4⟩ => ?_)
  subst e4
  exact h4 w4 σ rfl wd4 (Step.refl _) (en3.mono st4.toMon)
/-- blocks -/
theorem ok_sNil : PSs X [] (tSt T W (ex G .nil)) := ⟨fun pins s σ H D I h => pss_nil.run pins s σ H D I (by
  obtain ⟨δ, w, rfl, wd, en, h⟩ := h
  exact h w σ rfl wd (Step.refl _) en)⟩
theorem ok_sCons {st : Stmt} {sts : List Stmt} {x y : C} (hx : ∀ i, x ≠ .frzV i) (hx2 : ∀ i f, x ≠ .frzA i f) (h1 : PS X st (tSt T W (ex G x))) (h2 : PSs X sts (tSt T W (ex G y))) : PSs X (st :: sts) (tSt T W (ex G (.cons x y))) := by
  refine toPSs (pss_cons h1 h2) fun E σ H h => ?_
  obtain ⟨δ, w, rfl, wd, en, h⟩ := h
  have e : ex G (.cons x y) δ w.S = (match ex G x δ w.S with | .nx δ1 S1 => ex G y δ1 S1 | r => r) := by
    cases x <;> first | rfl | exact absurd rfl (hx _) | exact absurd rfl (hx2 _ _)
  rw [e] at h
  refine ⟨δ, w, rfl, wd, en, ?_⟩
  cases hf : ex G x δ w.S with
  | nx δ1 S1 =>
    rw [hf] at h
    intro w1 σ1 e1 wd1 st1 en1
    refine ⟨δ1, w1, rfl, wd1, en1, PostS.step st1 ?_⟩
    rw [e1]
    exact h
  | bk δ1 S1 => rw [hf] at h; exact h
  | ct δ1 S1 => rw [hf] at h; exact h
  | rt d S1 => rw [hf] at h; exact h
  | ex c v δ1 S1 => rw [hf] at h; exact h
  | stuck => rw [hf] at h; exact h
theorem ok_frzV {sts : List Stmt} {i : Nat} {y : C} (h2 : PSs X sts (tSt T W (ex G y))) : PSs X sts (tSt T W (ex G (.cons (.frzV i) y))) := by
  refine toPSs h2 fun E σ H h => ?_
  obtain ⟨δ, w, rfl, wd, en, h⟩ := h
  change PostS T W w (match δ[i]? with
    | some (some d) => match frzD d w.S with
      | .ok e S1 => ex G y (δ.set i (some e)) S1
      | _ => .stuck
    | _ => .stuck) E at h
  split at h
  · rename_i d ed
    obtain ⟨v, ev, rv⟩ := en.at_ i d ed
    split at h
    · rename_i e S1 hf
      obtain ⟨w1, e1, eh, wd1, st1, r1⟩ := frz_ok wd rv hf
      refine ⟨δ.set i (some e), w1, eh, wd1, ?_, by rw [e1]; exact PostS.step st1 h⟩
      have q := (en.mono st1.toMon).set i r1
      have es : σ.set i (some v) = σ := by
        apply List.ext_getElem?
        intro j
        by_cases hj : i = j
        · subst hj
          rw [List.getElem?_set_self (List.getElem?_eq_some_iff.mp ev).1, ev]
        · rw [List.getElem?_set_ne hj]
      rw [es] at q
      exact q
    · exact h.elim
  · exact h.elim
theorem ok_if {x y z : C} {sa sb : List Stmt} (hc : PT X c (tEvT T W X0 (evT G x))) (ha : PSs X sa (tSt T W (ex G y))) (hb : PSs X sb (tSt T W (ex G z))) : PS X (.If c sa sb pos) (tSt T W (ex G (.ifs x y z))) := by
  refine toPS (ps_if hc ha hb) fun E σ H h => ?_
  obtain ⟨δ, w, rfl, wd, en, h⟩ := h
  refine ⟨δ, w, rfl, wd, en, trivial, ?_⟩
  change PostS T W w (match evT G x δ w.S with
    | .ok true S1 => ex G y δ S1
    | .ok false S1 => ex G z δ S1
    | .ex c v S1 => .ex c v δ S1
    | .stuck => .stuck) E at h
  split at h
  · rename_i S1 hf
    rw [hf]
    intro w1 k e1 wd1 st1 ek
    cases ek
    exact iteT ⟨δ, w1, rfl, wd1, en.mono st1.toMon, by rw [e1]; exact PostS.step st1 h⟩
  · rename_i S1 hf
    rw [hf]
    intro w1 k e1 wd1 st1 ek
    cases ek
    exact iteF ⟨δ, w1, rfl, wd1, en.mono st1.toMon, by rw [e1]; exact PostS.step st1 h⟩
  · rename_i c v S1 hf
    rw [hf]
    exact fun w' cl dd e wd st rx => h w' σ cl dd e wd st (en.mono st.toMon) rx
  · exact h.elim
end
end PV

namespace PV
open PySem L2 PyProof.Rows RZ

section
variable {X : Cx} {T : Tb} {W : WX} {G : Gv} {a b c : Expr} {pos : Pos}
theorem ok_for {tgE iter : Expr} {body : List Stmt} {tg : Tg} {src y : C} (hp : PassesOwn (model X.prog X.w) X.A X.env X.xe) (hc : X.calm = true) (hi : PI X tgE iter (tEvI T W X0 (evI G src))) (hg : PG X tgE (tTg T tg)) (hb : PSs X body (tSt T W (ex G y)))
    (hs : ∀ x, foldedSetIterable iter X.env x = pure x) : PS X (.For tgE iter body [] pos) (tSt T W (ex G (.for_ tg src y))) := by
  refine toPS (ps_for hp hc hi hg hb hs) fun E σ H h => ?_
  obtain ⟨δ, w, rfl, wd, en, h⟩ := h
  refine ⟨δ, w, rfl, wd, en, trivial, ?_⟩
  change PostS T W w (match evI G src δ w.S with
    | .ok its S1 => forI tg (ex G y) its δ S1
    | .ex c v S1 => .ex c v δ S1
    | .stuck => .stuck) E at h
  cases hf : evI G src δ w.S with
  | stuck => rw [hf] at h; exact h.elim
  | ex c v S1 =>
    rw [hf] at h
    exact fun w' cl dd e wd st rx => h w' σ cl dd e wd st (en.mono st.toMon) rx
  | ok its S1 =>
    rw [hf] at h
    intro w1 J e1 wd1 st1 it
    obtain ⟨at_, fu, itg, _, hfI, _⟩ := it.g
    change PostS T W w (forI tg (ex G y) its δ S1) E at h
    rw [hfI] at h
    refine ⟨fun i m σ H => ∃ (δ' : Env) (w' : Wo), w'.H = H ∧ Wd T w' ∧ Mon w1 w' ∧ EnvOk T w' δ' σ ∧ PostS T W w' (forG at_ tg (ex G y) m i δ' w'.S) E,
      ⟨fu, δ, w1, rfl, wd1, Mon.refl _, en.mono st1.toMon, by rw [e1]; exact PostS.step st1 h⟩, ?_⟩
    rintro i m σ H ⟨δ', w', rfl, wd', mo, en', h'⟩
    cases m with
    | zero => exact h'.elim
    | succ m =>
      have itw := itg w' i mo wd'
      unfold forG at h'
      split at h'
      · exact h'.elim
      · rename_i ea
        rw [ea] at itw
        exact .inl ⟨itw, h' w' σ rfl wd' (Step.refl _) en'⟩
      · rename_i d ea
        rw [ea] at itw
        obtain ⟨g1, g2⟩ := itw
        refine .inr ⟨g1, fun σ H => ∃ (δ' : Env) (w' : Wo), w'.H = H ∧ Wd T w' ∧ Mon w1 w' ∧ EnvOk T w' δ' σ ∧ PostS T W w' (forG at_ tg (ex G y) m (i + 1) δ' w'.S) E,
          fun σ' H' q => ⟨m, Nat.lt_succ_self _, q⟩, fun x H' yy => ?_⟩
        obtain ⟨w2, rfl, eS2, wd2, st2, r2⟩ := g2 x H' yy
        split at h'
        · exact h'.elim
        · rename_i δ1 hb
          refine ⟨w2, d, δ', δ1, rfl, wd2, r2, en'.mono st2.toMon, hb, fun σ' _ en2 => ⟨δ1, w2, rfl, wd2, en2, ?_⟩⟩
          rw [eS2]
          replace h' := PostS.step st2 h'
          have mo2 := mo.trans st2.toMon
          cases hx : ex G y δ1 w'.S with
          | nx δ2 S2 =>
            rw [hx] at h'
            exact fun w3 σ3 e3 wd3 st3 en3 => ⟨δ2, w3, rfl, wd3, mo2.trans st3.toMon, en3, by rw [e3]; exact PostS.step st3 h'⟩
          | ct δ2 S2 =>
            rw [hx] at h'
            exact fun w3 σ3 e3 wd3 st3 en3 => ⟨δ2, w3, rfl, wd3, mo2.trans st3.toMon, en3, by rw [e3]; exact PostS.step st3 h'⟩
          | bk δ2 S2 => rw [hx] at h'; exact h'
          | rt d S2 => rw [hx] at h'; exact h'
          | ex c v δ2 S2 => rw [hx] at h'; exact h'
          | stuck => rw [hx] at h'; exact h'
theorem ok_while {x y : C} {body : List Stmt} (hp : PassesOwn (model X.prog X.w) X.A X.env X.xe) (hc : PT X c (tEvT T W X0 (evT G x))) (hb : PSs X body (tSt T W (ex G y))) : PS X (.While c body [] pos) (tSt T W (ex G (.while_ x y))) := by
  refine toPS (ps_while hp hc hb) fun E σ H h => ?_
  obtain ⟨δ, w, rfl, wd, en, h⟩ := h
  refine ⟨fun m σ H => ∃ (δ' : Env) (w' : Wo), w'.H = H ∧ Wd T w' ∧ EnvOk T w' δ' σ ∧ PostS T W w' (whileF (evT G x) (ex G y) m δ' w'.S) E, ⟨G.fu, δ, w, rfl, wd, en, h⟩, ?_⟩
  rintro m σ H ⟨δ', w', rfl, wd', en', h'⟩
  refine ⟨δ', w', rfl, wd', en', trivial, ?_⟩
  cases m with
  | zero => exact h'.elim
  | succ m =>
    unfold whileF at h'
    split at h'
    · rename_i S1 hf
      rw [hf]
      intro w1 k e1 wd1 st1 ek
      cases ek
      replace h' := PostS.step st1 h'
      refine iteT ⟨fun σ H => ∃ (δ' : Env) (w' : Wo), w'.H = H ∧ Wd T w' ∧ EnvOk T w' δ' σ ∧ PostS T W w' (whileF (evT G x) (ex G y) m δ' w'.S) E, fun σ' H' q => ⟨m, by omega, q⟩, δ', w1, rfl, wd1, en'.mono st1.toMon, ?_⟩
      rw [e1]
      cases hx : ex G y δ' S1 with
      | nx δ2 S2 =>
        rw [hx] at h'
        exact fun w3 σ3 e3 wd3 st3 en3 => ⟨δ2, w3, rfl, wd3, en3, by rw [e3]; exact PostS.step st3 h'⟩
      | ct δ2 S2 =>
        rw [hx] at h'
        exact fun w3 σ3 e3 wd3 st3 en3 => ⟨δ2, w3, rfl, wd3, en3, by rw [e3]; exact PostS.step st3 h'⟩
      | bk δ2 S2 => rw [hx] at h'; exact h'
      | rt d S2 => rw [hx] at h'; exact h'
      | ex c v δ2 S2 => rw [hx] at h'; exact h'
      | stuck => rw [hx] at h'; exact h'
    · rename_i S1 hf
      rw [hf]
      intro w1 k e1 wd1 st1 ek
      cases ek
      exact iteF (h' w1 σ e1 wd1 st1 (en'.mono st1.toMon))
    · rename_i c v S1 hf
      rw [hf]
      exact fun w2 cl dd e wd st rx => h' w2 σ cl dd e wd st (en'.mono st.toMon) rx
    · exact h'.elim
/-! errors -/
/-- C(e), as it is made -/
def tMkX (T : Tb) (k : Nat) (te : TE) : L2.St → Hp → XK → Prop := fun σ H Q => match T.ef k with
  | some f => te σ H fun v H1 => ∀ d, H1 d = none → Q (.ref (T.cls k)) (some d) (upd H1 d (.xd [(T.fld f, v)]))
  | none => te σ H fun _ H1 => Q (.ref (T.cls k)) none H1
theorem ok_raise {k : Nat} {y : C} {e : Expr} (hef : G.ef = T.ef) (hk : k < T.nc) (hc : X.calm = true) (tk : Takes X W) (he : PMk X e (tMkX T k (tEv T W X0 (ev G y)))) : PS X (.Raise (some e) none pos) (tSt T W (ex G (.raise_ k y))) := by
  refine toPS (ps_raise hc tk he) fun E σ H h => ?_
  obtain ⟨δ, w, rfl, wd, en, h⟩ := h
  have hv : ∀ d, xval G k d = match T.ef k with | some _ => d | none => .non := fun d => by
    unfold xval
    (rw [hef]) <;> (cases T.ef k <;> rfl)
  show tMkX T k (tEv T W X0 (ev G y)) σ w.H fun cls dd H' => W cls dd σ H'
  unfold tMkX
  cases hf : T.ef k with
  | some f =>
    refine ⟨δ, w, rfl, wd, en, trivial, (PostS.ofR en h).mono fun v H1 ⟨w1, d, e1, wd1, st1, r1, h1⟩ => ?_⟩
    subst e1
    intro p hp
    obtain ⟨w2, s2, l2⟩ := wd1.still hp (.xd [(T.fld f, v)])
    refine h1 ⟨_, _, _, _⟩ σ _ _ rfl w2 s2 ((en.mono st1.toMon).mono s2.toMon) ⟨hk, rfl, ?_⟩
    rw [hv, hf]
    exact ⟨p, v, rfl, upd_same, l2, r1.mono s2.toMon⟩
  | none =>
    refine ⟨δ, w, rfl, wd, en, trivial, (PostS.ofR en h).mono fun v H1 ⟨w1, d, e1, wd1, st1, r1, h1⟩ => ?_⟩
    subst e1
    refine h1 w1 σ _ _ rfl wd1 (Step.refl _) (en.mono st1.toMon) ⟨hk, rfl, ?_⟩
    rw [hv, hf]
    exact ⟨rfl, rfl⟩
/-- the caught error, in its suite -/
def ΞH (T : Tb) (c : Nat) (v : D) (a : Addr) (cls : Value) (d : Option Addr) (i : Nat) : Xi := fun w σ => RepX T w c v cls d ∧ σ[i]? = some (some (.ref a))
theorem keptH {c : Nat} {v : D} {a : Addr} {cls : Value} {d : Option Addr} {i : Nat} : Kept (ΞH T c v a cls d i) := fun _ _ _ st h => ⟨h.1.mono st.toMon, h.2⟩
theorem ok_eget {c : Nat} {v : D} {a : Addr} {cls : Value} {d : Option Addr} {i f : Nat} {oe : Obj} {pn : List (Addr × Obj)} {n x : Str} {p : Pos} (hef : G.ef = T.ef) (XF : c < T.nc → XfC X.K (T.cls c) ∧ ∀ f, T.ef c = some f → PySem.W.findIn X.K (.ref (T.cls c)) (T.fld f) = some none) (hz : Zc cls d oe) (hf : ∃ vs, oe.data = .fields vs)
    (hN : X.N[i]? = some x) (hv : Vis X.env.scope x) (hd : (x == ("__debug__" : Str)) = false) (hcd : (x == ("__classdict__" : Str)) = false) (hn : n = T.fld f) :
    PE (X.suite a ((a, oe) :: pn)) (.Attribute (.Name x p) n pos) (tEv T W0 (ΞH T c v a cls d i) (ev { G with cur := some (c, v) } (.eget f))) := by
  refine ⟨fun pins s σ H Q I h => ?_⟩
  obtain ⟨δ, w, rfl, wd, en, ⟨⟨h0, rfl, hx⟩, hs⟩, h⟩ := h
  obtain ⟨XF, hno⟩ := XF h0
  change Post T W0 w σ (Rep T) (if G.ef c = some f then PV.R.ok v w.S else .stuck) Q at h
  by_cases e : G.ef c = some f
  · rw [if_pos e] at h
    rw [hef] at e
    rw [e] at hx
    obtain ⟨dd, u, rfl, h3, h4, h5⟩ := hx
    have hv' : PE (X.suite a ((a, oe) :: pn)) (.Name x p) (tVar i) := pe_var hN hv hd hcd
    subst hn
    refine (pe_xf XF (hno _ e) hz hf hv' rfl).run pins s σ w.H Q I ⟨_, hs, rfl, rfl, dd, _, u, rfl, h3, ?_, Post.here wd h5 h⟩
    simp [List.lookup]
  · rw [if_neg e] at h
    exact h.elim
end
end PV

namespace PV
open PySem L2 PyProof.Rows RZ

/-! match -/
def capQ : Pq → D → List (Nat × D)
  | .cap i, d => [(i, d)]
  | _, _ => []
def capS : List Pq → List D → List (Nat × D)
  | q :: qs, d :: ds => capQ q d ++ capS qs ds
  | _, _ => []
def bindC (δ : Env) (l : List (Nat × D)) : Env := l.foldl (fun δ p => δ.set p.1 (some p.2)) δ
theorem matQ_val {S : Store} {k d : D} {δ : Env} : matQ S (.val k) d δ = (match eqD S d k with
    | some true => some (some δ)
    | some false => some none
    | none => none) := rfl
theorem matQ_cap {S : Store} {q : Pq} {d : D} {δ δ' : Env} (h : matQ S q d δ = some (some δ')) : δ' = bindC δ (capQ q d) := by
  cases q with
  | wild => cases h; rfl
  | cap i => cases h; rfl
  | val k =>
    rw [matQ_val] at h
    split at h
    · cases h; rfl
    · cases h
    · cases h
theorem matS_cap {S : Store} : ∀ {qs : List Pq} {ds : List D} {δ δ' : Env}, matS S qs ds δ = some (some δ') → δ' = bindC δ (capS qs ds)
  | [], _, _, _, h => by unfold matS at h; cases h; rfl
  | _ :: _, [], _, _, h => by unfold matS at h; cases h; rfl
  | q :: qs, d :: ds, δ, δ', h => by
    unfold matS at h
    split at h
    · rename_i δ1 h1
      have e1 := matQ_cap h1
      have e2 := matS_cap h
      subst e1
      rw [e2]
      show _ = (capQ q d ++ capS qs ds).foldl _ δ
      rw [List.foldl_append]
      rfl
    · rename_i r hr
      exact absurd h (hr δ')
section
variable {X : Cx} {T : Tb} {W : WX} {G : Gv} {a b c : Expr} {pos : Pos}
inductive PqOk (X : Cx) (T : Tb) : Pattern → Pq → Prop where
  | wild {p : Pos} : PqOk X T (.MatchAs none none p) .wild
  | cap {x : Str} {i : Nat} {p : Pos} : X.N[i]? = some x → Loc X.env.scope x → (X.fn x = true ∨ X.env.scope.names.lookup x = some .local) → PqOk X T (.MatchAs none (some x) p) (.cap i)
  | val {e : Expr} {k : D} {v : V} {p : Pos} : PE X e (tC v) → (∀ w, Rep T w k v) → PqOk X T (.MatchValue e p) (.val k)
inductive PqsOk (X : Cx) (T : Tb) : List Pattern → List Pq → Prop where
  | nil : PqsOk X T [] []
  | cons {p : Pattern} {ps : List Pattern} {q : Pq} {qs : List Pq} : PqOk X T p q → PqsOk X T ps qs → PqsOk X T (p :: ps) (q :: qs)
/-- the names of a pattern and what they stand for -/
inductive BsOk (X : Cx) (T : Tb) (w : Wo) : List (Str × Value) → List (Nat × D) → Prop where
  | nil : BsOk X T w [] []
  | cons {x : Str} {u : Value} {i : Nat} {d : D} {v : V} {bs : List (Str × Value)} {cs : List (Nat × D)} : X.N[i]? = some x → Loc X.env.scope x → (X.fn x = true ∨ X.env.scope.names.lookup x = some .local) → RelV v u → Rep T w d v → BsOk X T w bs cs → BsOk X T w ((x, u) :: bs) ((i, d) :: cs)
theorem BsOk.append {w : Wo} {bs bs' : List (Str × Value)} {cs cs' : List (Nat × D)} (h : BsOk X T w bs cs) (h' : BsOk X T w bs' cs') : BsOk X T w (bs ++ bs') (cs ++ cs') := by
  induction h with
  | nil => exact h'
  | cons a b c d e _ ih => exact .cons a b c d e ih
theorem bs_assign (hN : X.N.Nodup) {w : Wo} {pins : List (Addr × Obj)} : ∀ {bs : List (Str × Value)} {cs : List (Nat × D)} {s : Shared} {σ : L2.St} {δ : Env}, BsOk X T w bs cs → Inv X pins σ w.H s → EnvOk T w δ σ →
    wpAny (model X.prog X.w) X.A (assignInOrder (bs.map fun (n, _) => bindName X.env n) (bs.map (·.2))) (fun _ s' => ∃ σ', Inv X pins σ' w.H s' ∧ EnvOk T w (bindC δ cs) σ') X.xe s
  | _, _, s, σ, δ, .nil, I, en => wpAny_assignInOrder_none ⟨σ, I, en⟩
  | _, _, s, σ, δ, .cons h1 h2 h3 h4 h5 r, I, en => wpAny_assignInOrder_more (wpAny_bindName (store_ok I hN h1 h2 h4 (fun s' I' => bs_assign (δ := δ.set _ (some _)) hN r I' (en.set _ h5)) h3))
def MatR (X : Cx) (T : Tb) (w : Wo) (cs : List (Nat × D)) (r : Option Env) (res : Option (List (Str × Value))) : Prop := match r with
  | none => res = none
  | some _ => ∃ bs, res = some bs ∧ BsOk X T w bs cs
/-- one pattern -/
theorem mat_q (hK : X.K = T.K) (hu : X.A.units + 66 < cLine) {w : Wo} (wd : Wd T w) {p : Pattern} {q : Pq} (ok : PqOk X T p q) {pins : List (Addr × Obj)} {s : Shared} {σ : L2.St} (I : Inv X pins σ w.H s) {d : D} {x : V} {u : Value} (rd : Rep T w d x) (ru : RelV x u) {δ : Env} {r : Option Env} (h : matQ w.S q d δ = some r) :
    wpAny (model X.prog X.w) X.A (matchPattern p X.env u) (fun res s1 => Inv X pins σ w.H s1 ∧ MatR X T w (capQ q d) r res) X.xe s := by
  cases ok with
  | wild =>
    cases h
    exact wpAny_matchPattern_Capture ⟨I, [], rfl, .nil⟩
  | cap h1 h2 h3 =>
    cases h
    exact wpAny_matchPattern_Capture ⟨I, _, rfl, .cons h1 h2 h3 ru rd .nil⟩
  | @val e k v p he hr =>
    refine wpAny_matchPattern_Value (thn (he.run pins s σ w.H (fun v' H' => v' = v ∧ H' = w.H) I ⟨rfl, rfl⟩) fun z s1 ⟨v', H', I1, rz, ev, eH⟩ => ?_)
    subst ev eH
    rw [matQ_val] at h
    have go : ∀ kk : Bool, eqD w.S d k = some kk → wpAny (model X.prog X.w) X.A (compareOp .Eq u z) (fun c s₂ => wpAny (model X.prog X.w) X.A (truthy c) (fun b s₃ => if b then (Inv X pins σ w.H s₃ ∧ MatR X T w (capQ (.val k) d) r (some [])) else (Inv X pins σ w.H s₃ ∧ MatR X T w (capQ (.val k) d) r none)) X.xe s₂) X.xe s1 := by
      intro kk ek
      rw [ek] at h
      refine thn (op_cmp hK hu .eq pins s1 σ w.H x v' u z (fun z1 H3 => z1 = .bl kk ∧ H3 = w.H) I1 ru rz ⟨d, k, w, kk, rfl, wd, rd, hr w, ek, rfl, rfl⟩) fun c s2 ⟨z1, H3, I2, r2, ez, eH⟩ => ?_
      subst ez eH
      cases r2
      refine wpAny_truthy_bool ?_
      cases kk with
      | true => cases h; exact ⟨I2, [], rfl, .nil⟩
      | false => cases h; exact ⟨I2, rfl⟩
    cases ek : eqD w.S d k with
    | none => rw [ek] at h; cases h
    | some kk => exact go kk ek
theorem pq_star {p : Pattern} {q : Pq} (ok : PqOk X T p q) : p.isStar = false := by cases ok <;> rfl
/-- the patterns of a sequence -/
theorem mat_s (hK : X.K = T.K) (hu : X.A.units + 66 < cLine) {w : Wo} (wd : Wd T w) {pins : List (Addr × Obj)} {σ : L2.St} : ∀ {ps : List Pattern} {qs : List Pq} {ds : List D} {vs : List V} {us : List Value} {s : Shared} {δ : Env} {r : Option Env}, PqsOk X T ps qs → Inv X pins σ w.H s → Reps T w ds vs → Vals vs us → ds.length = qs.length → matS w.S qs ds δ = some r →
    wpAny (model X.prog X.w) X.A (matchEach ps X.env us) (fun res s1 => Inv X pins σ w.H s1 ∧ MatR X T w (capS qs ds) r res) X.xe s
  | _, _, [], _, _, s, δ, r, .nil, I, .nil, .nil, _, h => by
    unfold matS at h
    cases h
    exact wpAny_matchEach_nil ⟨I, [], rfl, .nil⟩
  | _, _, _ :: _, _, _, _, _, _, .nil, _, _, _, hl, _ => by cases hl
  | _, _, [], _, _, _, _, _, .cons _ _, _, _, _, hl, _ => by cases hl
  | _, _, d :: ds, _, _, s, δ, r, .cons (q := q) (qs := qs) ok oks, I, .cons rd rs, .cons ru rus, hl, h => by
    unfold matS at h
    refine wpAny_matchEach_cons ?_ (pq_star ok)
    cases hq : matQ w.S q d δ with
    | none => rw [hq] at h; cases h
    | some r1 =>
      rw [hq] at h
      refine thn (mat_q hK hu wd ok I rd ru hq) fun res s1 ⟨I1, hr⟩ => ?_
      cases r1 with
      | none =>
        cases h
        cases hr
        exact ⟨I1, rfl⟩
      | some δ1 =>
        obtain ⟨bs, rfl, hb⟩ := hr
        refine thn (mat_s hK hu wd oks I1 rs rus (by simpa using hl) h) fun res s2 ⟨I2, hr2⟩ => ?_
        cases r with
        | none => subst hr2; exact ⟨I2, rfl⟩
        | some δ2 =>
          obtain ⟨bs2, rfl, hb2⟩ := hr2
          exact ⟨I2, _, rfl, hb.append hb2⟩
inductive PtOk (X : Cx) (T : Tb) : Pattern → Pt → Prop where
  | one {p : Pattern} {q : Pq} : PqOk X T p q → PtOk X T p (.one q)
  | seq {ps : List Pattern} {qs : List Pq} {p : Pos} : PqsOk X T ps qs → ps.findIdx? (·.isStar) = none → (ps.all fun p => p.isWildcard || (p.isStar && p.names.isEmpty)) = false → PtOk X T (.MatchSequence ps p) (.seq qs)
def capT : Pt → D → List (Nat × D)
  | .one q, d => capQ q d
  | .seq qs, .tup ds => capS qs ds
  | _, _ => []
theorem pqs_len {ps : List Pattern} {qs : List Pq} (h : PqsOk X T ps qs) : ps.length = qs.length := by
  induction h with
  | nil => rfl
  | cons _ _ ih => simp [ih]
theorem mat_t (hK : X.K = T.K) (hu : X.A.units + 66 < cLine) (hc : X.calm = true) {w : Wo} (wd : Wd T w) {p : Pattern} {q : Pt} (ok : PtOk X T p q) {pins : List (Addr × Obj)} {s : Shared} {σ : L2.St} (I : Inv X pins σ w.H s) {d : D} {x : V} {u : Value} (rd : Rep T w d x) (ru : RelV x u) {δ : Env} {r : Option Env} (h : matD w.S q d δ = some r) :
    wpAny (model X.prog X.w) X.A (matchPattern p X.env u) (fun res s1 => Inv X pins σ w.H s1 ∧ MatR X T w (capT q d) r res) X.xe s := by
  cases ok with
  | one ok => exact mat_q hK hu wd ok I rd ru (by cases d <;> exact h)
  | @seq ps qs pp oks h1 h2 =>
    cases rd <;> first | (cases h; done) | skip
    rename_i t vs ds ht rs
    have h' : (if ds.length = qs.length then matS w.S qs ds δ else some none) = some r := h
    cases ru
    obtain ⟨its, rv, pl, hz⟩ := I.tuple (xs := vs) (by rw [hK]; exact ht.sq)
    have hlen : its.toArray.size = ds.length := by rw [List.size_toArray, ← rv.length, ← rs.len]
    have hfit : (its.toArray.size : Int) < 2 ^ 63 := by
      have : sizeLine = 16777216 := sizeLine_eq
      rw [hlen, rs.len]
      omega
    by_cases hl : ds.length = qs.length
    · rw [if_pos hl] at h'
      have hsz : its.toArray.size = ps.length := by rw [hlen, hl, pqs_len oks]
      refine matchSeq_tuple_hit pl hfit hsz ?_ h1 h2
      rw [← hsz]
      refine unpackItems_tuple (I.ok.hd hc) (t := t) (items := its.toArray) pl fun h' hx => ?_
      have I1 : Inv X pins σ w.H { s with heap := h', toks := s.toks + 1 + 1 } := I.kept (t' := s.toks + 1 + 1) fun b o e => hx b o (Nat.ne_of_lt (Heap.lt_size e)) e
      exact mat_s hK hu wd oks I1 rs (by simpa using rv) hl (by assumption)
    · rw [if_neg hl] at h'
      cases h'
      have hsz : its.toArray.size ≠ ps.length := by rw [hlen, pqs_len oks]; exact hl
      exact matchSeq_tuple_miss pl hfit hsz ⟨I.tok _, rfl⟩ h1 h2
/-- the cases of a match -/
inductive CasesOk (X : Cx) (T : Tb) (W : WX) (G : Gv) : List MatchCase → C → Prop where
  | nil : CasesOk X T W G [] .nil
  | cons {p : Pattern} {q : Pt} {body : List Stmt} {y r : C} {rest : List MatchCase} : PtOk X T p q → PSs X body (tSt T W (ex G y)) → CasesOk X T W G rest r → CasesOk X T W G (⟨p, none, body⟩ :: rest) (.cons (.case_ q y) r)
theorem cap_eq {S : Store} {q : Pt} {d : D} {δ δ' : Env} (h : matD S q d δ = some (some δ')) : δ' = bindC δ (capT q d) := by
  cases q with
  | one q => exact matQ_cap (by cases d <;> exact h)
  | seq qs =>
    cases d <;> first | (cases h; done) | skip
    rename_i ds
    have h' : (if ds.length = qs.length then matS S qs ds δ else some none) = some (some δ') := h
    by_cases hl : ds.length = qs.length
    · rw [if_pos hl] at h'
      exact matS_cap h'
    · rw [if_neg hl] at h'
      cases h'
theorem cases_run (hK : X.K = T.K) (hu : X.A.units + 66 < cLine) (hc : X.calm = true) (hN : X.N.Nodup) {d : D} {x : V} {u : Value} {E : Ends} (ru : RelV x u) {pins : List (Addr × Obj)} : ∀ {cs : List MatchCase} {y : C} {first : Bool} {w : Wo} {s : Shared} {σ : L2.St} {δ : Env}, CasesOk X T W G cs y → Wd T w → Inv X pins σ w.H s → EnvOk T w δ σ → Rep T w d x → PostS T W w (exM G y d δ w.S) E →
    wpAny (model X.prog X.w) X.A (matchCases cs X.env u first) (SP X pins E) X.xe s
  | _, _, first, w, s, σ, δ, .nil, wd, I, en, rd, h => wpAny_matchCases_nil ⟨σ, w.H, I, h w σ rfl wd (Step.refl w) en⟩
  | _, _, first, w, s, σ, δ, .cons (q := q) (y := y) (r := r) ok hb rest, wd, I, en, rd, h => by
    change PostS T W w (match matD w.S q d δ with
      | some (some δ1) => ex G y δ1 w.S
      | some none => exM G r d δ w.S
      | none => .stuck) E at h
    refine wpAny_matchCases_cons ?_
    cases hm : matD w.S q d δ with
    | none => rw [hm] at h; exact h.elim
    | some o =>
      rw [hm] at h
      refine thn (mat_t hK hu hc wd ok I rd ru hm) fun res s1 ⟨I1, hr⟩ => ?_
      cases o with
      | none =>
        subst hr
        exact cases_run hK hu hc hN ru rest wd I1 en rd h
      | some δ1 =>
        obtain ⟨bs, rfl, hbs⟩ := hr
        have e1 := cap_eq hm
        refine thn (bs_assign hN hbs I1 en) fun _ s2 ⟨σ2, I2, en2⟩ => ?_
        rw [← e1] at en2
        exact hb.run pins s2 σ2 w.H E I2 ⟨δ1, w, rfl, wd, en2, h⟩
theorem ok_match (hK : X.K = T.K) (hu : X.A.units + 66 < cLine) (hc : X.calm = true) (hN : X.N.Nodup) {y z : C} {cs : List MatchCase} (ha : PE X a (tEv T W X0 (ev G y))) (hcs : CasesOk X T W G cs z) : PS X (.Match a cs pos) (tSt T W (ex G (.match_ y z))) := by
  refine ⟨fun pins s σ H E I h => ?_⟩
  obtain ⟨δ, w, rfl, wd, en, h⟩ := h
  refine wpAny_Match (thn (ha.run pins s σ w.H _ I ⟨δ, w, rfl, wd, en, trivial, PostS.ofR en h⟩) fun u s1 ⟨v, H1, I1, rv, w1, d, e1, wd1, st1, r1, h1⟩ => ?_)
  subst e1
  exact cases_run hK hu hc hN rv hcs wd1 I1 (en.mono st1.toMon) r1 h1
end
end PV

namespace PV
open PySem L2 PyProof.Rows RZ

/-! objects of the text's classes -/
def noCall0 : Expr → Bool
  | .Call (.Name _ _) [] [] _ => false
  | _ => true
theorem ab_of {o : Expr} {m : Str} {env : PySem.Env} {whole : Sem Value} (h : noCall0 o = true) : attributeBase o m env whole = whole := by
  cases o <;> first | rfl | skip
  rename_i f as ks p
  cases f <;> first | rfl | skip
  cases as <;> first | rfl | skip
  cases ks <;> first | rfl | skip
  cases h
theorem mc_form {o : Expr} {m : Str} {apos pos : Pos} {args : List Expr} {kws : List Keyword} {env : PySem.Env} (h0 : noCall0 o = true) (hf : methodCallForm (args.length + kws.length) (backTo pos (starEach args env)) (backToKw pos (keywordEach kws env)) = true) (hl : (apos.endLine == pos.line) = true) :
    eval (.Call (.Attribute o m apos) args kws pos) env = (do
      let ov ← eval o env
      standAt apos.atName
      let (f, first) ← holding [ov] (getMethod ov m (do return (← importBound o env).getD true))
      callWith pos f first (backTo pos (starEach args env)) (backToKw pos (keywordEach kws env))) := by
  rw [arm_eval_Call, ab_of h0]
  have e : ∀ ov, methodCall o m apos pos env ov (args.length + kws.length) (backTo pos (starEach args env)) (backToKw pos (keywordEach kws env)) = (do
      let (f, first) ← holding [ov] (getMethod ov m (do return (← importBound o env).getD true))
      callWith pos f first (backTo pos (starEach args env)) (backToKw pos (keywordEach kws env))) := by
    intro ov
    unfold methodCall calleeOf methodCallPos
    rw [hf, hl]
    rfl
  simp only [e]
theorem few_of {pos : Pos} {args : List Expr} {env : PySem.Env} (hs : args.all plainE = true) (hn : args.length < 30) : methodCallForm (args.length + ([] : List Keyword).length) (backTo pos (starEach args env)) (backToKw pos (keywordEach [] env)) = true := by
  have e : (backTo pos (starEach args env)).all (!·.1) = true := by
    have := npl_of (env := env) (pos := pos) args hs
    rw [List.all_eq_true]
    intro x hx
    have h2 := List.any_eq_false.mp this x hx
    simpa using h2
  unfold methodCallForm
  rw [e]
  show (true && true && decide (args.length + 0 + 0 < 30)) = true
  rw [Bool.and_eq_true]
  exact ⟨rfl, decide_eq_true (by omega)⟩
/-- what is known of a class: instances, isinstance -/
structure KlOk (K : PySem.W.Frag) (C : Addr) : Prop where
  cls : Cls K C
  ca : PySem.W.findIn K (.ref C) "__class__" = some (some (.builtin "object.__class__"))
  cn : PySem.W.specialIn K (.builtin "object.__class__") "__get__" = some (some (.builtin "getset_descriptor.__get__"))
  ct : PySem.W.takesIn K (.builtin "object.__class__") = some true
  cm : PySem.W.mroIn K C (.type "object") = some true
/-- the classes' tables -/
structure ObOk (T : Tb) (G : Gv) (P : Program) (wl : World) (K : PySem.W.Frag) (mg : Str → Option Value) (base : Heap) (lv : Nat) (kn : List Str) (sh : Nat → Option (Str × List Str)) : Prop where
  isf : ∀ c f, G.isf c f = true → f < T.nf ∧ Cls K (T.kls c) ∧ NoAttr K (T.kls c) (T.fld f)
  cst : ∀ c f d, G.cst c f = some d → f < T.nf ∧ Cls K (T.kls c) ∧ ∃ v u, Con K (T.kls c) (T.fld f) v u ∧ ∀ w, Rep T w d v
  prp : ∀ c f n, G.prp c f = some n → f < T.nf ∧ Cls K (T.kls c) ∧ (∃ p, PropOf K (T.kls c) (T.fld f) p (T.fa n)) ∧ FnA P wl K mg base lv (T.fa n) (spEv T (G.cal n))
  met : ∀ c m n, G.met c m = some n → m < T.nf ∧ Cls K (T.kls c) ∧ Meth K (T.kls c) (T.fld m) (T.fa n) ∧ FnA P wl K mg base lv (T.fa n) (spEv T (G.cal n))
  ini : ∀ c i, G.ini c = some i → Mk K (T.kls c) (T.fa i) ∧ FnA P wl K mg base lv (T.fa i) (spEv T (G.cal i))
  nam : ∀ (c : Nat) (x : Str), kn[c]? = some x → mg x = some (.ref (T.kls c)) ∧ KlOk K (T.kls c)
  isa : ∀ k c b, G.isa k c = some b → KlOk K (T.kls k) ∧ PySem.W.kitOne K (.ref (T.kls k)) (.ref (T.kls c)) = some b
  isd : ∀ c, c < kn.length → ∀ t, t ∈ (["NoneType", "bool", "int", "str", "list", "tuple", "dict"] : List String) → PySem.W.kitOne K (.type t) (.ref (T.kls c)) = some false
  nks : ∀ (s : Nat) (x : Str) (ks : List Str) (c : Nat), sh s = some (x, ks) → kn[c]? = some x → Mk K (T.kls c) (T.sa s) ∧ FnK P wl K mg base lv (T.sa s) ks (spEvK T (G.cak s))
section
variable {X : Cx} {T : Tb} {W : WX} {Ξ : Xi} {G : Gv} {a b c : Expr} {pos : Pos} {lv : Nat} {kn : List Str} {sh : Nat → Option (Str × List Str)}
theorem getprop_A {k : Nat} {C p g a dx : Addr} {fs : List (Str × V)} {f : Str} {sp : Sp} {pins : List (Addr × Obj)} {σ : L2.St} {H : Hp} {s : Shared} {Q : VK} {b : Bool} {E' : Value → Shared → Prop} (I : Inv X pins σ H s) (ea : H a = some (.ins C dx fs)) (c : Cls X.K C) (hp : PropOf X.K C f p g)
    (F : FnA X.prog X.w X.K X.mg X.base k g sp) (hr : Room (k + 1) X.A) (hgd : X.A.guards = some []) (h : sp [.ref a] H Q (fun _ _ _ => False)) :
    wpAny (model X.prog X.w) X.A (getAttr (.ref a) f b) (EP X pins σ Q) E' s := by
  obtain ⟨mA, O, _, _, _, _⟩ := ins_get I.hok ea
  obtain ⟨od, J, _⟩ := O.look
  obtain ⟨rest, hrec⟩ := hp.rec_
  have I1 := I.tok (s.toks + 1)
  have hc : (PySem.W.clsIn X.K C).isSome = true := by
    obtain ⟨cd, hc, _⟩ := PySem.W.any_some c.hd
    rw [hc]
    rfl
  refine PySem.W.get_bind I.kIn J (PySem.W.plainGet_of (c.get f)).1 (PySem.W.findObj_data hc hp.at_ hp.get hp.tak) (PySem.W.plainGet_of (c.get f)).2 (wpAny_call (PySem.W.prop_get (s := { s with toks := s.toks + 1 }) I.kIn hrec ?_))
  refine codeAny_mono (F.run X.A.in1 X.stack { s with toks := s.toks + 1 } H [.ref a] [.ref a] Q _ hr.in1 hgd I1.env0.in1 (.cons rfl .nil) h) fun r s' hq => ?_
  match r, hq with
  | .error er, hq =>
    exfalso
    obtain ⟨_, _, _, _, _, _, _, _, _, _, _, _, z⟩ := hq
    exact z
  | .ok (.ret u), hq =>
    obtain ⟨v, H', I3, rv, q3⟩ := I1.after hq
    show wpAny _ _ (handedOut u) _ _ _
    rw [PySem.W.handedOut_of (handed_of rv)]
    exact wpAny_pure ⟨v, H', I3, rv, q3⟩
theorem deref_err {S : Store} {d : PV.D} {c : Nat} {v : PV.D} (e : deref S d = .err c v) : d = .err c v := by
  cases d with
  | err _ _ => exact e
  | ref n =>
    unfold deref at e
    dsimp only at e
    split at e <;> cases e
  | _ => cases e
/-- o.f -/
theorem ok_fld (hxf : ∀ k, k < T.nc → XfC X.K (T.cls k) ∧ ∀ f, T.ef k = some f → PySem.W.findIn X.K (.ref (T.cls k)) (T.fld f) = some none) (hef : G.ef = T.ef) (hK : X.K = T.K) (ob : ObOk T G X.prog X.w X.K X.mg X.base lv kn sh) (hr : Room (lv + 1) X.A) (hgd : X.A.guards = some []) (kp : Kept Ξ) {x : C} {f : Nat} {n : Str} (hn : T.fld f = n) (hf : f < T.nf) (ha : PE X a (tEv T W Ξ (ev G x))) (h0 : noCall0 a = true) : PE X (.Attribute a n pos) (tEv T W Ξ (ev G (.fld x f))) := by
  subst hn
  refine ⟨fun pins s σ H Q I h => ?_⟩
  obtain ⟨δ, w, rfl, wd, en, xi, h⟩ := h
  refine attr_of (ab_of h0) (thn (ha.run pins s σ w.H _ I (tEv.bind1 kp wd en xi h)) fun u s1 ⟨v, H1, I1, rv, w1, d, e1, wd1, _, _, r, q⟩ => ?_)
  subst e1
  unfold fldD at q
  split at q
  · rename_i k fs vs e
    obtain ⟨ad, dx, us, rfl, hi, fo, rs⟩ := deref_obj wd1 r e
    obtain rfl : u = Value.ref ad := rv
    have fg := fld_get hf fo rs
    split at q
    · rename_i d' ed
      rw [ed] at fg
      obtain ⟨y, hy, ry⟩ := fg
      split at q
      · rename_i hb
        obtain ⟨_, c1, c2⟩ := ob.isf k f hb
        exact getattr_ok I1 hi c1 c2 hy fun u' s2 I2 ru => ⟨y, w1.H, I2, ru, Post.here wd1 ry q⟩
      · exact q.elim
    · rename_i ed
      rw [ed] at fg
      split at q
      · rename_i d' ed'
        obtain ⟨_, c1, y, z, c2, c3⟩ := ob.cst k f d' ed'
        exact getcon_ok I1 hi c1 c2 fg fun s2 I2 => ⟨y, w1.H, I2, c2.rel, Post.here wd1 (c3 w1) q⟩
      · split at q
        · rename_i m em
          obtain ⟨_, c1, ⟨p, c2⟩, c3⟩ := ob.prp k f m em
          refine getprop_A I1 hi c1 c2 c3 hr hgd ⟨[d], w1, rfl, wd1, .cons r .nil, ?_⟩
          cases hc : G.cal m [d] w1.S with
          | ok d' S1 => rw [hc] at q; exact q
          | ex _ _ _ => rw [hc] at q; exact q.elim
          | stuck => rw [hc] at q; exact q.elim
        · exact q.elim
  · rename_i k v' e
    obtain rfl := deref_err e
    by_cases hk : G.ef k = some f
    · rw [if_pos hk] at q
      rw [hef] at hk
      cases r with
      | @er0 ad _ he _ _ _ => rw [he] at hk; cases hk
      | @err ad dx _ f' _ uv he hk2 ha la hd ld rv' =>
        obtain rfl : f' = f := Option.some.inj (he.symm.trans hk)
        obtain rfl : u = Value.ref ad := rv
        obtain ⟨xf, hno⟩ := hxf k hk2
        obtain ⟨t1, hoe⟩ := exo_at I1.hok ha
        obtain ⟨mA, hns, rel⟩ := exd_at I1.hok hd
        obtain ⟨od, ho, hl⟩ := lookIn_ns hns
        obtain ⟨z, hz, rz⟩ := RelO.some_of (v := uv) (o := mA (T.fld f')) (by have := rel (T.fld f'); simpa [List.lookup] using this)
        have J : PySem.W.InstAt s1.heap ad _ (T.cls k) (some od) := ⟨hoe, rfl, rfl, ho⟩
        exact HandSPX.exc_get I1.kIn J xf.ga xf.gg xf.exC (PySem.W.findObj_own xf.hdC (hno _ hk) rfl (by rw [hl, hz])) (handed_of rz) ⟨uv, w1.H, I1.tok _, rz, Post.here wd1 rv' q⟩
    · rw [if_neg hk] at q
      exact q.elim
  · exact q.elim
/-- o.m(e, ..) -/
theorem ok_mcall (ob : ObOk T G X.prog X.w X.K X.mg X.base lv kn sh) (hr : Room lv X.A) (hgd : X.A.guards = some []) (kp : Kept Ξ) (tk : Takes X W) {x y : C} {m : Nat} {n : Str} {es : List Expr} {apos : Pos} (hn : T.fld m = n) (ha : PE X a (tEv T W Ξ (ev G x))) (h0 : noCall0 a = true) (hes : PA X es (tEvs T W Ξ (evs G y))) (hy : es = [] → y = .nil) (hp : es.all plainE = true) (hle : es.length < 30) (hl : (apos.endLine == pos.line) = true) :
    PE X (.Call (.Attribute a n apos) es [] pos) (tEv T W Ξ (ev G (.mcall x m y))) := by
  subst hn
  refine ⟨fun pins s σ H Q I h => ?_⟩
  obtain ⟨δ, w, rfl, wd, en, xi, h⟩ := h
  have h' : Post T W w σ (Rep T) ((ev G x δ w.S).bind fun x S1 => match mtD G x m S1 with
    | some n => (evs G y δ S1).bind fun ds S2 => G.cal n (x :: ds) S2
    | none => .stuck) Q := h
  refine PySem.W.methodCall_KW (thn (ha.run pins s σ w.H (fun v H1 => ∃ (w1 : Wo) (d1 : D), w1.H = H1 ∧ Wd T w1 ∧ Step w w1 ∧ Rep T w1 d1 v ∧ Post T W w1 σ (Rep T) (match mtD G d1 m w1.S with
    | some n => (evs G y δ w1.S).bind fun ds S2 => G.cal n (d1 :: ds) S2
    | none => .stuck) Q) I ⟨δ, w, rfl, wd, en, xi, Post.split h'⟩) fun u s1 ⟨v, H1, I1, rv, w1, d, e1, wd1, st1, r, q⟩ => ?_) (mc_form h0 (few_of hp hle) hl)
  subst e1
  cases hm : mtD G d m w1.S with
  | none => rw [hm] at q; exact q.elim
  | some i =>
    rw [hm] at q
    unfold mtD at hm
    split at hm
    · rename_i k fs vs e
      obtain ⟨ad, dx, us, rfl, hi, fo, rs⟩ := deref_obj wd1 r e
      obtain rfl : u = Value.ref ad := rv
      split at hm
      · rename_i hnone
        obtain ⟨hf, c1, c2, c3⟩ := ob.met k m i hm
        have fg := fld_get hf fo rs
        rw [Option.isNone_iff_eq_none.mp hnone] at fg
        refine getmeth_ok I1 hi c1 c2 fg ?_
        have en1 := en.mono st1.toMon
        have xi1 := kp _ _ _ st1 xi
        have hA : tEvs T W Ξ (evs G y) σ w1.H (fun vs H1 => ∃ (w2 : Wo) (ds : List D), w2.H = H1 ∧ Wd T w2 ∧ Step w1 w2 ∧ Reps T w2 ds vs ∧ Post T W w2 σ (Rep T) (G.cal i (d :: ds) w2.S) Q) := ⟨δ, w1, rfl, wd1, en1, xi1, Post.split q⟩
        have run : ∀ us s2 (vs : List V) (H2 : Hp), Inv X pins σ H2 s2 → Vals vs us → (∃ (w2 : Wo) (ds : List D), w2.H = H2 ∧ Wd T w2 ∧ Step w1 w2 ∧ Reps T w2 ds vs ∧ Post T W w2 σ (Rep T) (G.cal i (d :: ds) w2.S) Q) → wpAny (model X.prog X.w) X.A (call (.ref (T.fa i)) (.ref ad :: us)) (EP X pins σ Q) X.xe s2 := by
          rintro us s2 vs H2 I2 rvs ⟨w2, ds, rfl, wd2, st2, rs2, q2⟩
          exact run_A (vs := V.ref ad :: vs) c3 hr hgd tk I2 (.cons rfl rvs) ⟨d :: ds, w2, rfl, wd2, .cons (r.mono st2.toMon) rs2, q2⟩
        cases es with
        | nil =>
          cases hy rfl
          exact PySem.W.callWith_K0 (first := [.ref ad]) I1.kIn c2.kp (run [] s1 [] w1.H I1 .nil ⟨w1, [], rfl, wd1, Step.refl _, .nil, q⟩)
        | cons e es =>
          rw [List.all_cons, Bool.and_eq_true] at hp
          exact PySem.W.callWith_K (first := [.ref ad]) (h₀ := X.base) I.ok.mod.kin c2.kp (thn (hes.run pos pins s1 σ w1.H _ I1 hA) fun us s2 ⟨vs2, H2, I2, rv2, z⟩ => ⟨I2.kIn, run us s2 vs2 H2 I2 rv2 z⟩) (star_plain hp.1) (npl_of es hp.2)
      · cases hm
    · cases hm
/-! new objects -/
theorem run_makeA {k : Nat} {C f : Addr} {sp : Sp} {pins : List (Addr × Obj)} {σ : L2.St} {H : Hp} {s : Shared} {Q : VK} {us : List Value} {vs : List V} (M : Mk X.K C f) (F : FnA X.prog X.w X.K X.mg X.base k f sp) (hr : Room (k + 1) X.A) (hgd : X.A.guards = some []) (tk : Takes X W) (I : Inv X pins σ H s) (r : Vals vs us)
    (h : ∀ x dx, H x = none → H dx = none → dx ≠ x → sp (.ref x :: vs) (upd (upd H dx (.own x)) x (.ins C dx [])) (fun v H2 => v = .non ∧ Q (.ref x) H2) (WE W σ)) :
    wpAny (model X.prog X.w) X.A (call (.ref C) us) (EP X pins σ Q) X.xe s := by
  have hq := h (s.heap.objs.size + 1) s.heap.objs.size (I.hok.fresh (Nat.le_succ _)) (I.hok.fresh (Nat.le_refl _)) (Nat.ne_of_lt (Nat.lt_succ_self _))
  have I2 := Inv.made (C := C) I
  refine wpAny_call (make_map (f := f) I.kIn M.makes M.init (beq_iff_eq.mp M.fn) (codeAny_mono (F.run _ X.stack _ _ (Value.ref (s.heap.objs.size + 1) :: us) (V.ref (s.heap.objs.size + 1) :: vs) _ _ (hr.make C us []) hgd (I2.env0.make C us []) (.cons rfl r) hq) fun r s' hq' => ?_))
  match r, hq' with
  | .error e, hq' => exact passAt tk σ pins _ _ e s' I2 hq'
  | .ok (.ret u), hq' =>
    obtain ⟨v, H', I3, rv, ev, q3⟩ := I2.after hq'
    subst ev
    exact ⟨rv, ⟨V.ref (s.heap.objs.size + 1), H', I3, rfl, q3⟩⟩
theorem run_makeK {k : Nat} {C f : Addr} {ks : List Str} {sp : List V → List V → Hp → VK → XK → Prop} {pins : List (Addr × Obj)} {σ : L2.St} {H : Hp} {s : Shared} {Q : VK} {us ws : List Value} {vs zs : List V} (M : Mk X.K C f) (F : FnK X.prog X.w X.K X.mg X.base k f ks sp) (hr : Room (k + 1) X.A) (hgd : X.A.guards = some []) (tk : Takes X W) (I : Inv X pins σ H s) (r : Vals vs us) (rz : Vals zs ws)
    (h : ∀ x dx, H x = none → H dx = none → dx ≠ x → sp (.ref x :: vs) zs (upd (upd H dx (.own x)) x (.ins C dx [])) (fun v H2 => v = .non ∧ Q (.ref x) H2) (WE W σ)) :
    wpAny (model X.prog X.w) X.A (call (.ref C) us (ks.zip ws)) (EP X pins σ Q) X.xe s := by
  have hq := h (s.heap.objs.size + 1) s.heap.objs.size (I.hok.fresh (Nat.le_succ _)) (I.hok.fresh (Nat.le_refl _)) (Nat.ne_of_lt (Nat.lt_succ_self _))
  have I2 := Inv.made (C := C) I
  refine wpAny_call (make_map (f := f) I.kIn M.makes M.init (beq_iff_eq.mp M.fn) (codeAny_mono (F.run _ X.stack _ _ (Value.ref (s.heap.objs.size + 1) :: us) ws (V.ref (s.heap.objs.size + 1) :: vs) zs _ _ (hr.make C us (ks.zip ws)) hgd (I2.env0.make C us (ks.zip ws)) (.cons rfl r) rz hq) fun r s' hq' => ?_))
  match r, hq' with
  | .error e, hq' => exact passAt tk σ pins _ _ e s' I2 hq'
  | .ok (.ret u), hq' =>
    obtain ⟨v, H', I3, rv, ev, q3⟩ := I2.after hq'
    subst ev
    exact ⟨rv, ⟨V.ref (s.heap.objs.size + 1), H', I3, rfl, q3⟩⟩
/-- the store's new cell for a new instance -/
theorem new_cell {w : Wo} (wd : Wd T w) {x dx : Addr} {k : Nat} (hx : w.H x = none) (hdx : w.H dx = none) (ne : dx ≠ x) : ∃ w' : Wo, w'.H = upd (upd w.H dx (.own x)) x (.ins (T.kls k) dx []) ∧ w'.S = w.S ++ [.ins k [] []] ∧ Wd T w' ∧ Step w w' ∧ w'.r[w.S.length]? = some x := by
  obtain ⟨w1, s1, _⟩ := wd.still hdx (.own x)
  have hx1 : upd w.H dx (.own x) x = none := by rw [upd_ne (fun z => ne z.symm)]; exact hx
  obtain ⟨w2, s2, l2⟩ := w1.alloc (p := x) (o := .ins (T.kls k) dx []) (c := .ins k [] []) hx1 fun w' st e => ⟨dx, [], by rw [e]; exact upd_same, ⟨rfl, fun f hf => nomatch hf⟩, .nil⟩
  exact ⟨_, rfl, rfl, w2, s1.trans s2, l2⟩
/-- behind __init__ -/
theorem new_post {w w' : Wo} {σ : L2.St} {m : Bool} {n : Nat} {x : Addr} {r : R D} {Q : VK} (st : Step w w') (hn : w'.r[n]? = some x) (h : Post T W w σ (Rep T) (newO m n r) Q) : Post T (fun cls dd _ H => WE W σ cls dd H) w' [] (Rep T) r (fun v H2 => v = .non ∧ Q (.ref x) H2) := by
  cases r with
  | stuck => exact h.elim
  | ex c v S => exact fun w2 cls dd e wd2 st2 rx => h w2 cls dd e wd2 (st.trans st2) rx
  | ok d S =>
    cases d <;> first | exact h.elim | skip
    intro w2 v e wd2 st2 rv
    cases rv
    refine ⟨rfl, ?_⟩
    have hx : w2.r[n]? = some x := st2.pre n x hn
    cases m with
    | true => exact h w2 _ e wd2 (st.trans st2) (.ref hx)
    | false =>
      change Post T W w σ (Rep T) (frzD (.ref n) S) Q at h
      cases hf : frzD (.ref n) S with
      | stuck => rw [hf] at h; exact h.elim
      | ex c u S2 =>
        exfalso
        unfold frzD at hf
        dsimp only at hf
        split at hf <;> cases hf
      | ok e' S2 =>
        rw [hf] at h
        rw [← e] at hf
        obtain ⟨w3, e3, eh, wd3, st3, r3⟩ := frz_ok wd2 (.ref hx) hf
        rw [← eh]
        exact h w3 _ e3 wd3 ((st.trans st2).trans st3) r3
theorem ok_new (ob : ObOk T G X.prog X.w X.K X.mg X.base lv kn sh) (hr : Room (lv + 1) X.A) (hgd : X.A.guards = some []) (kp : Kept Ξ) (tk : Takes X W) {y : C} {m : Bool} {k : Nat} {n : Str} {es : List Expr} {p : Pos} (hk : kn[k]? = some n) (hg : Gl X n) (hdb : (n == ("__debug__" : Str)) = false) (hes : PA X es (tEvs T W Ξ (evs G y))) (hy : es = [] → y = .nil) (hp : es.all plainE = true) :
    PE X (.Call (.Name n p) es [] pos) (tEv T W Ξ (ev G (.new m k y))) := by
  refine ⟨fun pins s σ H Q I h => ?_⟩
  obtain ⟨δ, w, rfl, wd, en, xi, h⟩ := h
  have h' : Post T W w σ (Rep T) (match G.ini k with
    | some i => (evs G y δ w.S).bind fun ds S1 => newO m S1.length (G.cal i (.ref S1.length :: ds) (S1 ++ [.ins k [] []]))
    | none => .stuck) Q := h
  obtain ⟨hm, _⟩ := ob.nam k n hk
  cases hi : G.ini k with
  | none => rw [hi] at h'; exact h'.elim
  | some i =>
    rw [hi] at h'
    obtain ⟨M, F⟩ := ob.ini k i hi
    have run : ∀ us s2 (vs : List V) (H2 : Hp), Inv X pins σ H2 s2 → Vals vs us → (∃ (w2 : Wo) (ds : List D), w2.H = H2 ∧ Wd T w2 ∧ Step w w2 ∧ Reps T w2 ds vs ∧ Post T W w2 σ (Rep T) (newO m w2.S.length (G.cal i (.ref w2.S.length :: ds) (w2.S ++ [.ins k [] []]))) Q) → wpAny (model X.prog X.w) X.A (call (.ref (T.kls k)) us) (EP X pins σ Q) X.xe s2 := by
      rintro us s2 vs H2 I2 rvs ⟨w2, ds, rfl, wd2, st2, rs2, q2⟩
      refine run_makeA M F hr hgd tk I2 rvs fun x dx hx hdx ne => ?_
      obtain ⟨w3, e3, eS, wd3, st3, hn⟩ := new_cell (k := k) wd2 hx hdx ne
      exact ⟨.ref w2.S.length :: ds, w3, e3, wd3, .cons (.ref hn) (rs2.mono st3.toMon), by rw [eS]; exact new_post st3 hn q2⟩
    refine wpAny_Call_Name_kw (ld_glob I hg hm ?_ hdb)
    cases es with
    | nil =>
      cases hy rfl
      exact PySem.W.callWith_K0 I.kIn M.kp (run [] s [] w.H I .nil ⟨w, [], rfl, wd, Step.refl _, .nil, h'⟩)
    | cons e es =>
      rw [List.all_cons, Bool.and_eq_true] at hp
      have hA : tEvs T W Ξ (evs G y) σ w.H (fun vs H1 => ∃ (w2 : Wo) (ds : List D), w2.H = H1 ∧ Wd T w2 ∧ Step w w2 ∧ Reps T w2 ds vs ∧ Post T W w2 σ (Rep T) (newO m w2.S.length (G.cal i (.ref w2.S.length :: ds) (w2.S ++ [.ins k [] []]))) Q) := ⟨δ, w, rfl, wd, en, xi, Post.split h'⟩
      exact PySem.W.callWith_K (h₀ := X.base) I.ok.mod.kin M.kp (thn (hes.run pos pins s σ w.H _ I hA) fun us s2 ⟨vs2, H2, I2, rv2, z⟩ => ⟨I2.kIn, run us s2 vs2 H2 I2 rv2 z⟩) (star_plain hp.1) (npl_of es hp.2)
/-- C(e, .., k = v, ..) -/
theorem ok_newk (ob : ObOk T G X.prog X.w X.K X.mg X.base lv kn sh) (hr : Room (lv + 1) X.A) (hgd : X.A.guards = some []) (kp : Kept Ξ) (tk : Takes X W) {y z : C} {m : Bool} {k sn : Nat} {n : Str} {ks : List Str} {e : Expr} {es : List Expr} {kws : List Keyword} {p : Pos} (hk : kn[k]? = some n) (hsh : sh sn = some (n, ks)) (hg : Gl X n) (hdb : (n == ("__debug__" : Str)) = false) (hes : PA X (e :: es) (tEvs T W Ξ (evs G y))) (hkw : PK X kws (tEvs T W Ξ (evs G z))) (hs : plainE e = true)
    (hall : (backToKw pos (keywordEach kws X.env)).all (·.1.isSome) = true) (hks : (backToKw pos (keywordEach kws X.env)).filterMap (·.1) = ks) (hpl : ((backTo pos (starEach (e :: es) X.env)).any (·.1) || (backToKw pos (keywordEach kws X.env)).any (·.1.isNone)) = false) :
    PE X (.Call (.Name n p) (e :: es) kws pos) (tEv T W Ξ (ev G (.newk m k sn y z))) := by
  refine ⟨fun pins s σ H Q I h => ?_⟩
  obtain ⟨δ, w, rfl, wd, en, xi, h⟩ := h
  have h' : Post T W w σ (Rep T) ((evs G y δ w.S).bind fun ds S1 => (evs G z δ S1).bind fun zs S2 => newO m S2.length (G.cak sn (.ref S2.length :: ds) zs (S2 ++ [.ins k [] []]))) Q := h
  obtain ⟨hm, _⟩ := ob.nam k n hk
  obtain ⟨M, F⟩ := ob.nks sn n ks k hsh hk
  refine wpAny_Call_Name_kw (ld_glob I hg hm ?_ hdb)
  refine PySem.W.callWith_KW (h₀ := X.base) I.ok.mod.kin M.kp hall (thn (hes.run pos pins s σ w.H (fun vs H1 => tEvs T W Ξ (evs G z) σ H1 fun zs H2 => ∃ (w2 : Wo) (xs ys : List D), w2.H = H2 ∧ Wd T w2 ∧ Reps T w2 xs vs ∧ Reps T w2 ys zs ∧ Post T W w2 σ (Rep T) (newO m w2.S.length (G.cak sn (.ref w2.S.length :: xs) ys (w2.S ++ [.ins k [] []]))) Q) I ?_) fun us s1 hq => ?_) hpl (star_plain hs)
  · refine ⟨δ, w, rfl, wd, en, xi, (Post.split h').mono fun vs H1 ⟨w1, xs, e1, wd1, st1, r1, h1⟩ => ?_⟩
    subst e1
    exact ⟨δ, w1, rfl, wd1, en.mono st1.toMon, kp _ _ _ st1 xi, (Post.split h1).mono fun zs H2 ⟨w2, ys, e2, wd2, st2, r2, h2⟩ => ⟨w2, xs, ys, e2, wd2, r1.mono st2.toMon, r2, h2⟩⟩
  · obtain ⟨vs, H1, I1, r, q⟩ := hq
    refine thn (hkw.run pos pins s1 σ H1 _ I1 q) fun ws s2 hq2 => ?_
    obtain ⟨zs, H2, I2, rz, w2, xs, ys, rfl, wd2, r2, r3, q2⟩ := hq2
    refine ⟨I2.kIn, ?_⟩
    rw [hks]
    refine run_makeK M F hr hgd tk I2 r rz fun x dx hx hdx ne => ?_
    obtain ⟨w3, e3, eS, wd3, st3, hn⟩ := new_cell (k := k) wd2 hx hdx ne
    exact ⟨.ref w2.S.length :: xs, ys, w3, e3, wd3, .cons (.ref hn) (r2.mono st3.toMon), r3.mono st3.toMon, by rw [eS]; exact new_post st3 hn q2⟩
/-- o.f = e -/
theorem ok_stA (ob : ObOk T G X.prog X.w X.K X.mg X.base lv kn sh) {p q : C} {f : Nat} {n : Str} {e : Expr} {spos : Pos} (hn : T.fld f = n) (ha : PE X a (tEv T W X0 (ev G p))) (he : PE X e (tEv T W X0 (ev G q))) (hs : swapsWith e (some (.Attribute a n spos)) pos.line X.env = pure false) :
    PS X (.Assign [.Attribute a n spos] e pos) (tSt T W (ex G (.stA p f q))) := by
  subst hn
  refine toPS (ps_fld ha he hs) fun E σ H h => ?_
  obtain ⟨δ, w, rfl, wd, en, h⟩ := h
  refine ⟨δ, w, rfl, wd, en, trivial, (PostS.ofR en h).mono fun v H1 ⟨w1, d, e1, wd1, st1, r1, h1⟩ => ?_⟩
  subst e1
  have en1 := en.mono st1.toMon
  refine ⟨δ, w1, rfl, wd1, en1, trivial, (PostS.ofR en1 h1).mono fun v2 H2 ⟨w2, d2, e2, wd2, st2, r2, h2⟩ => ?_⟩
  subst e2
  have en2 := en1.mono st2.toMon
  have r1' := r1.mono st2.toMon
  unfold stAD at h2
  cases d2 with
  | ref m =>
    cases r2 with
    | @ref _ ad hm =>
    cases hS : w2.S[m]? with
    | none => simp only [hS] at h2; exact h2.elim
    | some cl =>
      cases cl with
      | ins k fs vs =>
        simp only [hS] at h2
        by_cases hc : (G.isf k f && decide (fs.length < 1000)) = true
        · rw [if_pos hc] at h2
          rw [Bool.and_eq_true] at hc
          obtain ⟨hf, c1, c2⟩ := ob.isf k f hc.1
          obtain ⟨dx, us, hp, fo, rs⟩ := wd2.cell m _ ad hS hm
          obtain ⟨us', p1, p2, p3⟩ := fld_put hf r1' fo rs
          obtain ⟨w3, s3⟩ := wd2.write (c' := .ins k (fput f d fs vs).1 (fput f d fs vs).2) (o := .ins (T.kls k) dx (putF (T.fld f) v (flds T fs us))) hS (fun z => nomatch z) hm fun w' st ee => ⟨dx, us', by rw [ee, p1]; exact upd_same, p2, p3.mono st.toMon⟩
          have hlen : (flds T fs us).length < 1000 := by
            have hle : ∀ (fs : List Nat) (us : List V), (flds T fs us).length ≤ fs.length := by
              intro fs
              induction fs with
              | nil => intro us; cases us <;> simp [flds]
              | cons g fs ih =>
                intro us
                cases us with
                | nil => simp [flds]
                | cons u us => simp [flds, ih us]
            exact Nat.lt_of_le_of_lt (hle fs us) (of_decide_eq_true hc.2)
          exact ⟨ad, _, dx, _, rfl, hp, c1, c2, hlen, h2 ⟨_, _, _, _⟩ σ rfl w3 s3 (en2.mono s3.toMon)⟩
        · rw [if_neg hc] at h2
          exact h2.elim
      | _ => simp only [hS] at h2; exact h2.elim
  | _ => exact h2.elim
/-- a field's content is frozen -/
theorem frzA_ok {d : D} {f : Nat} {S' : Store} {w : Wo} {v : V} (wd : Wd T w) (r : Rep T w d v) (h : frzAD d f w.S = some S') : ∃ w' : Wo, w'.S = S' ∧ w'.H = w.H ∧ Wd T w' ∧ Step w w' := by
  unfold frzAD at h
  cases d with
  | ref n =>
    cases r with
    | @ref _ a hn =>
    cases hS : w.S[n]? with
    | none => simp only [hS] at h; cases h
    | some cl =>
      cases cl with
      | ins k fs vs =>
        simp only [hS] at h
        cases hg : fget f fs vs with
        | none => rw [hg] at h; cases h
        | some e =>
          rw [hg] at h
          dsimp only at h
          cases hf : frzD e w.S with
          | stuck => rw [hf] at h; cases h
          | ex _ _ _ => rw [hf] at h; cases h
          | ok e' S1 =>
            rw [hf] at h
            dsimp only at h
            obtain ⟨dx, us, hp, fo, rs⟩ := wd.cell n _ a hS hn
            have key : ∀ {fs : List Nat} {vs : List D} {us : List V}, Reps T w vs us → fget f fs vs = some e → ∃ u, Rep T w e u ∧ ∀ w', Mon w w' → Rep T w' e' u → Reps T w' (fput f e' fs vs).2 us ∧ (fput f e' fs vs).2.length = vs.length := by
              intro fs
              induction fs with
              | nil => intro vs us _ z; cases vs <;> cases z
              | cons g fs ih =>
                intro vs us rs z
                cases rs with
                | nil => cases z
                | @cons v0 u0 vs us r0 rs =>
                  have z' : (if g = f then some v0 else fget f fs vs) = some e := z
                  by_cases hgf : g = f
                  · rw [if_pos hgf] at z'
                    cases z'
                    refine ⟨u0, r0, fun w' mo r' => ?_⟩
                    have ef : fput f e' (g :: fs) (e :: vs) = (g :: fs, e' :: vs) := by
                      show (if g = f then _ else _) = _
                      rw [if_pos hgf]
                    rw [ef]
                    exact ⟨.cons r' (rs.mono mo), rfl⟩
                  · rw [if_neg hgf] at z'
                    obtain ⟨u, q1, q2⟩ := ih rs z'
                    refine ⟨u, q1, fun w' mo r' => ?_⟩
                    have ef : fput f e' (g :: fs) (v0 :: vs) = (g :: (fput f e' fs vs).1, v0 :: (fput f e' fs vs).2) := by
                      show (if g = f then _ else _) = _
                      rw [if_neg hgf]
                    rw [ef]
                    obtain ⟨q3, q4⟩ := q2 w' mo r'
                    exact ⟨.cons (r0.mono mo) q3, by simp [q4]⟩
            obtain ⟨u, q1, q2⟩ := key rs hg
            obtain ⟨w1, e1, eh, wd1, st1, r1⟩ := frz_ok wd q1 hf
            cases hS1 : S1[n]? with
            | none => rw [hS1] at h; cases h
            | some cl1 =>
              cases cl1 with
              | ins k1 fs1 vs1 =>
                rw [hS1] at h
                cases h
                have hS1' : w1.S[n]? = some (.ins k1 fs1 vs1) := by rw [e1]; exact hS1
                have hn1 := st1.pre n a hn
                obtain ⟨w2, s2⟩ := wd1.write (c' := .ins k fs (fput f e' fs vs).2) (o := .ins (T.kls k) dx (flds T fs us)) hS1' (fun z => nomatch z) hn1 fun w' st ee => by
                  obtain ⟨g1, g2⟩ := q2 w' (st1.toMon.trans st.toMon) (r1.mono st.toMon)
                  exact ⟨dx, us, by rw [ee]; exact upd_same, by rw [g2]; exact fo, g1⟩
                have eH : upd w1.H a (.ins (T.kls k) dx (flds T fs us)) = w.H := by
                  rw [eh]
                  funext b
                  by_cases hb : b = a
                  · rw [hb, upd_same, hp]
                  · rw [upd_ne hb]
                exact ⟨⟨w1.S.set n (.ins k fs (fput f e' fs vs).2), w1.r, upd w1.H a (.ins (T.kls k) dx (flds T fs us)), w1.x⟩, by rw [← e1], eH, w2, st1.trans s2⟩
              | _ => rw [hS1] at h; cases h
      | _ => simp only [hS] at h; cases h
  | _ => cases h
theorem ok_frzA {sts : List Stmt} {i f : Nat} {y : C} (h2 : PSs X sts (tSt T W (ex G y))) : PSs X sts (tSt T W (ex G (.cons (.frzA i f) y))) := by
  refine toPSs h2 fun E σ H h => ?_
  obtain ⟨δ, w, rfl, wd, en, h⟩ := h
  change PostS T W w (match δ[i]? with
    | some (some d) => match frzAD d f w.S with
      | some S1 => ex G y δ S1
      | none => .stuck
    | _ => .stuck) E at h
  split at h
  · rename_i d ed
    obtain ⟨v, ev, rv⟩ := en.at_ i d ed
    split at h
    · rename_i S1 hf
      obtain ⟨w1, e1, eh, wd1, st1⟩ := frzA_ok wd rv hf
      exact ⟨δ, w1, eh, wd1, en.mono st1.toMon, by rw [e1]; exact PostS.step st1 h⟩
    · exact h.elim
  · exact h.elim
/-- isinstance(x, C), C a class of the text -/
theorem ok_iso (hK : X.K = T.K) (ob : ObOk T G X.prog X.w X.K X.mg X.base lv kn sh) (kp : Kept Ξ) {x : C} {k : Nat} {n : Str} {p p3 : Pos} (hk : kn[k]? = some n) (hg : Gl X "isinstance") (hm : X.mg "isinstance" = none) (hgn : Gl X n) (hdb : (n == ("__debug__" : Str)) = false)
    (ha : PE X a (tEv T W Ξ (ev G x))) (hs : plainE a = true) : PE X (.Call (.Name "isinstance" p) [a, .Name n p3] [] pos) (tEv T W Ξ (ev G (.iso x k))) := by
  obtain ⟨hmn, kl⟩ := ob.nam k n hk
  have hlt : k < kn.length := (List.getElem?_eq_some_iff.mp hk).1
  have hT : PE X (.Name n p3) (tC (.ref (T.kls k))) := ⟨fun pins s σ H Q I h => ld_glob I hgn hmn ⟨.ref _, H, I, rfl, h⟩ hdb⟩
  have e1 : starEach [a, .Name n p3] X.env = (false, eval a X.env) :: starEach [.Name n p3] X.env := star_plain hs
  refine toPE (pe_callB call_isi hg hm (by decide +kernel) (pa_cons ha (pa_cons hT pa_nil) e1) (by decide) (by decide) e1 rfl) fun σ H Q h => ?_
  obtain ⟨δ, w, rfl, wd, en, xi, h⟩ := h
  refine (tEv.bind1 kp wd en xi h).imp fun v H1 ⟨w1, d, e1, wd1, _, _, r, q⟩ => ?_
  subst e1
  unfold optD at q
  have fin : ∀ (tv : Value) (bb : Bool), TyX X.K w1.H v tv → PySem.W.kitOne X.K tv (.ref (T.kls k)) = some bb → Post T W w1 σ (Rep T) (.ok (.bl bb) w1.S) Q → ∃ (x c : V) (t u : Value) (b : Bool), [v, V.ref (T.kls k)] = [x, c] ∧ ClsV c u ∧ TyX X.K w1.H x t ∧ PySem.W.kitOne X.K t u = some b ∧ Q (.bl b) w1.H :=
    fun tv bb h1 h2 h3 => ⟨v, .ref _, tv, _, bb, rfl, .own _, h1, h2, Post.here wd1 (.bl _) h3⟩
  have dat : ∀ (t : String), t ∈ (["NoneType", "bool", "int", "str", "list", "tuple", "dict"] : List String) → TyX X.K w1.H v (.type t) → Post T W w1 σ (Rep T) (.ok (.bl false) w1.S) Q → _ := fun t ht h1 h3 => fin (.type t) false h1 (ob.isd k hlt t ht) h3
  cases e : deref w1.S d with
  | obj c fs vs =>
    have ei : isoD G w1.S d k = G.isa c k := by unfold isoD; rw [e]
    rw [ei] at q
    cases hi : G.isa c k with
    | none => rw [hi] at q; exact q.elim
    | some bb =>
      rw [hi] at q
      obtain ⟨kl, kt⟩ := ob.isa c k bb hi
      obtain ⟨ad, dx, us, rfl, hp, _, _⟩ := deref_obj wd1 r e
      exact fin (.ref (T.kls c)) bb (.base (.ins hp kl.cls kl.ca kl.cn kl.ct kl.cm)) kt q
  | ref m =>
    have ei : isoD G w1.S d k = none := by unfold isoD; rw [e]
    rw [ei] at q
    exact q.elim
  | scr m =>
    have ei : isoD G w1.S d k = none := by unfold isoD; rw [e]
    rw [ei] at q
    exact q.elim
  | non =>
    have ei : isoD G w1.S d k = some false := by unfold isoD; rw [e]
    rw [ei] at q
    cases deref_non wd1 r e
    exact dat "NoneType" (by simp) (.base .non) q
  | bl z =>
    have ei : isoD G w1.S d k = some false := by unfold isoD; rw [e]
    rw [ei] at q
    cases deref_bl wd1 r e
    exact dat "bool" (by simp) (.base (.bl z)) q
  | int z =>
    have ei : isoD G w1.S d k = some false := by unfold isoD; rw [e]
    rw [ei] at q
    cases deref_int wd1 r e
    exact dat "int" (by simp) (.base (.int z)) q
  | str z =>
    have ei : isoD G w1.S d k = some false := by unfold isoD; rw [e]
    rw [ei] at q
    cases deref_str wd1 r e
    exact dat "str" (by simp) (.base (.str z)) q
  | lst ds =>
    have ei : isoD G w1.S d k = some false := by unfold isoD; rw [e]
    rw [ei] at q
    obtain ⟨a, vs, rfl, ha, _⟩ := deref_lst wd1 r e
    exact dat "list" (by simp) (.base (.lst ha)) q
  | tup ds =>
    have ei : isoD G w1.S d k = some false := by unfold isoD; rw [e]
    rw [ei] at q
    obtain ⟨a, vs, rfl, _, ha, _⟩ := deref_tup wd1 r e
    exact dat "tuple" (by simp) (.base (.tup ha.1)) q
  | dct ks vs =>
    have ei : isoD G w1.S d k = some false := by unfold isoD; rw [e]
    rw [ei] at q
    obtain ⟨a, kvs, rfl, ha⟩ := ty_dct wd1 r e
    exact dat "dict" (by simp) (.base (.dK ha)) q
  | emp =>
    have ei : isoD G w1.S d k = some false := by unfold isoD; rw [e]
    rw [ei] at q
    obtain ⟨a, rfl, ha⟩ := deref_emp wd1 r e
    obtain ⟨o, o1, o2⟩ := emp_ty ha
    exact dat "tuple" (by simp) (.kTuple (by rw [hK]; exact o1) o2) q
  | dtt ks vs =>
    have ei : isoD G w1.S d k = some false := by unfold isoD; rw [e]
    rw [ei] at q
    obtain ⟨a, kvs, _, rfl, ha, _⟩ := deref_dtt wd1 r e
    exact dat "dict" (by simp) (.base (.dT ha)) q
  | err _ _ =>
    have ei : isoD G w1.S d k = none := by unfold isoD; rw [e]
    rw [ei] at q
    exact q.elim
theorem isi_all {w : Wo} (wd : Wd T w) {d : D} {v : V} (r : Rep T w d v) {t0 : Ty} {k0 : Bool} (h0 : isiD w.S d t0 = some k0) (K : PySem.W.Frag) (hK : K = T.K) :
    ∃ tv, TyX K w.H v tv ∧ ∀ (t : Ty) (k : Bool), isiD w.S d t = some k → (∀ c, t ≠ .own c) → PySem.W.kitOne K tv (.type (tyName t)) = some k := by
  unfold isiD at h0
  unfold isiD
  cases e : deref w.S d with
  | ref n => rw [e] at h0; cases h0
  | scr n => rw [e] at h0; cases h0
  | obj _ _ _ => rw [e] at h0; cases h0
  | err _ _ => rw [e] at h0; cases h0
  | non =>
    cases deref_non wd r e
    exact ⟨_, .base .non, fun t k h ht => by cases t <;> first | exact absurd rfl (ht _) | (cases h; exact kit_ty (by decide +kernel))⟩
  | bl x =>
    cases deref_bl wd r e
    exact ⟨_, .base (.bl x), fun t k h ht => by cases t <;> first | exact absurd rfl (ht _) | (cases h; exact kit_ty (by decide +kernel))⟩
  | int x =>
    cases deref_int wd r e
    exact ⟨_, .base (.int x), fun t k h ht => by cases t <;> first | exact absurd rfl (ht _) | (cases h; exact kit_ty (by decide +kernel))⟩
  | str x =>
    cases deref_str wd r e
    exact ⟨_, .base (.str x), fun t k h ht => by cases t <;> first | exact absurd rfl (ht _) | (cases h; exact kit_ty (by decide +kernel))⟩
  | lst ds =>
    obtain ⟨a, vs, rfl, ha, _⟩ := deref_lst wd r e
    exact ⟨_, .base (.lst ha), fun t k h ht => by cases t <;> first | exact absurd rfl (ht _) | (cases h; exact kit_ty (by decide +kernel))⟩
  | tup ds =>
    obtain ⟨a, vs, rfl, _, ha, _⟩ := deref_tup wd r e
    exact ⟨_, .base (.tup ha.1), fun t k h ht => by cases t <;> first | exact absurd rfl (ht _) | (cases h; exact kit_ty (by decide +kernel))⟩
  | dct ks vs =>
    obtain ⟨a, kvs, rfl, ha⟩ := ty_dct wd r e
    exact ⟨_, .base (.dK ha), fun t k h ht => by cases t <;> first | exact absurd rfl (ht _) | (cases h; exact kit_ty (by decide +kernel))⟩
  | emp =>
    obtain ⟨a, rfl, ha⟩ := deref_emp wd r e
    obtain ⟨o, o1, o2⟩ := emp_ty ha
    exact ⟨_, .kTuple (by rw [hK]; exact o1) o2, fun t k h ht => by cases t <;> first | exact absurd rfl (ht _) | (cases h; exact kit_ty (by decide +kernel))⟩
  | dtt ks vs =>
    obtain ⟨a, kvs, _, rfl, ha, _⟩ := deref_dtt wd r e
    exact ⟨_, .base (.dT ha), fun t k h ht => by cases t <;> first | exact absurd rfl (ht _) | (cases h; exact kit_ty (by decide +kernel))⟩
/-- isinstance(x, (t, u)) -/
theorem ok_isit (hK : X.K = T.K) (kp : Kept Ξ) {x : C} {t u : Ty} {p p3 p4 p5 : Pos} {j : Nat} {n n' : Str} (hg : Gl X "isinstance") (hm : X.mg "isinstance" = none) (hgn : Gl X n) (hmn : X.mg n = none) (hv : bootBuiltins n = some (.type (tyName t))) (hn : n ≠ "__name__") (hdn : (n == ("__debug__" : Str)) = false)
    (hgn' : Gl X n') (hmn' : X.mg n' = none) (hv' : bootBuiltins n' = some (.type (tyName u))) (hn' : n' ≠ "__name__") (hdn' : (n' == ("__debug__" : Str)) = false)
    (ht : ∀ c, t ≠ .own c) (hu : ∀ c, u ≠ .own c) (ha : PE X a (tEv T W Ξ (ev G x))) (hs : plainE a = true) : PE X (.Call (.Name "isinstance" p) [a, .Tuple [.Name n p3, .Name n' p4] j p5] [] pos) (tEv T W Ξ (ev G (.isit x t u))) := by
  have hT : PE X (.Name n p3) (tC (.ty (tyName t))) := ⟨fun pins s σ H Q I h => ld_blt I hgn hmn hv ⟨.ty _, H, I, rfl, h⟩ hn hdn⟩
  have hU : PE X (.Name n' p4) (tC (.ty (tyName u))) := ⟨fun pins s σ H Q I h => ld_blt I hgn' hmn' hv' ⟨.ty _, H, I, rfl, h⟩ hn' hdn'⟩
  have hTU : PE X (.Tuple [.Name n p3, .Name n' p4] j p5) _ := pe_tup (pa_cons hT (pa_cons hU pa_nil))
  have e1 : starEach [a, .Tuple [.Name n p3, .Name n' p4] j p5] X.env = (false, eval a X.env) :: starEach [.Tuple [.Name n p3, .Name n' p4] j p5] X.env := star_plain hs
  refine toPE (pe_callB call_isiT hg hm (by decide +kernel) (pa_cons ha (pa_cons hTU pa_nil) e1) (by decide) (by decide) e1 rfl) fun σ H Q h => ?_
  obtain ⟨δ, w, rfl, wd, en, xi, h⟩ := h
  refine (tEv.bind1 kp wd en xi h).imp fun v H1 ⟨w1, d, e1, wd1, _, _, r, q⟩ => ?_
  subst e1
  unfold isitD optD at q
  refine ⟨by show 2 ≤ sizeLine; rw [sizeLine_eq]; decide, fun tp htp => ?_⟩
  obtain ⟨w2, s2, l2⟩ := wd1.still htp (.tup [.ty (tyName t), .ty (tyName u)])
  have r2 := r.mono s2.toMon
  cases h1 : isiD w1.S d t with
  | none => rw [h1] at q; exact q.elim
  | some b1 =>
    cases h2 : isiD w1.S d u with
    | none => rw [h1, h2] at q; exact q.elim
    | some b2 =>
      rw [h1, h2] at q
      obtain ⟨tv, g1, g2⟩ := isi_all w2 r2 h1 X.K hK
      have k1 := g2 t b1 h1 ht
      have k2 := g2 u b2 h2 hu
      refine ⟨v, tp, _, tv, [.type (tyName t), .type (tyName u)], b1 || b2, rfl, upd_same, .cons (.ty _) (.cons (.ty _) .nil), g1, ?_, ?_⟩
      · unfold PySem.W.kitAny
        rw [k1]
        cases b1 with
        | true => rfl
        | false =>
          show PySem.W.kitAny X.K tv [.type (tyName u)] = some (false || b2)
          unfold PySem.W.kitAny
          rw [k2]
          cases b2 <;> rfl
      · exact q ⟨w1.S, w1.r, upd w1.H tp (.tup [.ty (tyName t), .ty (tyName u)]), w1.x⟩ _ rfl w2 s2 (.bl _)
/-- list(range(a, b)) -/
theorem ok_lrng (kp : Kept Ξ) {x y : C} {m : Bool} {p p2 q : Pos} (hc : X.calm = true) (hg : Gl X "list") (hm : X.mg "list" = none) (hgr : Gl X "range") (hmr : X.mg "range" = none) (ha : PE X a (tEv T W Ξ (ev G x))) (hb : PE X b (tEv T W Ξ (ev G y))) (hs : plainE a = true) (hs2 : plainE b = true) :
    PE X (.Call (.Name "list" p) [.Call (.Name "range" p2) [a, b] [] q] [] pos) (tEv T W Ξ (ev G (.lrng m x y))) := by
  have e2 : starEach [b] X.env = [(false, eval b X.env)] := star_plain hs2
  have e1 : starEach [a, b] X.env = (false, eval a X.env) :: starEach [b] X.env := star_plain hs
  refine toPE (pe_listRg hc hg hm (prg_2 hgr hmr ha hb e1 e2 (npl_of [b] (by simp [hs2])))) fun σ H Q h => ?_
  obtain ⟨δ, w, rfl, wd, en, xi, h⟩ := h
  refine (tEv.bind2 kp wd en xi h).imp fun v H1 h1 => h1.imp fun u H2 ⟨w2, d, e, q1, q2, _, _, q3, q4, q5⟩ => ?_
  subst q1
  obtain ⟨i, rfl, rfl⟩ : ∃ j, d = .int j ∧ v = .int j := by
    cases q3 with
    | int j => exact ⟨j, rfl, rfl⟩
    | _ => exact q5.elim
  obtain ⟨j, rfl, rfl⟩ : ∃ j, e = .int j ∧ u = .int j := by
    cases q4 with
    | int j => exact ⟨j, rfl, rfl⟩
    | _ => exact q5.elim
  change Post T W w2 σ (Rep T) (if inR i && inR j then newL m (rangeD i j) w2.S else .stuck) Q at q5
  by_cases f : (inR i && inR j) = true
  · rw [if_pos f] at q5
    rw [Bool.and_eq_true] at f
    have g := inR_lt f.2
    have g' := inR_lt f.1
    have rr : Reps T w2 (rangeD i j) (rgV i j) := by
      unfold rangeD rgV
      generalize List.range (j - i).toNat = l
      induction l with
      | nil => exact .nil
      | cons k l ih => exact .cons (.int _) ih
    obtain ⟨h1, h2⟩ := newL_ok q2 rr q5
    rw [rgV_length, sizeLine_eq] at h1
    exact ⟨i, j, rfl, rfl, ⟨by omega, by omega, by omega, by omega, by omega⟩, h2⟩
  · rw [if_neg f] at q5
    exact q5.elim
/-- len(set(xs)) -/
theorem dedup_fm (ns : List Int) : firstMet (fun i => ns.getD i 0) ns.length = dedup ns := by
  unfold firstMet dedup
  have e : (List.range ns.length).map (fun i => ns.getD i 0) = ns := by
    apply List.ext_getElem?
    intro i
    rw [List.getElem?_map]
    by_cases h : i < ns.length
    · rw [List.getElem?_range h, List.getElem?_eq_getElem h]
      simp [h]
    · rw [List.getElem?_eq_none (by simpa using h), List.getElem?_eq_none (by omega)]
      rfl
  rw [e]
  rfl
theorem mem_dedupT {ns : List (List Int)} {k : List Int} : k ∈ dedupT ns ↔ k ∈ ns := by
  have key : ∀ (l acc : List (List Int)), k ∈ l.foldl (fun l k => if l.any (· == k) then l else l ++ [k]) acc ↔ k ∈ acc ∨ k ∈ l := by
    intro l
    induction l with
    | nil => intro acc; simp
    | cons x l ih =>
      intro acc
      rw [List.foldl_cons, ih]
      by_cases h : acc.any (· == x) = true
      · rw [if_pos h]
        obtain ⟨y, hy, e⟩ := List.any_eq_true.mp h
        have e' : y = x := by simpa using e
        subst e'
        constructor
        · rintro (z | z)
          · exact .inl z
          · exact .inr (List.mem_cons_of_mem _ z)
        · rintro (z | z)
          · exact .inl z
          · rcases List.mem_cons.mp z with z | z
            · exact .inl (by rw [z]; exact hy)
            · exact .inr z
      · rw [if_neg h]
        simp [or_assoc]
  unfold dedupT
  rw [key]
  simp
theorem nodup_dedupT (ns : List (List Int)) : (dedupT ns).Nodup := by
  have key : ∀ (l acc : List (List Int)), acc.Nodup → (l.foldl (fun l k => if l.any (· == k) then l else l ++ [k]) acc).Nodup := by
    intro l
    induction l with
    | nil => intro acc h; exact h
    | cons x l ih =>
      intro acc h
      rw [List.foldl_cons]
      apply ih
      by_cases hx : acc.any (· == x) = true
      · rw [if_pos hx]; exact h
      · rw [if_neg hx, List.nodup_append]
        refine ⟨h, by simp, fun a ha b hb e => hx ?_⟩
        have : b = x := by simpa using hb
        exact List.any_eq_true.mpr ⟨a, ha, by rw [e, this]; simp⟩
  exact key ns [] List.nodup_nil
theorem tups_vals {w : Wo} : ∀ {ds : List D} {vs : List V} {ts : List (List Int)}, Reps T w ds vs → tupsD ds = some ts → ∃ ks : List (Addr × List Int), vs = ks.map (fun p => V.ref p.1) ∧ (∀ p ∈ ks, SqT T.K w.H p.1 (p.2.map V.int)) ∧ ks.map (·.2) = ts
  | _, _, _, .nil, e => by cases e; exact ⟨[], rfl, (fun p h => nomatch h), rfl⟩
  | d :: ds, _, ts, .cons r rs, e => by
    cases r <;> first | (cases e; done) | skip
    rename_i a us es ha ra
    unfold tupsD at e
    cases h1 : intsD es with
    | none => rw [h1] at e; cases e
    | some i =>
      cases h2 : tupsD ds with
      | none => rw [h1, h2] at e; cases e
      | some j =>
        rw [h1, h2] at e
        cases e
        obtain ⟨ks, k1, k2, k3⟩ := tups_vals rs h2
        have ev := ints_vals ra h1
        subst ev
        refine ⟨(a, i) :: ks, by rw [k1]; rfl, fun p hp => ?_, by rw [List.map_cons, k3]⟩
        rcases List.mem_cons.mp hp with e | hp
        · rw [e]; exact ha.sq
        · exact k2 p hp
theorem ok_lset (hK : X.K = T.K) (hu : X.A.units + 66 < cLine) (kp : Kept Ξ) {x : C} {p p2 q : Pos} (hc : X.calm = true) (hg : Gl X "len") (hm : X.mg "len" = none) (hg2 : Gl X "set") (hm2 : X.mg "set" = none) (ha : PE X a (tEv T W Ξ (ev G x))) (hs : plainE a = true) :
    PE X (.Call (.Name "len" p) [.Call (.Name "set" p2) [a] [] q] [] pos) (tEv T W Ξ (ev G (.lset x))) := by
  have na : starEach [a] X.env = (false, eval a X.env) :: starEach [] X.env := star_plain hs
  refine ⟨fun pins s σ H Q I h => ?_⟩
  obtain ⟨δ, w, rfl, wd, en, xi, h⟩ := h
  refine Call_ (ld_blt I hg hm boot_len (callWith_builtin1 (args_cons (Call_ (ld_blt I hg2 hm2 boot_set (callWith_type1 (args_cons (thn (ha.run pins s σ w.H _ I (tEv.bind1 kp wd en xi h)) fun v s1 ⟨y, H1, I1, r1, w1, d, e1, wd1, _, _, r, q1⟩ => args_nil ?_) na) na rfl))) rfl) rfl rfl))
  subst e1
  unfold lenSet at q1
  cases hl : isL (deref w1.S d) with
  | none => rw [hl] at q1; exact q1.elim
  | some ds =>
    rw [hl] at q1
    dsimp only at q1
    cases hn : intsD ds with
    | none =>
      rw [hn] at q1
      dsimp only at q1
      cases ht : tupsD ds with
      | none => rw [ht] at q1; exact q1.elim
      | some ts =>
        rw [ht] at q1
        dsimp only at q1
        by_cases f : decide (ts.length < 64) = true
        · rw [if_pos f] at q1
          have f' := of_decide_eq_true f
          obtain ⟨l, vs, rfl, hp, rs⟩ := deref_lst wd1 r (isL_some hl)
          obtain ⟨ks, e1, e2, e3⟩ := tups_vals rs ht
          subst e1
          cases r1
          obtain ⟨its, rv, pl, hz⟩ := I1.list (SqL.of hp)
          have hkl : ks.length = ts.length := by rw [← e3, List.length_map]
          refine call_set_tups (P := X.prog) (w := X.w) ks (I1.ok.hd hc) pl.isList (by simpa using refs_of_vals rv) (fun p hp => I1.isT (by rw [hK]; exact e2 p hp)) (by omega) (by omega) fun h' tk L es ep t R g hk => args_nil ?_
          have I2 : Inv X pins σ w1.H { s1 with heap := h', toks := tk } := I1.kept fun b o e => hk b o e
          have hsz : es.size = L.length := by
            have h := congrArg List.length R.rows
            unfold rowsOf at h
            rw [Array.length_toList, List.length_map] at h
            exact h
          have pm : (L.map (·.2)).Perm (dedupT ts) := (List.perm_ext_iff_of_nodup R.nd (nodup_dedupT ts)).mpr fun k => by
            rw [mem_dedupT, ← e3]
            constructor
            · intro h
              obtain ⟨p, hp, e⟩ := List.mem_map.mp h
              exact List.mem_map.mpr ⟨p, List.mem_of_mem_take (g.sub p hp), e⟩
            · intro h
              obtain ⟨p, hp, e⟩ := List.mem_map.mp h
              rw [← e]
              exact g.all p (by rw [List.take_length]; exact hp)
          have hLl : L.length = (dedupT ts).length := by
            have := pm.length_eq
            rw [List.length_map] at this
            exact this
          obtain ⟨o, ho, hex, hd⟩ := R.ob
          have few := R.few
          exact call_len_set ho hex hd (SetTR.fits (s := { s1 with heap := h', toks := tk }) R) (by rw [hsz]; omega) ⟨.int (dedupT ts).length, w1.H, I2.tok _, ⟨_, by rw [hsz, hLl]⟩, Post.here wd1 (.int _) q1⟩
        · rw [if_neg f] at q1
          exact q1.elim
    | some ns =>
      rw [hn] at q1
      dsimp only at q1
      by_cases f : decide (ns.length ≤ 4000) = true
      · rw [if_pos f] at q1
        have f' := of_decide_eq_true f
        obtain ⟨l, vs, rfl, hp, rs⟩ := deref_lst wd1 r (isL_some hl)
        have ev := ints_vals rs hn
        subst ev
        cases r1
        obtain ⟨its, rv, pl, hz⟩ := I1.list (SqL.of hp)
        have hlen : its.toArray.size = ns.length := by rw [List.size_toArray, ← rv.length, List.length_map]
        refine call_set_list (I1.ok.hd hc) pl.isList (ns := ns) (by simpa using intsAre_vals rv) (by rw [hlen]; unfold scanBound; omega) fun h' tk hS hk => args_nil ?_
        rw [hlen, dedup_fm] at hS
        obtain ⟨o, es, ep, t, ho, hex, hd, _, _, _, hf, hn2⟩ := hS
        have I2 : Inv X pins σ w1.H { s1 with heap := h', toks := tk } := I1.kept fun b o e => hk b o (Heap.lt_size e) e
        have hle : (dedup ns).length ≤ ns.length := by rw [← dedup_fm]; exact firstMet_length_le _ _
        exact call_len_set ho hex hd hf (by rw [hn2]; omega) ⟨.int (dedup ns).length, w1.H, I2.tok _, ⟨_, by rw [hn2]⟩, Post.here wd1 (.int _) q1⟩
      · rw [if_neg f] at q1
        exact q1.elim
end
end PV

namespace PV
open PySem L2 PyProof.Rows RZ
/-- a new set -/
abbrev ob0 (w : World) : Obj := { cls := .type "set", dict := none, data := .set #[] 0 (.fresh 0 0 (!w.params.followText "set-order")) }
section
variable {P : Program} {w : World} {A : Around} {E : Value → Shared → Prop} {s : Shared}
/-- set(xs), xs a list of ints: its members, as they can be walked -/
theorem set_ofL {l : Addr} {its : Array Value} (ns : List Int) {Q : Value → Shared → Prop} (hh : A.handled = none) (hl : s.heap.IsList l its) (hi : IntsAre its.toList ns) (hb : ns.length + 1 < scanBound)
    (h : ∀ (g : Heap) (tk c : Nat), SetR w g s.heap.objs.size (fun j => decide (j ∈ ns)) c → c ≤ ns.length → (∀ b o, s.heap.get? b = some o → g.get? b = some o) → Q (.ref s.heap.objs.size) { s with heap := g, toks := tk }) :
    wpAny (model P w) A (call (.type "set") [.ref l]) Q E s := by
  have hz : its.size = ns.length := by rw [← Array.length_toList]; exact IntsAre.length hi
  obtain ⟨c, tl, hmro⟩ := F.called_set.mro
  have m1 := F.called_set.made
  have m2 := F.called_set.sub
  refine wpAny_call (codeAny_of_tree (show wpAny _ _ (callAny (.type "set") _) _ _ _ from wpAny_pure ⟨Code.quiet_builtin _ (by decide +kernel), codeAny_builtin F.entry_type_call ?_⟩))
  rw [Around.under_plain (weight_type_call_type "set" [.ref l] []) rfl]
  have n1 := F.called_set.notType
  have n2 := F.called_set.canCreate
  have n3 := F.typeCall_set_1 (.ref l)
  repeat (any_goals (first | assumption | wp_step))
  refine codeAny_mono (code_set_led1 (.ref l) (E := E) (Q₁ := fun ob s1 => ob = .ref s.heap.objs.size ∧ s1 = { s with heap := s.heap.push (ob0 w) }) ⟨rfl, rfl⟩) fun r s1 hr => ?_
  match r, hr with
  | .error e, hr => exact hr
  | .ok (.ret ob), hr =>
    obtain ⟨rfl, rfl⟩ := hr
    have at0 : (s.heap.push (ob0 w)).get? s.heap.objs.size = some (ob0 w) := Heap.get?_push_size _ rfl
    have ty0 : Shared.TypeIs { s with heap := s.heap.push (ob0 w) } (.ref s.heap.objs.size) "set" := ⟨_, at0, rfl⟩
    have i1 := F.called_set.init.lookup
    have i2 := F.called_set.init.bind (.ref s.heap.objs.size)
    repeat (any_goals (first | assumption | wp_step))
    refine codeAny_mono (codeAny_call_builtin (R := wants (fun r s2 => r = .none ∧ ∃ g tk c, s2 = { s with heap := g, toks := tk } ∧ SetR w g s.heap.objs.size (fun j => decide (j ∈ ns)) c ∧ c ≤ ns.length ∧ ∀ b o, s.heap.get? b = some o → g.get? b = some o) E) F.called_set.init.plain F.entry_set_init (check_set_init_1 ty0 ?_)) fun r2 s2 hr2 => ?_
    · obtain ⟨⟨oc, od, dt, sl⟩, hol, hcl, nl, hdl⟩ := hl
      simp only at hcl hdl
      subst hcl
      subst hdl
      have hol1 : (s.heap.push (ob0 w)).get? l = some { cls := .type "list", dict := od, data := .seq its nl, slots := sl } := Heap.get?_push_of_some _ hol
      have k1 := F.sub_list_set
      have k2 := F.sub_list_frozenset
      have k3 : (Value.type "list" == Value.type "dict") = false := by decide
      have hl1 : (s.heap.push (ob0 w)).IsList l its := ⟨_, hol1, rfl, nl, rfl⟩
      unfold Builtin.«set.__init__» noKeywords Builtin.Frozenset.updateFrom
      generalize hPI : pyIter = PI
      wp_walk
      subst hPI
      refine wpAny_pyIter_list hl1 (wpAny_bind (wpAny_runValue ?_))
      have lt0 : l < s.heap.objs.size := Heap.lt_size hol
      have hd3 : A.in1.in1.in1.handled = none := by simp [hh]
      have ne1 : l ≠ (s.heap.push (ob0 w)).objs.size := by rw [Heap.size_push]; exact Nat.ne_of_lt (Nat.lt_succ_of_lt lt0)
      have nin : s.heap.objs.size ∉ [(s.heap.push (ob0 w)).objs.size, l] := by
        rw [Heap.size_push]
        intro z
        rcases List.mem_cons.mp z with z | z
        · exact absurd z (Nat.ne_of_lt (Nat.lt_succ_self _))
        · exact absurd (by simpa using z) (Nat.ne_of_gt lt0)
      have val : ∀ (i : Nat) (v : Value), its[i]? = some v → ∃ k t, ns[i]? = some k ∧ v = .int k t := fun i v hv => by
        have hin : i < ns.length := by rw [← hz]; exact (Array.getElem?_eq_some_iff.mp hv).1
        obtain ⟨t, e⟩ := IntsAre.int_at hi i v (by rw [Array.getElem?_toList]; exact hv)
        refine ⟨ns[i], t, List.getElem?_eq_getElem hin, ?_⟩
        rw [e, List.getD_eq_getElem?_getD, List.getElem?_eq_getElem hin] <;> rfl
      refine set_update_ints ((Walks.list hd3 _ l ne1 its).toS) s.heap.objs.size nin ns hz hb val (its.size - 0) 0 _ (by omega) (Nat.zero_le _) ⟨⟨_, Heap.get?_push_size _ rfl, rfl, rfl⟩, hl1.push _⟩ ⟨0, Nat.le_refl 0, setR_new_at (Heap.get?_push_of_some _ at0)⟩ fun s' c' hm hc' hS' => ?_
      obtain ⟨g, g2, d2, tk2, os2⟩ := s'
      obtain rfl : g2 = s.gens := hm.gens
      obtain rfl : d2 = s.drawn := hm.drawn
      obtain rfl : os2 = s.os := hm.os
      show wpAny _ _ _ _ _ _
      refine wpAny_pure (show wpAny _ _ (ret Value.none) _ _ _ from wpAny_pure ⟨rfl, g, tk2, c', rfl, hS', by rw [← hz]; exact hc', fun b o e => ?_⟩)
      have b0 : b < s.heap.objs.size := Heap.lt_size e
      refine hm.heap b o (fun z => ?_) (Heap.get?_push_of_some _ (Heap.get?_push_of_some _ e))
      rw [Heap.size_push] at z
      rcases List.mem_cons.mp z with z | z
      · exact absurd z (Nat.ne_of_lt b0)
      · exact absurd (by simpa using z) (Nat.ne_of_lt (Nat.lt_succ_of_lt b0))
    · match r2, hr2 with
      | .error e, hr2 => exact hr2
      | .ok (.ret r), hr2 =>
        obtain ⟨rfl, g, tk, c', rfl, hS', hc', hk'⟩ := hr2
        repeat (any_goals (first | assumption | wp_step))
        exact h _ _ _ hS' hc' hk'
      | .ok .next, hr2 => exact hr2.elim
      | .ok .brk, hr2 => exact hr2.elim
      | .ok .cont, hr2 => exact hr2.elim
  | .ok .next, hr => exact hr.elim
  | .ok .brk, hr => exact hr.elim
  | .ok .cont, hr => exact hr.elim
end
end PV

namespace PV
open PySem L2 PyProof.Rows RZ
theorem mem_dedup {ns : List Int} {k : Int} : k ∈ dedup ns ↔ k ∈ ns := by
  have key : ∀ (l acc : List Int), k ∈ l.foldl (fun l k => if l.any (· == k) then l else l ++ [k]) acc ↔ k ∈ acc ∨ k ∈ l := by
    intro l
    induction l with
    | nil => intro acc; simp
    | cons x l ih =>
      intro acc
      rw [List.foldl_cons, ih]
      by_cases h : acc.any (· == x) = true
      · rw [if_pos h]
        obtain ⟨y, hy, e⟩ := List.any_eq_true.mp h
        have e' : y = x := by simpa using e
        subst e'
        constructor
        · rintro (z | z)
          · exact .inl z
          · exact .inr (List.mem_cons_of_mem _ z)
        · rintro (z | z)
          · exact .inl z
          · rcases List.mem_cons.mp z with z | z
            · exact .inl (by rw [z]; exact hy)
            · exact .inr z
      · rw [if_neg h]
        simp [or_assoc]
  unfold dedup
  rw [key]
  simp
theorem nodup_dedup (ns : List Int) : (dedup ns).Nodup := by
  have key : ∀ (l acc : List Int), acc.Nodup → (l.foldl (fun l k => if l.any (· == k) then l else l ++ [k]) acc).Nodup := by
    intro l
    induction l with
    | nil => intro acc h; exact h
    | cons x l ih =>
      intro acc h
      rw [List.foldl_cons]
      apply ih
      by_cases hx : acc.any (· == x) = true
      · rw [if_pos hx]; exact h
      · rw [if_neg hx, List.nodup_append]
        refine ⟨h, by simp, fun a ha b hb e => hx ?_⟩
        have : b = x := by simpa using hb
        exact List.any_eq_true.mpr ⟨a, ha, by rw [e, this]; simp⟩
  exact key ns [] List.nodup_nil
theorem ins_perm (x : Int) : ∀ l : List Int, (insI x l).Perm (x :: l)
  | [] => List.Perm.refl _
  | y :: ys => by
    unfold insI
    split
    · exact List.Perm.refl _
    · exact ((ins_perm x ys).cons y).trans (List.Perm.swap x y ys)
theorem sort_perm : ∀ l : List Int, (sortI l).Perm l
  | [] => List.Perm.refl _
  | x :: xs => (ins_perm x (sortI xs)).trans ((sort_perm xs).cons x)
theorem ins_sorted (x : Int) : ∀ l : List Int, l.Pairwise (· ≤ ·) → (insI x l).Pairwise (· ≤ ·)
  | [], _ => by simp [insI]
  | y :: ys, h => by
    unfold insI
    have h' := List.pairwise_cons.mp h
    split
    · rename_i hx
      refine List.pairwise_cons.mpr ⟨fun z hz => ?_, h⟩
      rcases List.mem_cons.mp hz with e | hz
      · rw [e]; exact hx
      · exact Int.le_trans hx (h'.1 z hz)
    · rename_i hx
      refine List.pairwise_cons.mpr ⟨fun z hz => ?_, ins_sorted x ys h'.2⟩
      rcases List.mem_cons.mp ((ins_perm x ys).mem_iff.mp hz) with e | hz
      · rw [e]; omega
      · exact h'.1 z hz
theorem sort_sorted : ∀ l : List Int, (sortI l).Pairwise (· ≤ ·)
  | [] => List.Pairwise.nil
  | x :: xs => ins_sorted x _ (sort_sorted xs)
theorem sorted_eq : ∀ {a b : List Int}, a.Pairwise (· < ·) → b.Pairwise (· < ·) → (∀ k, k ∈ a ↔ k ∈ b) → a = b
  | [], [], _, _, _ => rfl
  | [], y :: _, _, _, h => by
    have := (h y).mpr List.mem_cons_self
    cases this
  | x :: _, [], _, _, h => by
    have := (h x).mp List.mem_cons_self
    cases this
  | x :: xs, y :: ys, ha, hb, h => by
    have ha' := List.pairwise_cons.mp ha
    have hb' := List.pairwise_cons.mp hb
    have e : x = y := by
      rcases List.mem_cons.mp ((h x).mp List.mem_cons_self) with z | z
      · exact z
      · rcases List.mem_cons.mp ((h y).mpr List.mem_cons_self) with z2 | z2
        · exact z2.symm
        · have := ha'.1 y z2
          have := hb'.1 x z
          omega
    subst e
    rw [sorted_eq ha'.2 hb'.2 fun k => ?_]
    constructor
    · intro hk
      rcases List.mem_cons.mp ((h k).mp (List.mem_cons_of_mem _ hk)) with z | z
      · have := ha'.1 k hk
        omega
      · exact z
    · intro hk
      rcases List.mem_cons.mp ((h k).mpr (List.mem_cons_of_mem _ hk)) with z | z
      · have := hb'.1 k hk
        omega
      · exact z
theorem sort_strict {l : List Int} (h : l.Nodup) : (sortI l).Pairwise (· < ·) := by
  have h1 := sort_sorted l
  have h2 : (sortI l).Nodup := (sort_perm l).nodup_iff.mpr h
  have h3 := h1.and h2
  exact h3.imp fun ⟨a, b⟩ => by omega
section
variable {X : Cx} {T : Tb} {W : WX} {Ξ : Xi} {G : Gv} {a : Expr} {pos : Pos}
/-- sorted(set(xs)) -/
theorem ok_sset (kp : Kept Ξ) {x : C} {m : Bool} {p p2 q : Pos} (hc : X.calm = true) (hg : Gl X "sorted") (hm : X.mg "sorted" = none) (hg2 : Gl X "set") (hm2 : X.mg "set" = none) (ha : PE X a (tEv T W Ξ (ev G x))) (hs : plainE a = true) :
    PE X (.Call (.Name "sorted" p) [.Call (.Name "set" p2) [a] [] q] [] pos) (tEv T W Ξ (ev G (.sset m x))) := by
  have na : starEach [a] X.env = (false, eval a X.env) :: starEach [] X.env := star_plain hs
  refine ⟨fun pins s σ H Q I h => ?_⟩
  obtain ⟨δ, w, rfl, wd, en, xi, h⟩ := h
  refine Call_ (ld_blt I hg hm (by decide +kernel : bootBuiltins "sorted" = some (.builtin "sorted")) (callWith_builtin1 (args_cons (Call_ (ld_blt I hg2 hm2 boot_set (callWith_type1 (args_cons (thn (ha.run pins s σ w.H _ I (tEv.bind1 kp wd en xi h)) fun v s1 ⟨y, H1, I1, r1, w1, d, e1, wd1, _, _, r, q1⟩ => args_nil ?_) na) na rfl))) rfl) rfl rfl))
  subst e1
  unfold sortSet at q1
  cases hl : isL (deref w1.S d) with
  | none => rw [hl] at q1; exact q1.elim
  | some ds =>
    rw [hl] at q1
    dsimp only at q1
    cases hn : intsD ds with
    | none => rw [hn] at q1; exact q1.elim
    | some ns =>
      rw [hn] at q1
      dsimp only at q1
      by_cases f : decide (ns.length < 64) = true
      · rw [if_pos f] at q1
        have f' := of_decide_eq_true f
        obtain ⟨l, vs, rfl, hp, rs⟩ := deref_lst wd1 r (isL_some hl)
        have ev := ints_vals rs hn
        subst ev
        cases r1
        obtain ⟨its, rv, pl, hz⟩ := I1.list (SqL.of hp)
        refine set_ofL ns (I1.ok.hd hc) pl.isList (by simpa using intsAre_vals rv) (by unfold scanBound; omega) fun g tk c hS hc' hk => args_nil ?_
        have I2 : Inv X pins σ w1.H { s1 with heap := g, toks := tk } := I1.kept fun b o e => hk b o e
        refine sorted_set hS (I2.ok.hd hc) (by omega) fun s' p out c ks k gg o hp' hg' hi' hs' hm' hl' => ?_
        have ek : ks = sortI (dedup ns) := sorted_eq hs' (sort_strict (nodup_dedup ns)) fun j => by
          rw [hm', (sort_perm (dedup ns)).mem_iff, mem_dedup]
          simp
        subst ek
        have rr : Reps T w1 ((sortI (dedup ns)).map D.int) ((sortI (dedup ns)).map V.int) := Reps.ints _
        obtain ⟨n1, n2⟩ := newL_ok wd1 rr q1
        have hfr : w1.H p = none := I2.hok.fresh hp'
        have J : Inv X pins σ (upd w1.H p (.lst ((sortI (dedup ns)).map V.int))) { ({ s1 with heap := g, toks := tk } : Shared) with heap := s'.heap, gens := s'.gens, drawn := s'.drawn, toks := s'.toks } :=
          I2.call (ch := []) (Un.laid k hp' hfr) (I2.hok.laid k hp' ⟨n1, out.toList, c, vals_of_ints hi', hg'⟩) (by rw [gg]; exact I2.bare) (fun _ z => nomatch z)
        have es : s' = { s1 with heap := s'.heap, gens := s'.gens, drawn := s'.drawn, toks := s'.toks } := by
          cases s'
          cases s1
          cases o
          rfl
        rw [es]
        exact ⟨.ref p, _, J, rfl, n2 p hfr⟩
      · rw [if_neg f] at q1
        exact q1.elim
end
end PV

namespace PV
open PySem L2 PyProof.Rows RZ

section
variable {prog : Program} {w : World} {A : Around} {E : Value → Shared → Prop} {s : Shared}
theorem places_neg (n : Nat) : Builtin.Slice.slicePlaces ((n : Int) - 1) (-1) (-1) = n := by
  unfold Builtin.Slice.slicePlaces
  have h1 : ¬ ((-1 : Int) > 0) := by omega
  simp only [h1, if_false]
  split
  · have : (- (-1 : Int)) = 1 := by omega
    rw [this, Int.ediv_one]
    omega
  · omega
theorem sliceApplied_neg {sl : Addr} {vl vu vs : Value} {n : Nat} {Q : Int × Int × Nat → Shared → Prop} (hs : s.heap.IsSliceOf sl vl vu vs) (pl : IsPart vl none) (pu : IsPart vu none) (ps : IsPart vs (some (-1)))
    (h : Q ((n : Int) - 1, -1, n) s) : wpAny (model prog w) A (Builtin.Slice.sliceApplied (.ref sl) (pure (n : Int))) Q E s := by
  obtain ⟨os, hos, hcs, hds⟩ := id hs
  unfold Builtin.Slice.sliceApplied Builtin.Slice.sliceFields
  refine wpAny_bind (wpAny_bind (wpAny_field hos hds (x := vl) rfl (wpAny_bind (wpAny_field hos hds (x := vu) rfl (wpAny_bind (wpAny_field hos hds (x := vs) rfl (wpAny_pure ?_)))))))
  refine wpAny_bind (HT.slicePart_ ps ?_)
  show wpAny _ _ (if ((-1 : Int) == 0) = true then _ else _) _ _ s
  rw [if_neg (by decide)]
  refine wpAny_bind (HT.slicePart_ pl (wpAny_bind (HT.slicePart_ pu (wpAny_bind (wpAny_pure ?_)))))
  show wpAny _ _ (pure ((n : Int) - 1, (-1 : Int), Builtin.Slice.slicePlaces ((n : Int) - 1) (-1) (-1))) _ _ s
  rw [places_neg]
  exact wpAny_pure h
theorem getItem_tuple_rev {t sl : Addr} {items : Array Value} {vl vu vs : Value} {Q : Value → Shared → Prop} (ht : IsTup s.heap t items) (hs : s.heap.IsSliceOf sl vl vu vs) (pl : IsPart vl none) (pu : IsPart vu none) (ps : IsPart vs (some (-1)))
    (h : Q (.ref s.heap.objs.size) { s with heap := s.heap.push { cls := .type "tuple", data := .seq items.toList.reverse.toArray } })
    (hsz : items.size ≤ sizeLine) : wpAny (model prog w) A (getItem (.ref t) (.ref sl)) Q E s := by
  have hsize : sizeOk (.seq items.toList.reverse.toArray) := by
    show items.toList.reverse.toArray.size ≤ sizeLine
    rw [List.size_toArray, List.length_reverse, Array.length_toList]
    exact hsz
  obtain ⟨os, hos, hcs, hds⟩ := id hs
  have hTs : s.TypeIs (.ref sl) "slice" := ⟨os, hos, hcs⟩
  unfold getItem
  try with_reducible refine wpAny_holding ?_
  first | refine wpAny_bind (wpAny_pure ?_) | skip
  refine wpAny_bind (wpAny_sequenceKey ht.typeIs (by decide) ?_)
  refine wpAny_bind (wpAny_callSpecial?_slot (name := Str.ofString "__getitem__") ht.typeIs PyProof.Rows.slot_tuple_getitem (wpAny_call_entry PyProof.Rows.slot_tuple_getitem ht.typeIs entry_tuple_getitem ?_ (args_tuple_getitem _ _)))
  show wpAny _ _ (Builtin.Tuple.tupleItemsOf (.ref t) >>= _) _ _ s
  refine wpAny_bind (tupleItemsOf_ ht ?_)
  refine wpAny_bind (wpAny_typeOf hTs ?_)
  rw [if_pos (by decide)]
  refine wpAny_bind (sliceApplied_neg hs pl pu ps ?_)
  have hno : ¬ ((((items.size : Int) - 1) == 0 && (-1 : Int) == 1 && items.size == items.size) = true) := by
    intro q
    rw [Bool.and_eq_true, Bool.and_eq_true] at q
    have z : ((-1 : Int) == 1) = true := q.1.2
    cases z
  have hpick : ((List.range items.size).filterMap fun (m : Nat) => items[(((items.size : Int) - 1) + (m : Int) * -1).toNat]?).toArray = items.toList.reverse.toArray := by
    have e0 : (fun (m : Nat) => items[(((items.size : Int) - 1) + (m : Int) * -1).toNat]?) = (fun k => items[k]?) ∘ fun m => items.size - 1 - m := by
      funext m
      show items[_]? = items[_]?
      have e : (((items.size : Int) - 1) + (m : Int) * -1).toNat = items.size - 1 - m := by omega
      rw [e]
    rw [e0, ← List.filterMap_map, PySem.W.krv_range, List.filterMap_reverse, PySem.W.krv_all]
  show wpAny _ _ (if (((items.size : Int) - 1) == 0 && (-1 : Int) == 1 && items.size == items.size) = true then _ else _) _ _ s
  rw [if_neg hno, hpick]
  first
    | exact wpAny_bind (m := Builtin.Tuple.tupleExact _) (wpAny_newObj_type (wpAny_pure ⟨_, rfl, wpAny_pure h⟩) hsize)
    | exact wpAny_bind (m := Builtin.Tuple.tupleExact _) (wpAny_newObj_type (wpAny_bind (wpAny_pure (wpAny_pure ⟨_, rfl, wpAny_pure h⟩))) hsize)
    | exact wpAny_bind (wpAny_bind (m := Builtin.Tuple.tupleExact _) (wpAny_newObj_type (wpAny_pure (wpAny_pure ⟨_, rfl, wpAny_pure h⟩)) hsize))
    | exact wpAny_bind (wpAny_bind (m := Builtin.Tuple.tupleExact _) (wpAny_newObj_type (wpAny_pure ⟨_, rfl, wpAny_pure h⟩) hsize))
end
section
variable {X : Cx} {T : Tb} {W : WX} {Ξ : Xi} {G : Gv} {a : Expr} {pos : Pos}
/-- x[::-1] -/
def tRev2 (T : Tb) (m : Bool) (te : TE) : TE := fun σ H Q => te σ H fun x H1 => ∃ (W : WX) (σ0 : L2.St) (d : D) (w : Wo), w.H = H1 ∧ Wd T w ∧ Rep T w d x ∧ Post T W w σ0 (Rep T) (match deref w.S d with | .tup ds => .ok (.tup ds.reverse) w.S | .lst ds => newL m ds.reverse w.S | _ => .stuck) Q
theorem pe_rev2 (hK : X.K = T.K) {m : Bool} {e : Expr} {te : TE} {k : Nat} {p1 p2 p3 : Pos} (he : PE X e te) : PE X (.Subscript e (.Slice none none (some (.UnaryOp .USub (.Constant (.int 1) k p1) p2)) p3) pos) (tRev2 T m te) := by
  refine ⟨fun pins s σ H Q I h => ?_⟩
  refine Subscript_ (thn (he.run pins s σ H _ I h) fun v s1 ⟨x, H1, I1, r1, q1⟩ => ?_)
  obtain ⟨W, σ0, d, w, rfl, wd, ra, q⟩ := q1
  have hst : PO X (some (.UnaryOp .USub (.Constant (.int 1) k p1) p2)) (tPart (tUn (rU fun i => .int (-i)) (tC (.int 1)))) := po_some (pe_un un_neg pe_int)
  refine wpAny_Slice (thn (po_none.run pins s1 σ w.H (fun o H2 => o = none ∧ H2 = w.H) I1 ⟨rfl, rfl⟩) fun vl s2 ⟨l, H2, I2, pl, el, e2⟩ => ?_)
  subst el e2
  refine thn (po_none.run pins s2 σ w.H (fun o H3 => o = none ∧ H3 = w.H) I2 ⟨rfl, rfl⟩) fun vu s3 ⟨u, H3, I3, pu, eu, e3⟩ => ?_
  subst eu e3
  refine thn (hst.run pins s3 σ w.H (fun o H4 => o = some (-1) ∧ H4 = w.H) I3 ⟨1, rfl, -1, rfl, rfl, rfl⟩) fun vs s4 ⟨o, H4, I4, ps, eo, e4⟩ => ?_
  subst eo e4
  have I5 : Inv X pins σ w.H { s4 with heap := s4.heap.push { cls := .type "slice", data := .fields #[vl, vu, vs] } } := I4.kept (t' := s4.toks) fun b ob q => Heap.get?_push_of_some _ q
  split at q
  · rename_i ds ed
    obtain ⟨a, xs, rfl, hx, st, rs⟩ := deref_tup wd ra ed
    cases r1
    rw [← hK] at hx
    obtain ⟨its, r, ht, hz⟩ := I5.tuple hx
    have hlen := r.length
    refine tail_any (value := e) (slice := .Slice none none (some (.UnaryOp .USub (.Constant (.int 1) k p1) p2)) p3) (o := .ref a) (i := .ref s4.heap.objs.size) (ops := [.ref a, .ref s4.heap.objs.size]) ht.typeIs (PyProof.Rows.slot_tuple_getitem.lookup) ?_ (by with_unfolding_all rfl)
    refine getItem_tuple_rev ht (Heap.IsSliceOf.new _ vl vu vs) pl pu ps ?_ (by rw [List.size_toArray]; omega)
    refine ⟨.ref _, _, I5.laid (t' := s4.toks) (o := .tup xs.reverse) (fun b ob q => Heap.get?_push_of_some _ q) (Nat.le_refl _) ?_, rfl, newT_ok wd rs.rev q _ (I5.hok.fresh (Nat.le_refl _))⟩
    exact ⟨by rw [List.length_reverse]; exact hz, _, r.reverse, IsTup.new _ _⟩
  · rename_i ds ed
    obtain ⟨a, xs, rfl, hx, rs⟩ := deref_lst wd ra ed
    cases r1
    obtain ⟨its, r, ht, hz⟩ := I5.list (SqL.of hx)
    have hlen := r.length
    refine tail_any (value := e) (slice := .Slice none none (some (.UnaryOp .USub (.Constant (.int 1) k p1) p2)) p3) (o := .ref a) (i := .ref s4.heap.objs.size) (ops := [.ref a, .ref s4.heap.objs.size]) ht.isList.typeIs (PySem.slot_list_getitem.lookup) ?_ (by with_unfolding_all rfl)
    refine wpAny_getItem_list_slice ht.isList (Heap.IsSliceOf.new _ vl vu vs) pl pu ps (by decide) ?_ (by rw [List.size_toArray]; omega)
    rw [PySem.W.krv_pick]
    refine ⟨.ref _, _, I5.laid (t' := s4.toks) (o := .lst xs.reverse) (fun b ob q => Heap.get?_push_of_some _ q) (Nat.le_refl _) ?_, rfl, (newL_ok wd rs.rev q).2 _ (I5.hok.fresh (Nat.le_refl _))⟩
    exact ⟨by rw [List.length_reverse]; exact hz, _, 0, r.reverse, Heap.get?_push_size _ rfl⟩
  · exact q.elim
theorem ok_rev (hK : X.K = T.K) (kp : Kept Ξ) {x : C} {m : Bool} {k : Nat} {p1 p2 p3 : Pos} (ha : PE X a (tEv T W Ξ (ev G x))) : PE X (.Subscript a (.Slice none none (some (.UnaryOp .USub (.Constant (.int 1) k p1) p2)) p3) pos) (tEv T W Ξ (ev G (.rev m x))) := by
  refine toPE (pe_rev2 hK (m := m) ha) fun σ H Q h => ?_
  obtain ⟨δ, w, rfl, wd, en, xi, h⟩ := h
  refine (tEv.bind1 kp wd en xi h).imp fun v H1 ⟨w1, d, e1, wd1, _, _, r, q⟩ => ?_
  exact ⟨W, σ, d, w1, e1, wd1, r, q⟩
/-- {} -/
theorem ok_dct0 : PE X (.Dict [] [] pos) (tEv T W Ξ (ev G (.dct false .nil .nil))) := by
  refine toPE pe_dnewK fun σ H Q h => ?_
  obtain ⟨δ, w, rfl, wd, en, xi, h⟩ := h
  intro p hp
  obtain ⟨w2, s2, l2⟩ := wd.still hp (.dK [])
  exact h ⟨_, _, _, _⟩ (.ref p) rfl w2 s2 (.dct upd_same l2 rfl .nil)
theorem ok_dct1 : PE X (.Dict [] [] pos) (tEv T W Ξ (ev G (.dct true .nil .nil))) := by
  refine toPE pe_dnewT fun σ H Q h => ?_
  obtain ⟨δ, w, rfl, wd, en, xi, h⟩ := h
  intro p hp
  obtain ⟨w2, s2, l2⟩ := wd.alloc (c := .dtt [] []) (o := .dT []) hp fun w' st e => ⟨[], [], by rw [e]; exact upd_same, rfl, .nil⟩
  exact h ⟨_, _, _, _⟩ (.ref p) rfl w2 s2 (.ref l2)
/-- C.f, a constant of the class -/
theorem ok_cval {g : Nat} {x f : Str} {p : Pos} {Ca : Addr} {mc : Value} {v : V} {u : Value} (hn : PE X (.Name x p) (tC (.ref Ca))) (r : ClX.CRead X.K Ca mc) (k : ClX.CVal X.K Ca mc f v u) (rp : ∀ w, Rep T w (G.gl g) v) : PE X (.Attribute (.Name x p) f pos) (tEv T W Ξ (ev G (.glob g))) := by
  refine toPE (ClX.pe_cval hn) fun σ H Q h => ?_
  obtain ⟨δ, w, rfl, wd, en, xi, h⟩ := h
  exact ⟨Ca, mc, v, u, rfl, r, k, Post.here wd (rp w) h⟩
end
end PV

namespace PV
open PySem L2 PyProof.Rows RZ
section
variable {prog : Program} {wl : World} {A : Around} {E : Value → Shared → Prop} {s : Shared} {K : PySem.W.Frag} {x D : Addr} {ox : Obj} {od : Option Obj}
theorem obj_class (ec : ExcC K D) : PySem.W.findObj K D od "__class__" = some (.bind (.builtin "getset_descriptor.__get__") (.builtin "object.__class__")) := by
  have isc : (PySem.W.clsIn K D).isSome = true := by
    obtain ⟨cd, hc, _⟩ := PySem.W.any_some ec.hd
    rw [hc]
    rfl
  cases od with
  | none => exact PySem.W.findObj_dataN isc ec.ha ec.hn ec.ht
  | some o => exact PySem.W.findObj_data isc ec.ha ec.hn ec.ht
/-- e.__class__ of an error of an own class, with or without a dict -/
theorem exc_class {Q : Option Value → Shared → Prop} (ec : ExcC K D) (kin : K.In s.heap) (at_ : PySem.W.InstAt s.heap x ox D od) (q : Q (some (.ref D)) { s with toks := s.toks + 1 }) : wpAny (model prog wl) A (getAttr? (.ref x) "__class__") Q E s := by
  obtain ⟨hp, gg, dd, tt, oo⟩ := s
  have ty := at_.type (M := model prog wl)
  have f1 := PySem.W.looks_findIn (M := model prog wl) kin ec.hg
  have f2 := PySem.W.looks_findIn (M := model prog wl) kin ec.hk
  have f3 := PySem.W.looks_find (M := model prog wl) kin at_ (obj_class (od := od) ec)
  have isb : PySem.W.Looks (model prog wl) hp (isInstance (.ref x) (.type "BaseException")) true := ty.andThen (PySem.W.looks_subIn kin ec.hs)
  have n0 : (false && onTheHeap (Value.builtin "BaseException.__getattribute__")) = false := rfl
  have n1 : (onTheHeap (Value.ref D) && Value.builtin "BaseException.__getattribute__" == Value.builtin "object.__getattribute__") = false := by
    have : (Value.builtin "BaseException.__getattribute__" == Value.builtin "object.__getattribute__") = false := by decide +kernel
    rw [this]; rfl
  unfold getAttr? getAttrBy? getAttrBy
  refine wpAny_bind (wpAny_mkText (wpAny_bind (wpAny_attempt (wpAny_holding (wpAny_bind (ty.at (wpAny_bind (f1.at ?_))))))))
  show wpAny _ _ (if (onTheHeap (Value.ref D) && Value.builtin "BaseException.__getattribute__" == Value.builtin "object.__getattribute__") = true then _ else _) _ _ _
  rw [n1, if_neg Bool.false_ne_true]
  unfold getAttrByItsOwn hookBefore
  refine wpAny_bind ?_
  rw [if_pos (show onTheHeap (Value.ref D) = true from rfl)]
  refine f2.at (wpAny_bind (wpAny_attempt (wpAny_holding ?_)))
  unfold callGetattribute
  rw [n0, if_neg Bool.false_ne_true]
  unfold boundAndCalled
  rw [PySem.F.excAttr_ValueError.ga.bind (.ref x)]
  refine wpAny_bind (wpAny_pure ?_)
  refine wpAny_call (codeAny_call_builtin PySem.F.excAttr_ValueError.ga.plain PySem.F.entry_bexc_ga ?_)
  refine @PySem.W.check_slot (model prog wl) _ _ ⟨hp, gg, dd, tt + 1, oo⟩ "BaseException.__getattribute__" "BaseException" "__getattribute__" (.ref x) [.str "__class__" tt] [] _ (by decide +kernel) (by decide +kernel) isb (PySem.F.args_bexc_ga (.ref x) (.str "__class__" tt)) ?_
  unfold Builtin.«object.__getattribute__»
  refine wpAny_bind (wpAny_of_eq (a := ((Value.ref x : Value), [Value.str "__class__" tt])) (by first | rfl | (simp only [slotArgs]; rfl)) ?_)
  refine wpAny_bind (wpAny_pure (wpAny_bind (ty.at (wpAny_bind (f3.at ?_)))))
  refine wpAny_bind (wpAny_holding (wpAny_call (PySem.W.class_get (s := ⟨hp, gg, dd, tt + 1, oo⟩) (ox := ox) (od := od) kin at_ ec.hm ?_)))
  refine wpAny_pure ?_
  show wpAny _ _ (handedOut (.ref D)) _ _ _
  rw [PySem.W.handedOut_of (v := .ref D) rfl]
  first
    | exact wpAny_pure (wpAny_pure q)
    | exact wpAny_pure q
    | exact wpAny_pure (wpAny_bind (wpAny_pure (wpAny_pure q)))
/-- what isinstance asks of such an error -/
theorem kit_exc (ec : ExcC K D) : PySem.W.KitX K (.ref x) (.ref D) (fun h => PySem.W.InstAt h x ox D od) := by
  have stands : ∃ (c : Value) (d0 : Option Addr) (cd : ClassData) (sl : Array (Option Value)), K.lookup D = some ⟨c, d0, .cls cd, sl⟩ := by
    obtain ⟨cd, hc, _⟩ := PySem.W.any_some ec.hd
    unfold PySem.W.clsIn at hc
    split at hc
    · exact ⟨_, _, _, _, by assumption⟩
    · cases hc
  obtain ⟨c0, d0, cd, sl, lk⟩ := stands
  refine ⟨fun _ _ _ I => I.type, fun _ _ X _ => ?_, fun h tp dd its n sl2 X htp => ?_, fun X I k => exc_class ec X I k⟩
  · intro A' Q' E' s' keep q
    unfold isType loadHead
    exact wpAny_bind (wpAny_loadPart (keep _ _ (X _ _ lk)) (wpAny_pure q))
  · refine Bool.eq_false_iff.mpr fun same => ?_
    have e : D = tp := Value.ref.inj (beq_iff_eq.mp same)
    rw [← e, X _ _ lk] at htp
    cases htp
end
/-- isinstance(e, c), e the error that the suite holds -/
theorem call_isX {X : Cx} {a D : Addr} {oe : Obj} {cls : Value} {d : Option Addr} {pn : List (Addr × Obj)} (ec : ExcC X.K D) (hz : Zc cls d oe) (hf : ∃ vs, oe.data = .fields vs) :
    CallR (X.suite a ((a, oe) :: pn)) (.builtin "isinstance") (fun xs H Q => cls = .ref D ∧ (∃ dd fs, d = some dd ∧ H dd = some (.xd fs)) ∧ rIsE X.K D a xs H Q) := by
  intro pins s σ H xs us Q I r h
  obtain ⟨rfl, ⟨dd, fs, rfl, hdd⟩, c, cv, b, rfl, hcv, e, q⟩ := h
  cases r with
  | cons rx rr =>
    cases rr with
    | cons rt rr =>
      cases rr
      cases rx
      have same := hcv _ rt
      subst same
      obtain ⟨hget, _⟩ := I.pin (a, oe) (List.mem_append.mpr (.inl List.mem_cons_self))
      obtain ⟨vs, hv⟩ := hf
      obtain ⟨mA, hns, _⟩ := (I.hok dd _ hdd : ObjOk X.prog X.w H s.heap dd (.xd fs))
      obtain ⟨od, ho, _⟩ := lookIn_ns hns
      have J : PySem.W.InstAt s.heap a oe D (some od) := ⟨hget, hz.1, by unfold PySem.W.notCls; rw [hv], by rw [hz.2]; exact ho⟩
      exact PySem.W.kia_one (kit_exc ec) I.kIn J e (fun z => nomatch z) fun tk => ⟨.bl b, H, I.kept (t' := tk) fun _ _ z => z, rfl, q⟩
end PV

namespace PV
open PySem L2 PyProof.Rows RZ
/-- a clause: its class, the slot of its name if it has one, its suite -/
abbrev Cla := Value × Option Nat × (Addr → Value → Option Addr → TS)
/-- the ends of a suite whose name is gone behind it -/
def noName (i : Nat) (D : Ends) : Ends := { nx := fun σ H => D.nx (σ.set i none) H, rt := D.rt, bk := fun σ H => D.bk (σ.set i none) H, ct := fun σ H => D.ct (σ.set i none) H }
def wGen (K : PySem.W.Frag) (out : WX) (D : Ends) : List Cla → WX
  | [] => out
  | (c, none, ts) :: r => fun cls d σ H => ∃ b, PySem.W.exmOne K cls c = some b ∧ (b = true → ∀ a, H a = none → ts a cls d D σ H) ∧ (b = false → wGen K out D r cls d σ H)
  | (c, some i, ts) :: r => fun cls d σ H => ∃ b, PySem.W.exmOne K cls c = some b ∧ (b = true → ∀ a, H a = none → ts a cls d (noName i D) (σ.set i (some (.ref a))) H) ∧ (b = false → wGen K out D r cls d σ H)
def SuiteOk (X : Cx) (ss : List Stmt) (ts : Addr → Value → Option Addr → TS) : Prop := ∀ (a : Addr) (oe : Obj) (cls : Value) (d : Option Addr) (pn : List (Addr × Obj)), Zc cls d oe → (∃ vs, oe.data = .fields vs) → PSs (X.suite a ((a, oe) :: pn)) ss (ts a cls d)
inductive ClaOk (X : Cx) : List ExceptHandler → List Cla → Prop
  | nil : ClaOk X [] []
  | bare {x : Str} {c : Value} {ts : Addr → Value → Option Addr → TS} {b0 : Stmt} {bs : List Stmt} {p q : Pos} {hs : List ExceptHandler} {l : List Cla} (nm : Names X x c) (su : SuiteOk X (b0 :: bs) ts) (r : ClaOk X hs l) : ClaOk X (.ExceptHandler (some (.Name x p)) none (b0 :: bs) q :: hs) ((c, none, ts) :: l)
  | named {x n : Str} {i : Nat} {c : Value} {ts : Addr → Value → Option Addr → TS} {b0 : Stmt} {bs : List Stmt} {p q : Pos} {hs : List ExceptHandler} {l : List Cla} (nm : Names X x c) (hi : X.N[i]? = some n) (ln : X.env.kindOf n = some .local) (su : SuiteOk X (b0 :: bs) ts) (r : ClaOk X hs l) :
      ClaOk X (.ExceptHandler (some (.Name x p)) (some n) (b0 :: bs) q :: hs) ((c, some i, ts) :: l)
section
variable {X : Cx} {body : List Stmt} {h0 : ExceptHandler} {hs : List ExceptHandler} {l : List Cla} {pos : Pos} {tb : WX → TS} {out : WX}
/-- try with any clauses -/
theorem ps_tryG (stk : X.stack = X.env :: X.outer) (frm : X.env.frame = some X.env.locals) (nd : X.N.Nodup) (tk : Takes X out)
    (hb : ∀ (W : WX) (pn : List (Addr × Obj)) (xe : Value → Shared → Prop), Takes (X.tr pn xe) W → PassesOwn (model X.prog X.w) X.A X.env xe → PSs (X.tr pn xe) body (tb W)) (cl : ClaOk X (h0 :: hs) l) :
    PS X (.Try body (h0 :: hs) [] [] pos) (fun D σ H => tb (wGen X.K out D l) D σ H) := by
  refine ⟨fun pins s σ H D I h => ?_⟩
  have iok := I.ok
  have frs' : X.A.frames = some (X.env :: X.outer) := iok.frames.trans (by rw [stk])
  let away : Value → Shared → Prop := fun e z1 => wpAny (model X.prog X.w) X.A (noteFrame e X.env) (fun _ z2 => wpAny (model X.prog X.w) X.A (setFlight e none) (fun _ z3 => wpAny (model X.prog X.w) X.A (handleBy e X.env (h0 :: hs)) (SP X pins D) X.xe z3) X.xe z2) X.xe z1
  have caught : Takes (X.tr (X.pn ++ pins) away) (wGen X.K out D l) := by
    intro u z xx
    obtain ⟨a, B, sI, pins', σ1, H1, cls, d, rfl, J0, nb, up, sky, na, os, ag, wish⟩ := xx
    have J : Inv X pins σ1 H1 sI := J0.ofTry iok
    have sk : Sky B (X.env :: X.outer) a (Zc cls d) X.env.locals z.heap := stk ▸ sky
    show wpAny (model X.prog X.w) X.A (noteFrame (.ref a) X.env) _ _ _
    refine Sky.land Zc.steady frs' frm sk fun g3 fl up3 => ?_
    have Jg : Inv X pins σ1 H1 { z with heap := g3 } := J.landed nb fl.1 (up.trans up3) os ag
    obtain ⟨oe, vs, he, hz, hd⟩ := fl.there
    have nfr : a ∉ frs (X.env :: X.outer) := fun hm => by
      obtain ⟨_, o2, e2, no⟩ := (fl.2.2.1).mem hm
      rw [he] at e2
      cases e2
      exact no _ hd
    have nL : a ≠ X.env.locals := fun q => nfr (List.mem_filterMap.mpr ⟨X.env, .head _, by rw [frm, q]⟩)
    have nF : a ∉ X.fs := fun hm => by
      obtain ⟨e, m, q⟩ := List.mem_filterMap.mp hm
      exact nfr (List.mem_filterMap.mpr ⟨e, .tail _ m, q⟩)
    have Sg := Jg.suite he hd na nL nF
    have lty : PySem.W.Looks (model X.prog X.w) g3 (typeOf (.ref a)) cls := fun _ _ _ _ k q => wpAny_typeOf_ref (k _ _ he) (by rw [hz.1]; exact q)
    have name : ∀ {x : Str} {c : Value} {p : Pos} {Q : Value → Shared → Prop} {E : Value → Shared → Prop}, Names X x c → Q c { z with heap := g3 } → wpAny (model X.prog X.w) (X.A.mark (some (.ref a))) (eval (.Name x p) X.env) Q E { z with heap := g3 } := fun nm q => by
      obtain ⟨gl, db, m | ⟨m, bv, nn⟩⟩ := nm
      · exact ld_glob (X := X.suite a ((a, oe) :: (X.pn ++ pins))) Sg gl m q db
      · exact ld_blt (X := X.suite a ((a, oe) :: (X.pn ++ pins))) Sg gl m bv q nn db
    have go : ∀ {hh : List ExceptHandler} {ll : List Cla}, ClaOk X hh ll → wGen X.K out D ll cls d σ1 H1 → wpAny (model X.prog X.w) X.A (handleBy (.ref a) X.env hh) (SP X pins D) X.xe { z with heap := g3 } := by
      intro hh ll ok
      induction ok with
      | nil =>
        intro wish
        refine wpAny_handleBy_nil ?_
        obtain ⟨_, _, _, oe2, vs2, T, oT, ts2, he2, hz2, hd2, at1, _⟩ := id fl
        unfold PySem.passOn
        refine wpAny_bind (wpAny_field he2 hd2 at1 ?_)
        rw [if_neg (fun q => by simp at q)]
        have flies : wpAny (model X.prog X.w) X.A (setFlight (.ref a) X.env.frame) (fun _ z4 => wpAny (model X.prog X.w) X.A (throw (.ref a) : Sem Flow) (SP X pins D) X.xe z4) X.xe { z with heap := g3 } := by
          rw [frm]
          exact HandSPX.setFlight_upZ fl fun g4 held up4 => wpAny_throw (tk _ _ ⟨a, B, sI, pins, σ1, H1, cls, d, rfl, J, nb, (up.trans up3).trans up4, .inr (.inr (by rw [stk]; exact held)), na, os, ag, wish⟩)
        first
          | exact wpAny_bind (wpAny_pure (wpAny_bind flies))
          | exact wpAny_bind flies
      | @bare x c ts b0 bs p q hs2 l2 nm su r ih =>
        rintro ⟨b, eb, yes, no⟩
        refine wpAny_handleBy_cons (codeAny_handlers_test (name nm ((PySem.W.exm_one (M := model X.prog X.w) Jg.kIn lty eb).here ?_))) (by intro q; cases q)
        cases b with
        | false => exact ih (no rfl)
        | true =>
          refine codeAny_handlers_suite (HandSPX.lands_againZ fl fun g4 fl4 up4 => ?_)
          have J4 : Inv X pins σ1 H1 { z with heap := g4 } := J.landed nb fl4.1 ((up.trans up3).trans up4) os ag
          obtain ⟨oe4, _, he4, hz4, hd4⟩ := fl4.there
          refine wpAny_mono ((su a oe4 cls d (X.pn ++ pins) hz4 ⟨_, hd4⟩).run [] _ _ H1 _ (J4.suite he4 hd4 na nL nF) (yes rfl a na)) (fun f z6 sp6 => ?_) (fun _ _ q => q.elim)
          match f, sp6 with
          | .next, ⟨_, _, S6, q6⟩ => exact ⟨_, _, S6.unsuite iok, q6⟩
          | .brk, ⟨_, _, S6, q6⟩ => exact ⟨_, _, S6.unsuite iok, q6⟩
          | .cont, ⟨_, _, S6, q6⟩ => exact ⟨_, _, S6.unsuite iok, q6⟩
          | .ret u, ⟨_, _, _, S6, r6, q6⟩ => exact ⟨_, _, _, S6.unsuite iok, r6, q6⟩
      | @named x n i c ts b0 bs p q hs2 l2 nm hi ln su r ih =>
        rintro ⟨b, eb, yes, no⟩
        refine wpAny_handleBy_cons (codeAny_handlers_test (name nm ((PySem.W.exm_one (M := model X.prog X.w) Jg.kIn lty eb).here ?_))) (by intro q; cases q)
        cases b with
        | false => exact ih (no rfl)
        | true =>
          refine codeAny_handlers_suite_as (HandSPX.lands_againZ fl fun g4 fl4 up4 => ?_)
          have J4 : Inv X pins σ1 H1 { z with heap := g4 } := J.landed nb fl4.1 ((up.trans up3).trans up4) os ag
          obtain ⟨oe4, _, he4, hz4, hd4⟩ := fl4.there
          refine store_ok (X := X.suite a ((a, oe4) :: (X.pn ++ pins))) (v := .ref a) (J4.suite he4 hd4 na nL nF) nd hi (.inl ln) rfl (fun z5 S5 => ?_) (.inr ln)
          refine wpAny_mono ((su a oe4 cls d (X.pn ++ pins) hz4 ⟨_, hd4⟩).run [] z5 _ H1 _ S5 (yes rfl a na)) (fun f z6 sp6 => ?_) (fun _ _ q => q.elim)
          have gone : ∀ {σ6 : L2.St} {H6 : Hp} {Q : Shared → Prop}, Inv (X.suite a ((a, oe4) :: (X.pn ++ pins))) [] σ6 H6 z6 → (∀ z7, Inv X pins (σ6.set i none) H6 z7 → Q z7) →
              wpAny (model X.prog X.w) X.A (do bindName X.env n .none; unbindBehindTheSuite X.env n q) (fun _ z7 => Q z7) X.xe z6 := fun S6 hq => gone_ok (S6.unsuite iok) nd hi ln hq
          match f, sp6 with
          | .next, ⟨_, _, S6, q6⟩ => exact gone S6 fun z7 J7 => ⟨_, _, J7, q6⟩
          | .brk, ⟨_, _, S6, q6⟩ => exact gone S6 fun z7 J7 => ⟨_, _, J7, q6⟩
          | .cont, ⟨_, _, S6, q6⟩ => exact gone S6 fun z7 J7 => ⟨_, _, J7, q6⟩
          | .ret u, ⟨_, _, _, S6, r6, q6⟩ => exact gone S6 fun z7 J7 => ⟨_, _, _, J7, r6, q6⟩
    exact go cl wish
  refine wpAny_Try_except (wpAny_mono ((hb (wGen X.K out D l) (X.pn ++ pins) away caught PassesOwn.looking).run [] s σ H D (I.toTry _) h) (fun f z1 sp1 => ?_) (fun e z1 q => q))
  match f, sp1 with
  | .next, ⟨_, _, J1, q1⟩ => exact wpAny_execs_nil ⟨_, _, J1.ofTry iok, q1⟩
  | .brk, ⟨_, _, J1, q1⟩ => exact ⟨_, _, J1.ofTry iok, q1⟩
  | .cont, ⟨_, _, J1, q1⟩ => exact ⟨_, _, J1.ofTry iok, q1⟩
  | .ret u, ⟨_, _, _, J1, r1, q1⟩ => exact ⟨_, _, _, J1.ofTry iok, r1, q1⟩
end
end PV

namespace PV
open PySem L2 PyProof.Rows RZ
section
variable {X : Cx} {T : Tb} {W : WX} {G : Gv} {a b c : Expr} {pos : Pos}
/-- a class by its name -/
theorem ok_tcn {cn : Str} {t : Tc} {p : Pos} (nm : Names X cn t.val) : PE X (.Name cn p) (tC t.v) := by
  obtain ⟨gl, db, m | ⟨m, bv, nn⟩⟩ := nm
  · exact ⟨fun pins s σ H Q I q => ld_glob I gl m ⟨t.v, H, I, t.rel, q⟩ db⟩
  · exact ⟨fun pins s σ H Q I q => ld_blt I gl m bv ⟨t.v, H, I, t.rel, q⟩ nn db⟩
/-- isinstance(e, C), e the caught error -/
theorem ok_eis {c : Nat} {v : D} {ad : Addr} {cls : Value} {d : Option Addr} {i j : Nat} {oe : Obj} {pn : List (Addr × Obj)} {x cn : Str} {p p2 p3 : Pos} (hec : c < T.nc → ExcC X.K (T.cls c)) (hk : c < T.nc → PySem.W.kitOne X.K (.ref (T.cls c)) (T.tv j).val = some (G.sub c j)) (hz : Zc cls d oe) (hf : ∃ vs, oe.data = .fields vs)
    (hN : X.N[i]? = some x) (hv : Vis X.env.scope x) (hd : (x == ("__debug__" : Str)) = false) (hcd : (x == ("__classdict__" : Str)) = false) (nm : Names X cn (T.tv j).val) (hgi : Gl X "isinstance") (hmi : X.mg "isinstance" = none) :
    PE (X.suite ad ((ad, oe) :: pn)) (.Call (.Name "isinstance" p) [.Name x p2, .Name cn p3] [] pos) (tEv T W0 (ΞH T c v ad cls d i) (ev { G with cur := some (c, v) } (.eis j))) := by
  refine ⟨fun pins s σ H Q I h => ?_⟩
  obtain ⟨δ, w, rfl, wd, en, ⟨⟨h0, rfl, hx⟩, hs⟩, h⟩ := h
  have h' : Q (.bl (G.sub c j)) w.H := Post.here wd (.bl _) h
  have hv' : PE (X.suite ad ((ad, oe) :: pn)) (.Name x p2) (tVar i) := pe_var hN hv hd hcd
  have hn' : PE (X.suite ad ((ad, oe) :: pn)) (.Name cn p3) (tC (T.tv j).v) := ok_tcn (X := X.suite ad ((ad, oe) :: pn)) nm
  cases he : T.ef c with
  | none =>
    rw [he] at hx
    obtain ⟨rfl, rfl⟩ := hx
    exact (pe_callB (x := "isinstance") (call_isE (hec h0) hz hf) hgi hmi (by decide +kernel) (pa_cons hv' (pa_cons hn' pa_nil rfl) rfl) (by decide +kernel) (by decide +kernel) rfl rfl).run pins s σ w.H Q I ⟨_, hs, (T.tv j).v, (T.tv j).val, G.sub c j, rfl, fun u r => (T.tv j).one r, hk h0, h'⟩
  | some f =>
    rw [he] at hx
    obtain ⟨dd, u, rfl, h3, h4, h5⟩ := hx
    exact (pe_callB (x := "isinstance") (call_isX (hec h0) hz hf) hgi hmi (by decide +kernel) (pa_cons hv' (pa_cons hn' pa_nil rfl) rfl) (by decide +kernel) (by decide +kernel) rfl rfl).run pins s σ w.H Q I ⟨_, hs, rfl, ⟨dd, _, rfl, h3⟩, (T.tv j).v, (T.tv j).val, G.sub c j, rfl, fun u r => (T.tv j).one r, hk h0, h'⟩
/-! the clauses -/
def tsN (T : Tb) (G : Gv) (i : Nat) (h : C) : Addr → Value → Option Addr → TS := fun a cls d E σ H => ∃ (k : Nat) (v : PV.D), tRet (tEv T W0 (ΞH T k v a cls d i) (ev { G with cur := some (k, v) } h)) E σ H
def tsB (T : Tb) (G : Gv) (h : C) : Addr → Value → Option Addr → TS := fun a cls d E σ H => ∃ (k : Nat) (v : PV.D), tRet (tEv T W0 X0 (ev { G with cur := some (k, v) } h)) E σ H
def clas (T : Tb) (G : Gv) : C → List Cla
  | .cons (.hnd x i h) r => ((T.tv x).val, some i, tsN T G i h) :: clas T G r
  | .cons (.hndN x h) r => ((T.tv x).val, none, tsB T G h) :: clas T G r
  | _ => []
def clsOf : C → List Nat
  | .cons (.hnd x _ _) r => x :: clsOf r
  | .cons (.hndN x _) r => x :: clsOf r
  | _ => []
inductive IsCl : C → Prop where
  | nil : IsCl .nil
  | nam {x i : Nat} {h r : C} : IsCl r → IsCl (.cons (.hnd x i h) r)
  | bar {x : Nat} {h r : C} : IsCl r → IsCl (.cons (.hndN x h) r)
/-- what the clauses ask of an error that reaches them -/
theorem wish_of {E : Ends} {k : Nat} {v : PV.D} {cls : Value} {dd : Option Addr} {σ1 : L2.St} {δ1 : Env} {w1 : Wo} {hs : C} (hc : IsCl hs)
    (hsb : ∀ (j : Nat), j ∈ clsOf hs → PySem.W.exmOne X.K (.ref (T.cls k)) (T.tv j).val = some (G.sub k j)) (wd1 : Wd T w1) (en1 : EnvOk T w1 δ1 σ1) (rx : RepX T w1 k v cls dd) (hh : PostS T W w1 (exH G hs k v δ1 w1.S) E) : wGen X.K W E (clas T G hs) cls dd σ1 w1.H := by
  have hcls : cls = .ref (T.cls k) := rx.2.1
  induction hc with
  | nil => exact hh w1 σ1 cls dd rfl wd1 (Step.refl _) en1 rx
  | @nam x i h r hr ih =>
    refine ⟨G.sub k x, by rw [hcls]; exact hsb x (by simp [clsOf]), fun hb a na => ⟨k, v, ?_⟩, fun hb => ih (fun j hj => hsb j (by simp [clsOf, hj])) ?_⟩
    · change PostS T W w1 (if G.sub k x then (match (if i < δ1.length then ev { G with cur := some (k, v) } h (δ1.set i none) w1.S else .stuck) with
        | .ok d S2 => .rt d S2
        | _ => .stuck) else exH G r k v δ1 w1.S) E at hh
      rw [if_pos hb] at hh
      by_cases hlen : i < δ1.length
      case neg =>
        rw [if_neg hlen] at hh
        exact hh.elim
      rw [if_pos hlen] at hh
      have hlt : i < σ1.length := by
        rw [← en1.len]
        exact hlen
      refine ⟨δ1.set i none, w1, rfl, wd1, en1.unset i _, ⟨rx, List.getElem?_set_self hlt⟩, ?_⟩
      cases hg : ev { G with cur := some (k, v) } h (δ1.set i none) w1.S with
      | stuck => rw [hg] at hh; exact hh
      | ex _ _ _ => rw [hg] at hh; exact hh.elim
      | ok d S2 =>
        rw [hg] at hh
        exact fun w2 u e2 wd2 st2 r2 => hh w2 u e2 wd2 st2 r2
    · change PostS T W w1 (if G.sub k x then (match (if i < δ1.length then ev { G with cur := some (k, v) } h (δ1.set i none) w1.S else .stuck) with
        | .ok d S2 => .rt d S2
        | _ => .stuck) else exH G r k v δ1 w1.S) E at hh
      rw [if_neg (by rw [hb]; decide)] at hh
      exact hh
  | @bar x h r hr ih =>
    refine ⟨G.sub k x, by rw [hcls]; exact hsb x (by simp [clsOf]), fun hb a na => ⟨k, v, ?_⟩, fun hb => ih (fun j hj => hsb j (by simp [clsOf, hj])) ?_⟩
    · change PostS T W w1 (if G.sub k x then (match ev { G with cur := some (k, v) } h δ1 w1.S with
        | .ok d S2 => .rt d S2
        | _ => .stuck) else exH G r k v δ1 w1.S) E at hh
      rw [if_pos hb] at hh
      refine ⟨δ1, w1, rfl, wd1, en1, trivial, ?_⟩
      cases hg : ev { G with cur := some (k, v) } h δ1 w1.S with
      | stuck => rw [hg] at hh; exact hh
      | ex _ _ _ => rw [hg] at hh; exact hh.elim
      | ok d S2 =>
        rw [hg] at hh
        exact fun w2 u e2 wd2 st2 r2 => hh w2 u e2 wd2 st2 r2
    · change PostS T W w1 (if G.sub k x then (match ev { G with cur := some (k, v) } h δ1 w1.S with
        | .ok d S2 => .rt d S2
        | _ => .stuck) else exH G r k v δ1 w1.S) E at hh
      rw [if_neg (by rw [hb]; decide)] at hh
      exact hh
/-- try: body / except ..: return h, one or several clauses -/
theorem ok_try {y hs : C} {body : List Stmt} {h0 : ExceptHandler} {hl : List ExceptHandler} (hst : X.stack = X.env :: X.outer) (hfr : X.env.frame = some X.env.locals) (hN : X.N.Nodup) (tk : Takes X W) (hc : IsCl hs)
    (hsb : ∀ (k j : Nat), k < T.nc → j ∈ clsOf hs → PySem.W.exmOne X.K (.ref (T.cls k)) (T.tv j).val = some (G.sub k j))
    (hb : ∀ (W : WX) (pn : List (Addr × Obj)) (xe : Value → Shared → Prop), Takes (X.tr pn xe) W → PassesOwn (model X.prog X.w) X.A X.env xe → PSs (X.tr pn xe) body (tSt T W (ex G y))) (cl : ClaOk X (h0 :: hl) (clas T G hs)) :
    PS X (.Try body (h0 :: hl) [] [] pos) (tSt T W (ex G (.try_ y hs))) := by
  refine toPS (ps_tryG (tb := fun W => tSt T W (ex G y)) hst hfr hN tk hb cl) fun E σ H hh => ?_
  obtain ⟨δ, w, rfl, wd, en, hh⟩ := hh
  refine ⟨δ, w, rfl, wd, en, ?_⟩
  change PostS T W w (match ex G y δ w.S with
    | .ex c v δ1 S1 => exH G hs c v δ1 S1
    | r => r) E at hh
  cases hf : ex G y δ w.S with
  | nx δ2 S2 => rw [hf] at hh; exact hh
  | ct δ2 S2 => rw [hf] at hh; exact hh
  | bk δ2 S2 => rw [hf] at hh; exact hh
  | rt d S2 => rw [hf] at hh; exact hh
  | stuck => rw [hf] at hh; exact hh
  | ex k v δ1 S1 =>
    rw [hf] at hh
    intro w1 σ1 cls dd e1 wd1 st1 en1 rx
    refine wish_of hc (fun j hj => hsb k j rx.1 hj) wd1 en1 rx ?_
    rw [e1]
    exact PostS.step st1 hh
/-- the suites of the clauses -/
theorem su_named {i : Nat} {h : C} {he : Expr} {rp : Pos} (hsu : ∀ (k : Nat) (v : PV.D) (a : Addr) (oe : Obj) (cls : Value) (d : Option Addr) (pn : List (Addr × Obj)), Zc cls d oe → (∃ vs, oe.data = .fields vs) → PE (X.suite a ((a, oe) :: pn)) he (tEv T W0 (ΞH T k v a cls d i) (ev { G with cur := some (k, v) } h))) : SuiteOk X [.Return (some he) rp] (tsN T G i h) :=
  fun a oe cls d pn hz hf => ⟨fun pins s σ H D I q => by
    obtain ⟨k, v, q⟩ := q
    exact (pss_one (ps_ret (pos := rp) (hsu k v a oe cls d pn hz hf))).run pins s σ H D I q⟩
theorem su_bare {h : C} {he : Expr} {rp : Pos} (hsu : ∀ (k : Nat) (v : PV.D) (a : Addr) (oe : Obj) (cls : Value) (d : Option Addr) (pn : List (Addr × Obj)), Zc cls d oe → (∃ vs, oe.data = .fields vs) → PE (X.suite a ((a, oe) :: pn)) he (tEv T W0 X0 (ev { G with cur := some (k, v) } h))) : SuiteOk X [.Return (some he) rp] (tsB T G h) :=
  fun a oe cls d pn hz hf => ⟨fun pins s σ H D I q => by
    obtain ⟨k, v, q⟩ := q
    exact (pss_one (ps_ret (pos := rp) (hsu k v a oe cls d pn hz hf))).run pins s σ H D I q⟩
end
end PV

namespace PV
open PySem L2 PyProof.Rows RZ

/-- the names of the text: defs, constants, error classes, fields -/
structure Sy where
  fn : List Str
  gn : List Str
  ga : Nat → Option (Str × Str)
  cn : List Str
  fl : List Str
  eh : Option Str
  mkb : List Bool
  tn : List Str
  sh : List (Str × List Str)
  kn : List Str
  nh : Nat → Option (Str × List Str)
def visB (sc : Scope) (x : Str) : Bool := match sc.names.lookup x with
  | some .local => true | some .cell => true | some .free => true | _ => false
def locB (sc : Scope) (x : Str) : Bool := match sc.names.lookup x with
  | some .local => true | some .cell => true | _ => false
def lcl (sc : Scope) (x : Str) : Bool := match sc.names.lookup x with
  | some .local => true | _ => false
def glB (sc : Scope) (x : Str) : Bool := match sc.names.lookup x with
  | some .globalImplicit => true | _ => false
def okNm (x : Str) : Bool := !(x == ("__debug__" : Str)) && !(x == ("__classdict__" : Str))
def isSlice : Expr → Bool
  | .Slice _ _ _ _ => true
  | _ => false
def isName : Expr → Bool
  | .Name _ _ => true
  | _ => false
def noSet : Expr → Bool
  | .Set _ _ _ => false
  | _ => true
def plainT : Expr → Bool
  | .UnaryOp .Not _ _ => false
  | .BoolOp _ _ _ => false
  | .IfExp _ _ _ _ => false
  | .Compare _ _ _ _ => false
  | _ => true
def noComp : Expr → Bool
  | .ListComp _ _ _ _ => false
  | .SetComp _ _ _ _ => false
  | .DictComp _ _ _ _ _ => false
  | _ => true
def biName : Bi → Str
  | .len => "len" | .max => "max" | .min => "min" | .abs => "abs" | .all => "all" | .any => "any" | .sum => "sum" | .list _ => "list" | .tuple => "tuple" | .repr => "repr" | .int => "int"
def biHot : Bi → Bool
  | .repr => true | .len => true | .abs => true | .int => true | .tuple => true | .list _ => true | _ => false
def tyN : Ty → Str
  | .int => "int" | .bool => "bool" | .str => "str" | .list => "list" | .tuple => "tuple" | .dict => "dict" | .own _ => ""
def isOwn : Ty → Bool
  | .own _ => true
  | _ => false
def ckTq (N : List Str) (ok : Str → Bool) : Tq → Expr → Bool
  | .one i, e => match e with
    | .Name x _ => decide (N[i]? = some x) && ok x
    | _ => false
  | .tup is, e => match e with
    | .Tuple es _ _ => decide (es.length = is.length) && (es.zip is).all fun p => match p.1 with
      | .Name x _ => decide (N[p.2]? = some x) && ok x
      | _ => false
    | _ => false
def ckTqs (N : List Str) (ok : Str → Bool) : List Tq → List Expr → Bool
  | [], es => es.isEmpty
  | t :: ts, es => match es with
    | e :: es => ckTq N ok t e && ckTqs N ok ts es
    | [] => false
/-- the target's names and places -/
def ckTg (N : List Str) (ok : Str → Bool) : Tg → Expr → Bool
  | .one i, e => match e with
    | .Name x _ => decide (N[i]? = some x) && ok x
    | _ => false
  | .tup is, e => match e with
    | .Tuple es _ _ => decide (es.length = is.length) && (es.zip is).all fun p => match p.1 with
      | .Name x _ => decide (N[p.2]? = some x) && ok x
      | _ => false
    | _ => false
  | .deep ts, e => match e with
    | .Tuple es _ _ => ckTqs N ok ts es
    | _ => false
def isTup : Expr → Bool
  | .Tuple _ _ _ => true
  | _ => false
def ownOf (N : List Str) (tg : Tg) : List (Str × Nat) := (slots tg).map fun i => (N.getD i "", i)
/-- a call's first argument: plain, or it is the only one -/
def firstOk : List Expr → Bool
  | [] => true
  | [.Starred _ _] => true
  | _ :: _ => true
/-- f(e, ..) and o.m(e, ..), without names -/
def callP : Expr → Option (Str × List Expr)
  | .Call (.Name x _) ys [] _ => some (x, ys)
  | _ => none
def mcallP : Expr → Option (Expr × Str × List Expr × Bool)
  | .Call (.Attribute o m ap) ys [] pos => some (o, m, ys, ap.endLine == pos.line)
  | _ => none
def nameP : Expr → Option Str
  | .Name x _ => some x
  | _ => none
def pairP : List Expr → Option (Expr × Expr)
  | [x, y] => some (x, y)
  | _ => none
def oneP : List Expr → Option Expr
  | [x] => some x
  | _ => none
def tup2P : Expr → Option (Str × Str)
  | .Tuple [.Name n _, .Name m _] _ _ => some (n, m)
  | _ => none
def tupP : Expr → Option (List Expr)
  | .Tuple es _ _ => some es
  | _ => none
/-- error classes by their names -/
def ckTn (Γ : Sy) (sc : Scope) : List Nat → List Expr → Bool
  | [], es => es.isEmpty
  | j :: js, es => match es with
    | e :: es => (match nameP e with
      | some n => decide (Γ.tn[j]? = some n) && glB sc n && okNm n
      | none => false) && ckTn Γ sc js es
    | [] => false
def isNil : C → Bool
  | .nil => true
  | _ => false
mutual
def ck (Γ : Sy) (N : List Str) (hot : Bool) : Scope → C → Expr → Bool
  | sc, .var i, e => match e with
    | .Name x _ => decide (N[i]? = some x) && visB sc x && okNm x
    | _ => false
  | _, .con d, e => match e with
    | .Constant k _ _ => (match d, k with
      | .int i, .int j => decide (i = j)
      | .bl i, .bool j => decide (i = j)
      | .str i, .str j => decide (i = j)
      | .non, .none => true
      | _, _ => false)
    | _ => false
  | sc, .glob g, e => match e with
    | .Name x _ => decide (Γ.gn[g]? = some x) && glB sc x && okNm x
    | .Attribute (.Name x _) f _ => decide (Γ.ga g = some (x, f)) && glB sc x && okNm x
    | _ => false
  | sc, .bin o a b, e => match e with
    | .BinOp l op r _ => decide (op = opOf o) && ck Γ N hot sc a l && ck Γ N hot sc b r
    | _ => false
  | sc, .neg a, e => match e with
    | .UnaryOp .USub x _ => ck Γ N hot sc a x
    | _ => false
  | sc, .not a, e => match e with
    | .UnaryOp .Not x _ => ck Γ N hot sc a x
    | _ => false
  | sc, .and a b, e => match e with
    | .BoolOp .And [x, y] _ => ck Γ N hot sc a x && ck Γ N hot sc b y
    | .BoolOp .And (x :: y :: z :: r) p => ck Γ N hot sc a x && ck Γ N hot sc b (.BoolOp .And (y :: z :: r) p)
    | _ => false
  | sc, .or a b, e => match e with
    | .BoolOp .Or [x, y] _ => ck Γ N hot sc a x && ck Γ N hot sc b y
    | .BoolOp .Or (x :: y :: z :: r) p => ck Γ N hot sc a x && ck Γ N hot sc b (.BoolOp .Or (y :: z :: r) p)
    | _ => false
  | sc, .ite c a b, e => match e with
    | .IfExp t x y _ => ckT Γ N hot sc c t && ck Γ N hot sc a x && ck Γ N hot sc b y
    | _ => false
  | sc, .cmp o a b, e => match e with
    | .Compare x [op] [y] _ => decide (op = cmpOf o) && ck Γ N hot sc a x && ck Γ N hot sc b y && noSet y
    | _ => false
  | sc, .chain o p a b c, e => match e with
    | .Compare x [o1, o2] [y, z] _ => decide (o1 = cmpOf o) && decide (o2 = cmpOf p) && ck Γ N hot sc a x && ck Γ N hot sc b y && ck Γ N hot sc c z && noSet z
    | _ => false
  | sc, .tup es, e => match e with
    | .Tuple xs _ _ => cks Γ N hot sc es xs
    | _ => false
  | sc, .lst _ es, e => match e with
    | .List xs _ => cks Γ N hot sc es xs
    | _ => false
  | _, .dct m ks vs, e => match e with
    | .Dict [] [] _ => isNil ks && isNil vs
    | _ => false
  | sc, .rev _ a, e => match e with
    | .Subscript x (.Slice none none (some (.UnaryOp .USub (.Constant (.int 1) _ _) _)) _) _ => ck Γ N hot sc a x
    | _ => false
  | sc, .call f es, e => match e with
    | .Call (.Name x _) xs [] _ => !hot && decide (Γ.fn[f]? = some x) && glB sc x && okNm x && cks Γ N hot sc es xs && firstOk xs
    | _ => false
  | sc, .callk s es vs, e => match e with
    | .Call (.Name x _) (y :: ys) kws _ => (match Γ.sh[s]? with
      | some (x', ks) => !hot && decide (x = x') && glB sc x && okNm x && cks Γ N hot sc es (y :: ys) && (y :: ys).all plainE && ckK Γ N hot sc vs kws ks
      | none => false)
    | _ => false
  | sc, .bi b es, e => match e with
    | .Call (.Name x _) (y :: ys) [] _ => (!hot || biHot b) && decide (x = biName b) && glB sc x && cks Γ N hot sc es (y :: ys) && (y :: ys).all plainE
    | _ => false
  | sc, .isi a t, e => match e with
    | .Call (.Name x _) [y, .Name n _] [] _ => decide (x = "isinstance") && decide (n = tyN t) && !isOwn t && glB sc x && glB sc n && ck Γ N hot sc a y && plainE y
    | _ => false
  | sc, .idx a i, e => match e with
    | .Subscript x y _ => !isSlice y && ck Γ N hot sc a x && ck Γ N hot sc i y
    | _ => false
  | sc, .sl _ a lo hi, e => match e with
    | .Subscript x (.Slice l h none _) _ => ck Γ N hot sc a x && ckO Γ N hot sc lo l && ckO Γ N hot sc hi h
    | _ => false
  | sc, .comp _ tg src cnd el, e => match e with
    | .ListComp x [⟨t, it, ifs, 0⟩] scope _ => !hot && blkC N sc scope (ownOf N tg) && ckTg N (locB scope) tg t && ckI Γ N hot sc src it t && noSet it && (match ifs with | [] => isNil cnd | [y] => ckT Γ N hot (relS scope sc) cnd y | _ => false) && ck Γ N hot (relS scope sc) el x
    | _ => false
  | sc, .comp2 _ tg src cnd tg2 src2 cnd2 el, e => match e with
    | .ListComp x [⟨t, it, ifs, 0⟩, ⟨t2, it2, ifs2, 0⟩] scope _ => !hot && blkC N sc scope (ownOf N tg ++ ownOf N tg2) && ckTg N (locB scope) tg t && ckI Γ N hot sc src it t && noSet it && (match ifs with | [] => isNil cnd | [y] => ckT Γ N hot (relS scope sc) cnd y | _ => false) && ckTg N (locB scope) tg2 t2 && ckI Γ N hot (relS scope sc) src2 it2 t2 && noSet it2 && (match ifs2 with | [] => isNil cnd2 | [y] => ckT Γ N hot (relS scope sc) cnd2 y | _ => false) && ck Γ N hot (relS scope sc) el x
    | _ => false
  | sc, .fld a f, e => match e with
    | .Attribute x n _ => !hot && decide (Γ.fl[f]? = some n) && ck Γ N hot sc a x && noCall0 x
    | _ => false
  | sc, .mcall a m es, e => match mcallP e with
    | some (x, n, ys, l) => !hot && decide (Γ.fl[m]? = some n) && ck Γ N hot sc a x && noCall0 x && cks Γ N hot sc es ys && ys.all plainE && decide (ys.length < 30) && l
    | none => false
  | sc, .new _ c es, e => match callP e with
    | some (x, ys) => !hot && decide (Γ.kn[c]? = some x) && glB sc x && okNm x && cks Γ N hot sc es ys && ys.all plainE
    | none => false
  | sc, .newk _ c s es vs, e => match e with
    | .Call (.Name x _) (y :: ys) kws _ => (match Γ.nh s with
      | some (x', ks) => !hot && decide (x = x') && decide (Γ.kn[c]? = some x) && glB sc x && okNm x && cks Γ N hot sc es (y :: ys) && (y :: ys).all plainE && ckK Γ N hot sc vs kws ks
      | none => false)
    | _ => false
  | sc, .iso a c, e => match callP e with
    | some (x, ys) => (match pairP ys with
      | some (y, z) => (match nameP z with
        | some n => !hot && decide (x = "isinstance") && decide (Γ.kn[c]? = some n) && glB sc x && glB sc n && okNm n && ck Γ N hot sc a y && plainE y
        | none => false)
      | none => false)
    | none => false
  | sc, .isit a t u, e => match callP e with
    | some (x, ys) => (match pairP ys with
      | some (y, z) => (match tup2P z with
        | some (n, m) => decide (x = "isinstance") && decide (n = tyN t) && !isOwn t && decide (m = tyN u) && !isOwn u && glB sc x && glB sc n && glB sc m && ck Γ N hot sc a y && plainE y
        | none => false)
      | none => false)
    | none => false
  | sc, .dct1 m k v, e => match e with
    | .Dict [some a] [b] _ => ck Γ N hot sc k a && ck Γ N hot sc v b
    | _ => false
  | sc, .mkx k a, e => match callP e with
    | some (x, ys) => (match oneP ys with
      | some y => !hot && decide (Γ.cn[k]? = some x) && decide (Γ.mkb[k]? = some true) && glB sc x && okNm x && ck Γ N hot sc a y && plainE y
      | none => false)
    | none => false
  | sc, .isx a j, e => match callP e with
    | some (x, ys) => (match pairP ys with
      | some (y, z) => (match nameP z with
        | some n => !hot && decide (x = "isinstance") && decide (Γ.tn[j]? = some n) && glB sc x && glB sc n && okNm n && ck Γ N hot sc a y && plainE y
        | none => false)
      | none => false)
    | none => false
  | sc, .isxt a js, e => match callP e with
    | some (x, ys) => (match pairP ys with
      | some (y, z) => (match tupP z with
        | some zs => !hot && decide (x = "isinstance") && decide (js.length ≤ 100) && ckTn Γ sc js zs && glB sc x && ck Γ N hot sc a y && plainE y
        | none => false)
      | none => false)
    | none => false
  | sc, .popl a, e => match mcallP e with
    | some (x, n, ys, l) => decide (n = "pop") && ys.isEmpty && ck Γ N hot sc a x && isName x && l
    | none => false
  | sc, .lrng _ a b, e => match callP e with
    | some (x, ys) => (match oneP ys with
      | some z => (match callP z with
        | some (x2, zs) => (match pairP zs with
          | some (y, z) => !hot && decide (x = "list") && decide (x2 = "range") && glB sc x && glB sc x2 && ck Γ N hot sc a y && ck Γ N hot sc b z && plainE y && plainE z
          | none => false)
        | none => false)
      | none => false)
    | none => false
  | sc, .lset a, e => match callP e with
    | some (x, ys) => (match oneP ys with
      | some z => (match callP z with
        | some (x2, zs) => (match oneP zs with
          | some y => !hot && decide (x = "len") && decide (x2 = "set") && glB sc x && glB sc x2 && ck Γ N hot sc a y && plainE y
          | none => false)
        | none => false)
      | none => false)
    | none => false
  | sc, .sset _ a, e => match callP e with
    | some (x, ys) => (match oneP ys with
      | some z => (match callP z with
        | some (x2, zs) => (match oneP zs with
          | some y => !hot && decide (x = "sorted") && decide (x2 = "set") && glB sc x && glB sc x2 && ck Γ N hot sc a y && plainE y
          | none => false)
        | none => false)
      | none => false)
    | none => false
  | sc, .app a y, e => match e with
    | .Call (.Attribute x m ap) [z] [] pos => decide (m = "append") && ck Γ N hot sc a x && ck Γ N hot sc y z && plainE z && isName x && (ap.endLine == pos.line)
    | _ => false
  | sc, .frz a, e => ck Γ N hot sc a e
  | sc, .eis j, e => match e with
    | .Call (.Name x _) [.Name y _, .Name n _] [] _ => hot && decide (x = "isinstance") && decide (Γ.eh = some y) && decide (Γ.tn[j]? = some n) && visB sc y && okNm y && glB sc n && okNm n && glB sc "isinstance"
    | _ => false
  | sc, .eget f, e => match e with
    | .Attribute (.Name x _) n _ => decide (Γ.eh = some x) && hot && decide (Γ.fl[f]? = some n) && visB sc x && okNm x
    | _ => false
  | _, _, _ => false
def cks (Γ : Sy) (N : List Str) (hot : Bool) : Scope → C → List Expr → Bool
  | _, .nil, es => es.isEmpty
  | sc, .cons (.star a) b, es => match es with
    | .Starred y _ :: xs => ck Γ N hot sc a y && cks Γ N hot sc b xs
    | _ => false
  | sc, .cons a b, es => match es with
    | x :: xs => ck Γ N hot sc a x && plainE x && cks Γ N hot sc b xs
    | [] => false
  | _, _, _ => false
/-- named arguments -/
def ckK (Γ : Sy) (N : List Str) (hot : Bool) : Scope → C → List Keyword → List Str → Bool
  | _, .nil, kws, ks => kws.isEmpty && ks.isEmpty
  | sc, .cons a b, kws, ks => match kws, ks with
    | ⟨some n, e, _⟩ :: kws, k :: ks => !isStar a && decide (n = k) && ck Γ N hot sc a e && ckK Γ N hot sc b kws ks
    | _, _ => false
  | _, _, _, _ => false
def ckO (Γ : Sy) (N : List Str) (hot : Bool) : Scope → C → Option Expr → Bool
  | _, .nil, e => e.isNone
  | sc, .cons a _, e => match e with
    | some x => ck Γ N hot sc a x
    | none => false
  | _, _, _ => false
def ckT (Γ : Sy) (N : List Str) (hot : Bool) : Scope → C → Expr → Bool
  | sc, .tst a, e => ck Γ N hot sc a e && plainT e
  | sc, .not a, e => match e with
    | .UnaryOp .Not x _ => ckT Γ N hot sc a x
    | _ => false
  | sc, .and a b, e => match e with
    | .BoolOp .And [x, y] _ => ckT Γ N hot sc a x && ckT Γ N hot sc b y
    | .BoolOp .And (x :: y :: z :: r) p => ckT Γ N hot sc a x && ckT Γ N hot sc b (.BoolOp .And (y :: z :: r) p)
    | _ => false
  | sc, .or a b, e => match e with
    | .BoolOp .Or [x, y] _ => ckT Γ N hot sc a x && ckT Γ N hot sc b y
    | .BoolOp .Or (x :: y :: z :: r) p => ckT Γ N hot sc a x && ckT Γ N hot sc b (.BoolOp .Or (y :: z :: r) p)
    | _ => false
  | sc, .tcmp o a b, e => match e with
    | .Compare x [op] [y] _ => decide (op = cmpOf o) && ck Γ N hot sc a x && ck Γ N hot sc b y && noSet y
    | _ => false
  | sc, .tchain o p a b c, e => match e with
    | .Compare x [o1, o2] [y, z] _ => decide (o1 = cmpOf o) && decide (o2 = cmpOf p) && ck Γ N hot sc a x && ck Γ N hot sc b y && ck Γ N hot sc c z && noSet z
    | _ => false
  | sc, .tch3 o p q a b c d, e => match e with
    | .Compare x [o1, o2, o3] [y, z, u] _ => decide (o1 = cmpOf o) && decide (o2 = cmpOf p) && decide (o3 = cmpOf q) && ck Γ N hot sc a x && ck Γ N hot sc b y && ck Γ N hot sc c z && ck Γ N hot sc d u && noSet u
    | _ => false
  | _, _, _ => false
def ckI (Γ : Sy) (N : List Str) (hot : Bool) : Scope → C → Expr → Expr → Bool
  | sc, .rng a b, e, _ => match e with
    | .Call (.Name x _) [y] [] _ => decide (x = "range") && glB sc x && (match a with | .con (.int 0) => true | _ => false) && ck Γ N hot sc b y && plainE y
    | .Call (.Name x _) [y, z] [] _ => decide (x = "range") && glB sc x && ck Γ N hot sc a y && ck Γ N hot sc b z && plainE y && plainE z
    | _ => false
  | sc, .enum a, e, t => match e with
    | .Call (.Name x _) [y] [] _ => decide (x = "enumerate") && glB sc x && ck Γ N hot sc a y && plainE y && isTup t
    | _ => false
  | sc, .zip a b, e, t => match e with
    | .Call (.Name x _) [y, z] [] _ => decide (x = "zip") && glB sc x && ck Γ N hot sc a y && ck Γ N hot sc b z && plainE y && plainE z && isTup t
    | _ => false
  | sc, .tst a, e, _ => ck Γ N hot sc a e
  | _, _, _, _ => false
end
def isNm2 (N : List Str) (sc : Scope) (is : List Nat) (es : List Expr) : Bool := match is, es with
  | [i, j], [.Name x _, .Name y _] => decide (N[i]? = some x) && decide (N[j]? = some y) && decide (i ≠ j) && lcl sc x && lcl sc y
  | _, _ => false
/-- two names at once -/
def parOk (es vs : List Expr) : Bool := match es, vs with
  | [.Name x px, .Name y py], [_, _] => (py.line == px.line) && !(x == y) && !(vs.all (foldedForSure 8)) && !(vs.all (constantsAlone 8)) && !(vs.any fun e => match e with | .Starred _ _ => true | _ => false)
  | _, _ => false
def isComp : C → Bool
  | .comp _ _ _ _ _ => true
  | .comp2 _ _ _ _ _ _ _ _ => true
  | _ => false
def isTupC : C → Bool
  | .tup _ => true
  | _ => false
def isFrz : C → Bool
  | .frzV _ => true
  | .frzA _ _ => true
  | _ => false
/-- a clause's parts: its class, its name, what it returns -/
def handP : ExceptHandler → Option (Str × Option Str × Expr)
  | .ExceptHandler (some (.Name x _)) n [.Return (some e) _] _ => some (x, n, e)
  | _ => none
def ckH (Γ : Sy) (N : List Str) (sc : Scope) : C → List ExceptHandler → Bool
  | .nil, hl => hl.isEmpty
  | .cons (.hnd x i h) r, hl => match hl with
    | h0 :: hl => (match handP h0 with
      | some (cx, some n, he) => decide (Γ.tn[x]? = some cx) && glB sc cx && okNm cx && decide (N[i]? = some n) && lcl sc n && ck { Γ with eh := some n } N true sc h he
      | _ => false) && ckH Γ N sc r hl
    | [] => false
  | .cons (.hndN x h) r, hl => match hl with
    | h0 :: hl => (match handP h0 with
      | some (cx, none, he) => decide (Γ.tn[x]? = some cx) && glB sc cx && okNm cx && ck { Γ with eh := none } N true sc h he
      | _ => false) && ckH Γ N sc r hl
    | [] => false
  | _, _ => false
/-- patterns -/
def conP (d : D) : Expr → Bool
  | .Constant k _ _ => (match d, k with
    | .int i, .int j => decide (i = j)
    | .bl i, .bool j => decide (i = j)
    | .str i, .str j => decide (i = j)
    | .non, .none => true
    | _, _ => false)
  | _ => false
def ckPq (N : List Str) (ok : Str → Bool) : Pq → Pattern → Bool
  | .wild, p => match p with
    | .MatchAs none none _ => true
    | _ => false
  | .cap i, p => match p with
    | .MatchAs none (some x) _ => decide (N[i]? = some x) && ok x
    | _ => false
  | .val d, p => match p with
    | .MatchValue e _ => conP d e
    | _ => false
def ckPqs (N : List Str) (ok : Str → Bool) : List Pq → List Pattern → Bool
  | [], ps => ps.isEmpty
  | q :: qs, ps => match ps with
    | p :: ps => ckPq N ok q p && ckPqs N ok qs ps
    | [] => false
def ckPt (N : List Str) (ok : Str → Bool) : Pt → Pattern → Bool
  | .one q, p => ckPq N ok q p
  | .seq qs, p => match p with
    | .MatchSequence ps _ => ckPqs N ok qs ps && (ps.findIdx? (·.isStar)).isNone && !(ps.all fun p => p.isWildcard || (p.isStar && p.names.isEmpty))
    | _ => false
def caseP : MatchCase → Option (Pattern × List Stmt)
  | ⟨p, none, b⟩ => some (p, b)
  | _ => none
mutual
def ckS (Γ : Sy) (N : List Str) (sc : Scope) : C → Stmt → Bool
  | .set tg y, st => match st with
    | .Assign [t] e pos => (match e with
      | .ListComp _ _ scope lp => (match tg, t with
        | .one i, .Name x px => decide (N[i]? = some x) && ck Γ N false sc y e && (if lcl sc x then (px.line == lp.line) && !(scope.names.any fun (n, k) => n == x && (k == .local || k == .cell)) && isComp y else locB sc x)
        | _, _ => false)
      | .Tuple vs _ _ => (match tg, t with
        | .tup is, .Tuple es _ _ => isNm2 N sc is es && parOk es vs && ck Γ N false sc y e && isTupC y
        | _, .Name _ _ => ckTg N (locB sc) tg t && ck Γ N false sc y e
        | _, _ => false)
      | _ => ckTg N (locB sc) tg t && ck Γ N false sc y e && noComp e)
    | _ => false
  | .stI a i e, st => match st with
    | .Assign [.Subscript x y _] z _ => !isSlice y && ck Γ N false sc a x && ck Γ N false sc i y && ck Γ N false sc e z && noComp z
    | _ => false
  | .expr y, st => match st with
    | .Expr e _ => ck Γ N false sc y e && noComp e
    | _ => false
  | .ret y, st => match st with
    | .Return (some e) _ => ck Γ N false sc y e
    | _ => false
  | .retN, st => match st with
    | .Return none _ => true
    | _ => false
  | .ifs c a b, st => match st with
    | .If t sa sb _ => ckT Γ N false sc c t && ckSs Γ N sc a sa && ckSs Γ N sc b sb
    | _ => false
  | .for_ tg src b, st => match st with
    | .For t it body [] _ => ckTg N (locB sc) tg t && ckI Γ N false sc src it t && noSet it && ckSs Γ N sc b body
    | _ => false
  | .while_ c b, st => match st with
    | .While t body [] _ => ckT Γ N false sc c t && ckSs Γ N sc b body
    | _ => false
  | .raise_ k e, st => match st with
    | .Raise (some (.Call (.Name x _) [y] [] _)) none _ => decide (Γ.cn[k]? = some x) && decide (Γ.mkb[k]? = some true) && glB sc x && okNm x && ck Γ N false sc e y && plainE y
    | _ => false
  | .try_ b hs, st => match st with
    | .Try body (h0 :: hl) [] [] _ => ckSs Γ N sc b body && ckH Γ N sc hs (h0 :: hl)
    | _ => false
  | .stA a f e, st => match st with
    | .Assign [.Attribute x n _] z _ => decide (Γ.fl[f]? = some n) && ck Γ N false sc a x && ck Γ N false sc e z
    | _ => false
  | .match_ y cs, st => match st with
    | .Match e cases _ => ck Γ N false sc y e && ckM Γ N sc cs cases
    | _ => false
  | .pass, st => match st with
    | .Pass _ => true
    | _ => false
  | .brk, st => match st with
    | .Break _ => true
    | _ => false
  | .cnt, st => match st with
    | .Continue _ => true
    | _ => false
  | _, _ => false
def ckM (Γ : Sy) (N : List Str) (sc : Scope) : C → List MatchCase → Bool
  | .nil, cs => cs.isEmpty
  | .cons (.case_ q b) r, cs => match cs with
    | c :: cs => (match caseP c with
      | some (p, body) => ckPt N (locB sc) q p && ckSs Γ N sc b body
      | none => false) && ckM Γ N sc r cs
    | [] => false
  | _, _ => false
def ckSs (Γ : Sy) (N : List Str) (sc : Scope) : C → List Stmt → Bool
  | .nil, sts => sts.isEmpty
  | .cons a b, sts => if isFrz a then ckSs Γ N sc b sts else match sts with
    | st :: sts => ckS Γ N sc a st && ckSs Γ N sc b sts
    | [] => false
  | _, _ => false
end
end PV

namespace PV
open PySem L2 PyProof.Rows RZ

def bltNames : List Str := ["len", "max", "min", "abs", "all", "any", "sum", "list", "tuple", "repr", "int", "isinstance", "bool", "str", "dict", "range", "enumerate", "zip", "set", "sorted"]
/-- the promise of an error's __init__ -/
def spI (C : Addr) (f : Str) : Sp := fun vs H Q _ => ∃ (a : Addr) (v : V), vs = [.ref a, v] ∧ H a = some (exo a C none) ∧ ∀ d, H d = none → d ≠ a → Q .non (upd (upd H d (exd d [(f, v)])) a (exo a C (some d)))
/-- an error of the class k can be made of one argument: by its own __init__, or as its base does it -/
def MkOk (T : Tb) (P : Program) (wl : World) (K : PySem.W.Frag) (mg : Str → Option Value) (base : Heap) (k : Nat) : Prop := match T.ef k with
  | some f => OexC K (T.cls k) ∧ ∃ (fI : Addr) (fd : FuncData) (ps : List Str), PySem.W.findIn K (.ref (T.cls k)) "__init__" = some (some (.ref fI)) ∧ PySem.W.typeIn K (.ref fI) = some (.type "function") ∧ FnOk P wl K mg base CX0 1 fI fd ps (spI (T.cls k) (T.fld f)) ∧ Binds K fd ps []
  | none => (∃ (B newId initId : String) (bmB : List Value), ExcBaseFacts B newId initId bmB ∧ PySem.W.excIn K (T.cls k) bmB newId = true) ∧ PySem.W.keepIn K (.ref (T.cls k)) = true ∧ PySem.W.subIn K (.ref (T.cls k)) (.type "BaseException") = some true ∧ PySem.W.typeIn K (.ref (T.cls k)) = some (.type "type")
structure Md (Γ : Sy) (T : Tb) (G : Gv) (P : Program) (wl : World) (K : PySem.W.Frag) (mg : Str → Option Value) (base : Heap) (lv : Nat) : Prop where
  hK : K = T.K
  fns : ∀ (n : Nat) (x : Str), Γ.fn[n]? = some x → ∃ f : Addr, mg x = some (.ref f) ∧ PySem.W.keepIn K (.ref f) = true ∧ FnA P wl K mg base lv f (spEv T (G.cal n))
  fks : ∀ (s : Nat) (x : Str) (ks : List Str), Γ.sh[s]? = some (x, ks) → ∃ f : Addr, mg x = some (.ref f) ∧ PySem.W.keepIn K (.ref f) = true ∧ FnK P wl K mg base lv f ks (spEvK T (G.cak s))
  gls : ∀ (g : Nat) (x : Str), Γ.gn[g]? = some x → ∃ (v : V) (u : Value), mg x = some u ∧ RelV v u ∧ ∀ w, Rep T w (G.gl g) v
  gas : ∀ (g : Nat) (x f : Str), Γ.ga g = some (x, f) → ∃ (Ca : Addr) (mc : Value) (v : V) (u : Value), mg x = some (.ref Ca) ∧ ClX.CRead K Ca mc ∧ ClX.CVal K Ca mc f v u ∧ ∀ w, Rep T w (G.gl g) v
  blt : ∀ x, x ∈ bltNames → mg x = none
  ncn : T.nc = Γ.cn.length
  exc : ∀ (k : Nat) (x : Str), Γ.cn[k]? = some x → mg x = some (.ref (T.cls k)) ∧ XfC K (T.cls k) ∧ ExcC K (T.cls k) ∧ ∀ f, T.ef k = some f → PySem.W.findIn K (.ref (T.cls k)) (T.fld f) = some none
  mks : ∀ (k : Nat), Γ.mkb[k]? = some true → MkOk T P wl K mg base k
  tgs : ∀ (j : Nat) (x : Str), Γ.tn[j]? = some x → mg x = some (T.tv j).val ∨ (mg x = none ∧ bootBuiltins x = some (T.tv j).val ∧ x ≠ "__name__")
  sub : ∀ k j, k < T.nc → j < Γ.tn.length → PySem.W.exmOne K (.ref (T.cls k)) (T.tv j).val = some (G.sub k j) ∧ PySem.W.kitOne K (.ref (T.cls k)) (T.tv j).val = some (G.sub k j)
  ef : G.ef = T.ef
  fl : ∀ (f : Nat) (n : Str), Γ.fl[f]? = some n → T.fld f = n ∧ f < T.nf
  lv1 : 2 ≤ lv
  ob : ObOk T G P wl K mg base lv Γ.kn Γ.nh
structure Cxt (Γ : Sy) (T : Tb) (G : Gv) (hot : Bool) (N : List Str) (sc : Scope) (lv : Nat) (X : Cx) (W : WX) (Ξ : Xi) : Prop where
  md : Md Γ T G X.prog X.w X.K X.mg X.base lv
  hN : X.N = N
  nd : N.Nodup
  hsc : X.env.scope = sc
  un : X.A.units + 66 < cLine
  gd : X.A.guards = some []
  cold : hot = false → X.calm = true ∧ Room (lv + 1) X.A
  tk : Takes X W
  kp : Kept Ξ
  eg : ∀ (f : Nat) (x n : Str) (p q : Pos), hot = true → Γ.eh = some x → Γ.fl[f]? = some n → visB sc x = true → okNm x = true → PE X (.Attribute (.Name x p) n q) (tEv T W Ξ (ev G (.eget f)))
  ei : ∀ (j : Nat) (x cn : Str) (p p2 p3 q : Pos), hot = true → Γ.eh = some x → Γ.tn[j]? = some cn → visB sc x = true → okNm x = true → glB sc cn = true → okNm cn = true → glB sc "isinstance" = true → PE X (.Call (.Name "isinstance" p) [.Name x p2, .Name cn p3] [] q) (tEv T W Ξ (ev G (.eis j)))
theorem vis_of {sc : Scope} {x : Str} (h : visB sc x = true) : Vis sc x := by
  unfold visB at h
  split at h
  · exact .inl (by assumption)
  · exact .inr (.inl (by assumption))
  · exact .inr (.inr (by assumption))
  · cases h
theorem loc_of {sc : Scope} {x : Str} (h : locB sc x = true) : Loc sc x := by
  unfold locB at h
  split at h
  · exact .inl (by assumption)
  · exact .inr (by assumption)
  · cases h
theorem lcl_of {sc : Scope} {x : Str} (h : lcl sc x = true) : sc.names.lookup x = some .local := by
  unfold lcl at h
  split at h
  · assumption
  · cases h
theorem gl_of {X : Cx} {sc : Scope} {x : Str} (e : X.env.scope = sc) (h : glB sc x = true) : Gl X x := by
  unfold glB at h
  split at h
  · show X.env.scope.names.lookup x = _
    rw [e]
    assumption
  · cases h
theorem nm_of {x : Str} (h : okNm x = true) : (x == ("__debug__" : Str)) = false ∧ (x == ("__classdict__" : Str)) = false := by
  unfold okNm at h
  rw [Bool.and_eq_true] at h
  exact ⟨by simpa using h.1, by simpa using h.2⟩
theorem mark_of {op : CmpOp} {e : Expr} (h : noSet e = true) : behindInMarks op e = false := by
  cases e <;> first | rfl | cases h
theorem fold_of {e : Expr} {env : PySem.Env} (h : noSet e = true) (x : Value) : foldedSetIterable e env x = pure x := by
  cases e <;> first | rfl | cases h
theorem ix_of {e : Expr} (h : isSlice e = false) : PlainIx e := by
  intro o i
  cases e <;> first | rfl | cases h
theorem true_of {e : Expr} {env : PySem.Env} (h : plainT e = true) (whole : Sem Value) : isTrue e env whole = (do let v ← whole; standAt e.pos; holding [v] (truthy v)) := by
  cases e <;> first | rfl | (cases h; done) | (rename_i op _ _; cases op <;> first | rfl | cases h)
theorem boot_ty {t : Ty} (h : isOwn t = false) : bootBuiltins (tyN t) = some (.type (tyName t)) ∧ tyN t ≠ "__name__" ∧ (tyN t == ("__debug__" : Str)) = false ∧ tyN t ∈ bltNames ∧ ∀ c, t ≠ .own c := by
  cases t <;> first | (cases h; done) | (exact ⟨by decide +kernel, by decide +kernel, by decide +kernel, by decide +kernel, fun _ z => nomatch z⟩)
section
variable {Γ : Sy} {T : Tb} {G : Gv} {hot : Bool} {N : List Str} {sc : Scope} {lv : Nat} {X : Cx} {W : WX} {Ξ : Xi}
/-- a built-in by its name -/
theorem bi_call (c : Cxt Γ T G hot N sc lv X W Ξ) {b : Bi} {x : Str} {p pos : Pos} {y : Expr} {ys : List Expr} (hh : (!hot || biHot b) = true) (hx : x = biName b) (hg : glB sc x = true) (hs : (y :: ys).all plainE = true) (t : TA) (ha : PA X (y :: ys) t) : PE X (.Call (.Name x p) (y :: ys) [] pos) (tCB (rBi T b) t) := by
  subst hx
  have gl := gl_of c.hsc hg
  rw [List.all_cons, Bool.and_eq_true] at hs
  have e1 : starEach (y :: ys) X.env = (false, eval y X.env) :: starEach ys X.env := star_plain hs.1
  have npl : ∀ l : List Expr, l.all plainE = true → (backTo pos (starEach l X.env)).any (·.1) = false := by
    intro l
    induction l with
    | nil => intro _; rfl
    | cons z l ih =>
      intro hl
      rw [List.all_cons, Bool.and_eq_true] at hl
      rw [star_plain hl.1]
      show (false || (backTo pos (starEach l X.env)).any (·.1)) = false
      rw [ih hl.2]
      rfl
  have hp := npl ys hs.2
  have hK := c.md.hK
  have cold : biHot b = false → X.calm = true := fun z => by
    rw [z, Bool.or_false] at hh
    exact (c.cold (by simpa using hh)).1
  cases b with
  | len => exact pe_callB (call_len' hK) gl (c.md.blt _ (by decide +kernel)) (by decide +kernel) ha (by decide +kernel) (by decide +kernel) e1 hp
  | max => exact pe_callB (call_max' (cold rfl)) gl (c.md.blt _ (by decide +kernel)) (by decide +kernel) ha (by decide +kernel) (by decide +kernel) e1 hp
  | min => exact pe_callB (call_min' (cold rfl)) gl (c.md.blt _ (by decide +kernel)) (by decide +kernel) ha (by decide +kernel) (by decide +kernel) e1 hp
  | abs => exact pe_callB call_abs' gl (c.md.blt _ (by decide +kernel)) (by decide +kernel) ha (by decide +kernel) (by decide +kernel) e1 hp
  | all => exact pe_callB (call_all' (cold rfl)) gl (c.md.blt _ (by decide +kernel)) (by decide +kernel) ha (by decide +kernel) (by decide +kernel) e1 hp
  | any => exact pe_callB (call_any' (cold rfl)) gl (c.md.blt _ (by decide +kernel)) (by decide +kernel) ha (by decide +kernel) (by decide +kernel) e1 hp
  | sum => exact pe_callB (call_sum' (cold rfl)) gl (c.md.blt _ (by decide +kernel)) (by decide +kernel) ha (by decide +kernel) (by decide +kernel) e1 hp
  | list m => cases m <;> exact pe_callTy (call_list' hK _) gl (c.md.blt _ (by decide +kernel)) (by decide +kernel) ha (by decide +kernel) (by decide +kernel) e1 hp
  | tuple => exact pe_callTy (call_tuple' hK) gl (c.md.blt _ (by decide +kernel)) (by decide +kernel) ha (by decide +kernel) (by decide +kernel) e1 hp
  | repr => exact pe_callB (call_repr' hK c.gd c.un) gl (c.md.blt _ (by decide +kernel)) (by decide +kernel) ha (by decide +kernel) (by decide +kernel) e1 hp
  | int => exact pe_callTy call_int' gl (c.md.blt _ (by decide +kernel)) (by decide +kernel) ha (by decide +kernel) (by decide +kernel) e1 hp
theorem star_inv {Γ : Sy} {N : List Str} {hot : Bool} {sc : Scope} {a b : C} {x : Expr} {xs : List Expr} (h : cks Γ N hot sc (.cons a b) (x :: xs) = true) :
    (∃ a' y p, a = .star a' ∧ x = .Starred y p ∧ ck Γ N hot sc a' y = true ∧ cks Γ N hot sc b xs = true) ∨ (isStar a = false ∧ ck Γ N hot sc a x = true ∧ plainE x = true ∧ cks Γ N hot sc b xs = true) := by
  by_cases hs : ∃ a', a = .star a'
  · obtain ⟨a', rfl⟩ := hs
    by_cases hx : ∃ y p, x = .Starred y p
    · obtain ⟨y, p, rfl⟩ := hx
      have h' : (ck Γ N hot sc a' y && cks Γ N hot sc b xs) = true := h
      rw [Bool.and_eq_true] at h'
      exact .inl ⟨a', y, p, rfl, rfl, h'.1, h'.2⟩
    · exfalso
      cases x <;> first | (exact Bool.noConfusion (show false = true from h)) | exact absurd ⟨_, _, rfl⟩ hx
  · have hst : isStar a = false := by
      cases a <;> first | rfl | exact absurd ⟨_, rfl⟩ hs
    have h' : ((ck Γ N hot sc a x && plainE x) && cks Γ N hot sc b xs) = true := by
      cases a <;> first | exact h | cases hst
    rw [Bool.and_eq_true, Bool.and_eq_true] at h'
    exact .inr ⟨hst, h'.1.1, h'.1.2, h'.2⟩
/-- the names of a keyword list -/
theorem kw_names {Γ : Sy} {N : List Str} {hot : Bool} {sc : Scope} : ∀ {c : C} {kws : List Keyword} {ks : List Str}, ckK Γ N hot sc c kws ks = true → ∀ (env : PySem.Env) (pos : Pos), (backToKw pos (keywordEach kws env)).all (·.1.isSome) = true ∧ (backToKw pos (keywordEach kws env)).filterMap (·.1) = ks ∧ (backToKw pos (keywordEach kws env)).any (·.1.isNone) = false := by
  intro c
  induction c with
  | nil =>
    intro kws ks h env pos
    cases kws with
    | cons _ _ => exact Bool.noConfusion (show false = true from h)
    | nil =>
      cases ks with
      | cons _ _ => exact Bool.noConfusion (show false = true from h)
      | nil => exact ⟨rfl, rfl, rfl⟩
  | cons a b _ ihb =>
    intro kws ks h env pos
    cases kws with
    | nil => exact Bool.noConfusion (show false = true from h)
    | cons kw kws =>
      obtain ⟨n, e, q⟩ := kw
      cases n with
      | none => exact Bool.noConfusion (show false = true from h)
      | some n =>
        cases ks with
        | nil => exact Bool.noConfusion (show false = true from h)
        | cons k ks =>
          have h' : (!isStar a && decide (n = k) && ck Γ N hot sc a e && ckK Γ N hot sc b kws ks) = true := h
          rw [Bool.and_eq_true, Bool.and_eq_true, Bool.and_eq_true] at h'
          obtain ⟨i1, i2, i3⟩ := ihb h'.2 env pos
          have ek : n = k := of_decide_eq_true h'.1.1.2
          subst ek
          refine ⟨?_, ?_, ?_⟩
          · show (true && (backToKw pos (keywordEach kws env)).all (·.1.isSome)) = true
            rw [i1]; rfl
          · show n :: (backToKw pos (keywordEach kws env)).filterMap (·.1) = n :: ks
            rw [i2]
          · show (false || (backToKw pos (keywordEach kws env)).any (·.1.isNone)) = false
            rw [i3]; rfl
  | _ =>
    intro kws ks h env pos
    exact Bool.noConfusion (show false = true from h)
/-- names one after another: how they are assigned -/
theorem shape_names {env : PySem.Env} : ∀ (es : List Expr), (∀ (j : Nat) (e : Expr), es[j]? = some e → ∃ x p, e = .Name x p) → (assignEach es env).length = es.length ∧ (assignEach es env).findIdx? (·.1) = none := by
  intro es
  induction es with
  | nil => intro _; exact ⟨rfl, rfl⟩
  | cons e es ih =>
    intro hh
    obtain ⟨x, p, rfl⟩ := hh 0 e rfl
    obtain ⟨i1, i2⟩ := ih fun j e he => hh (j + 1) e (by simpa using he)
    have e0 : assignEach (.Name x p :: es) env = (false, assign (.Name x p) env) :: assignEach es env := rfl
    rw [e0]
    refine ⟨by simp [i1], ?_⟩
    rw [List.findIdx?_cons]
    simp [i2]
theorem zip_names {X' : Cx} {ok : Str → Bool} (h : ∀ x, ok x = true → Loc X'.env.scope x ∧ (X'.fn x = true ∨ X'.env.scope.names.lookup x = some .local)) {es : List Expr} {is : List Nat}
    (hk : ((es.zip is).all fun p => match p.1 with | .Name x _ => decide (X'.N[p.2]? = some x) && ok x | _ => false) = true) :
    ∀ (j : Nat) (e : Expr) (i : Nat), es[j]? = some e → is[j]? = some i → ∃ x p, e = .Name x p ∧ X'.N[i]? = some x ∧ Loc X'.env.scope x ∧ (X'.fn x = true ∨ X'.env.scope.names.lookup x = some .local) := fun j e i he hi => by
  have hm : (e, i) ∈ es.zip is := by
    refine List.mem_of_getElem? (i := j) ?_
    rw [List.getElem?_zip_eq_some]
    exact ⟨he, hi⟩
  have q := List.all_eq_true.mp hk _ hm
  cases e with
  | Name x p =>
    have q' : (decide (X'.N[i]? = some x) && ok x) = true := q
    rw [Bool.and_eq_true] at q'
    obtain ⟨h1, h2⟩ := h x q'.2
    exact ⟨x, p, rfl, of_decide_eq_true q'.1, h1, h2⟩
  | _ => cases q
theorem names_all {X' : Cx} {es : List Expr} {is : List Nat} (hl : es.length = is.length) (key : ∀ (j : Nat) (e : Expr) (i : Nat), es[j]? = some e → is[j]? = some i → ∃ x p, e = .Name x p ∧ X'.N[i]? = some x ∧ Loc X'.env.scope x ∧ (X'.fn x = true ∨ X'.env.scope.names.lookup x = some .local)) :
    ∀ (j : Nat) (e : Expr), es[j]? = some e → ∃ x p, e = .Name x p := fun j e he => by
  have hj : j < is.length := by
    rw [← hl]
    exact (List.getElem?_eq_some_iff.mp he).1
  obtain ⟨x, p, e1, _⟩ := key j e is[j] he (List.getElem?_eq_getElem hj)
  exact ⟨x, p, e1⟩
/-- a target's names, in the def's body or a comprehension's block -/
theorem tg_ok {X' : Cx} {ok : Str → Bool} (hK : X'.K = T.K) (hc : X'.calm = true) (hN : X'.N = N) (nd : N.Nodup) (h : ∀ x, ok x = true → Loc X'.env.scope x ∧ (X'.fn x = true ∨ X'.env.scope.names.lookup x = some .local)) {tg : Tg} {t : Expr} (hk : ckTg N ok tg t = true) : PG X' t (tTg T tg) := by
  subst hN
  cases tg with
  | one i =>
    cases t with
    | Name x p =>
      have hk' : (decide (X'.N[i]? = some x) && ok x) = true := hk
      rw [Bool.and_eq_true] at hk'
      obtain ⟨h1, h2⟩ := h x hk'.2
      exact ok_tg1 nd (of_decide_eq_true hk'.1) h1 h2
    | _ => cases hk
  | tup is =>
    cases t with
    | Tuple es k p =>
      have hk' : (decide (es.length = is.length) && (es.zip is).all fun p => match p.1 with | .Name x _ => decide (X'.N[p.2]? = some x) && ok x | _ => false) = true := hk
      rw [Bool.and_eq_true] at hk'
      have hl := of_decide_eq_true hk'.1
      have key := zip_names h hk'.2
      obtain ⟨s1, s2⟩ := shape_names (env := X'.env) es (names_all hl key)
      exact ok_tgt hK hc nd key hl (by rw [s1, hl]) s2
    | _ => cases hk
  | deep ts =>
    cases t with
    | Tuple es k p =>
      have hk' : ckTqs X'.N ok ts es = true := hk
      have main : ∀ (ts : List Tq) (es : List Expr), ckTqs X'.N ok ts es = true → TgQs X' es ts ∧ (assignEach es X'.env).length = ts.length ∧ (assignEach es X'.env).findIdx? (·.1) = none := by
        intro ts
        induction ts with
        | nil =>
          intro es hh
          cases es with
          | nil => exact ⟨.nil, rfl, rfl⟩
          | cons _ _ => cases hh
        | cons t ts ih =>
          intro es hh
          cases es with
          | nil => cases hh
          | cons e es =>
            have hh' : (ckTq X'.N ok t e && ckTqs X'.N ok ts es) = true := hh
            rw [Bool.and_eq_true] at hh'
            obtain ⟨i1, i2, i3⟩ := ih es hh'.2
            cases t with
            | one i =>
              cases e with
              | Name x p =>
                have g : (decide (X'.N[i]? = some x) && ok x) = true := hh'.1
                rw [Bool.and_eq_true] at g
                obtain ⟨h1, h2⟩ := h x g.2
                refine ⟨.cons (.one (of_decide_eq_true g.1) h1 h2) i1, ?_, ?_⟩
                · show (assignEach es X'.env).length + 1 = ts.length + 1
                  rw [i2]
                · have e0 : assignEach (.Name x p :: es) X'.env = (false, assign (.Name x p) X'.env) :: assignEach es X'.env := rfl
                  rw [e0, List.findIdx?_cons]
                  simp [i3]
              | _ => exact Bool.noConfusion (show false = true from hh'.1)
            | tup is =>
              cases e with
              | Tuple qs k p =>
                have g : (decide (qs.length = is.length) && (qs.zip is).all fun p => match p.1 with | .Name x _ => decide (X'.N[p.2]? = some x) && ok x | _ => false) = true := hh'.1
                rw [Bool.and_eq_true] at g
                have hl := of_decide_eq_true g.1
                have key := zip_names h g.2
                obtain ⟨s1, s2⟩ := shape_names (env := X'.env) qs (names_all hl key)
                refine ⟨.cons (.tup key hl (by rw [s1, hl]) s2) i1, ?_, ?_⟩
                · show (assignEach es X'.env).length + 1 = ts.length + 1
                  rw [i2]
                · have e0 : assignEach (.Tuple qs k p :: es) X'.env = (false, assign (.Tuple qs k p) X'.env) :: assignEach es X'.env := rfl
                  rw [e0, List.findIdx?_cons]
                  simp [i3]
              | _ => exact Bool.noConfusion (show false = true from hh'.1)
      obtain ⟨m1, m2, m3⟩ := main ts es hk'
      exact ok_tgd hK hc nd m1 m2 m3
    | _ => cases hk
/-- the context of a comprehension's block -/
theorem Cxt.blk (c : Cxt Γ T G false N sc lv X W Ξ) (scope : Scope) (s : Shared) (H : Hp) (C : Addr) (cl : List (Str × Addr)) (fp : List Addr) : Cxt Γ T G false N (relS scope sc) lv (X.blk s H scope (compEnvC scope cl C X.env) fp) W0 X0 := by
  refine ⟨c.md, c.hN, c.nd, ?_, c.un, c.gd, c.cold, takes0, kept0, (fun _ _ _ _ _ z => nomatch z), fun _ _ _ _ _ _ _ z => nomatch z⟩
  rw [← c.hsc]
  rfl
theorem own_slots (N : List Str) (tg : Tg) : (ownOf N tg).map (·.2) = slots tg := by
  unfold ownOf
  rw [List.map_map]
  exact List.map_id _
/-- what stands behind a star -/
def unS : C → C
  | .star a => a
  | .cons (.star a) _ => a
  | c => c
def ckP (Γ : Sy) (N : List Str) (hot : Bool) (sc : Scope) (c : C) (y : Expr) : Bool := match c with
  | .star a => ck Γ N hot sc a y
  | .cons (.star a) _ => ck Γ N hot sc a y
  | _ => false
/-- THE THEOREM, expressions -/
structure OkC (Γ : Sy) (T : Tb) (G : Gv) (N : List Str) (lv : Nat) (c : C) : Prop where
  k : ∀ {hot sc X W Ξ}, Cxt Γ T G hot N sc lv X W Ξ → ∀ {kws : List Keyword} {ks : List Str}, ckK Γ N hot sc c kws ks = true → PK X kws (tEvs T W Ξ (evs G c))
  p : ∀ {hot sc X W Ξ}, Cxt Γ T G hot N sc lv X W Ξ → ∀ {y : Expr}, ckP Γ N hot sc c y = true → PE X y (tEv T W Ξ (ev G (unS c)))
  e : ∀ {hot sc X W Ξ}, Cxt Γ T G hot N sc lv X W Ξ → ∀ {e : Expr}, ck Γ N hot sc c e = true → PE X e (tEv T W Ξ (ev G c))
  s : ∀ {hot sc X W Ξ}, Cxt Γ T G hot N sc lv X W Ξ → ∀ {es : List Expr}, cks Γ N hot sc c es = true → PA X es (tEvs T W Ξ (evs G c))
  o : ∀ {hot sc X W Ξ}, Cxt Γ T G hot N sc lv X W Ξ → ∀ {e : Option Expr}, ckO Γ N hot sc c e = true → PO X e (tEvO T W Ξ (evO G c))
  t : ∀ {hot sc X W Ξ}, Cxt Γ T G hot N sc lv X W Ξ → ∀ {e : Expr}, ckT Γ N hot sc c e = true → PT X e (tEvT T W Ξ (evT G c))
  w : ∀ {hot sc X W Ξ}, Cxt Γ T G hot N sc lv X W Ξ → ∀ {op : BoolOp} {xs : List Expr} {p : Pos}, ckT Γ N hot sc c (.BoolOp op xs p) = true → PW X (.BoolOp op xs p) (tEvT T W Ξ (evT G c))
  i : ∀ {hot sc X W Ξ}, Cxt Γ T G hot N sc lv X W Ξ → ∀ {e t : Expr}, ckI Γ N hot sc c e t = true → PI X t e (tEvI T W Ξ (evI G c))
end
end PV

namespace PV
open PySem L2 PyProof.Rows RZ
/-! errors as values -/
section
variable {X : Cx}
/-- C(e, ..), the error itself as the value -/
theorem pe_err {CX : CXT} {x : Str} {C fI : Addr} {k : Nat} {fd : FuncData} {ps : List Str} {sp : Sp} {e : Expr} {p pos : Pos} {te : TE} (O : OexC X.K C) (iC : PySem.W.findIn X.K (.ref C) "__init__" = some (some (.ref fI))) (tI : PySem.W.typeIn X.K (.ref fI) = some (.type "function"))
    (F1 : FnOk X.prog X.w X.K X.mg X.base CX k fI fd ps sp) (hr : Room (k + 1) X.A) (hb : Binds X.K fd ps []) (hx : Passes CX X (fun _ _ _ => False)) (hg : Gl X x) (hm : X.mg x = some (.ref C)) (he : PE X e te)
    (hdb : (x == ("__debug__" : Str)) = false) (hs : starEach [e] X.env = (false, eval e X.env) :: starEach [] X.env) :
    PE X (.Call (.Name x p) [e] [] pos) (fun σ H Q => te σ H fun v H1 => ∀ a, H1 a = none → sp [.ref a, v] (upd H1 a (exo a C none)) (fun z H2 => z = .non ∧ Q (.ref a) H2) (fun _ _ _ => False)) := by
  refine ⟨fun pins s σ H Q I h => ?_⟩
  obtain ⟨nm, q, N, bs, bm, sn, sub, ab, col, dd, k0, k1, k2, k3, k5, hC, hbm⟩ := O.cls
  refine wpAny_Call_Name_kw (ld_glob I hg hm ?_ hdb)
  refine PySem.W.callWith_K (h₀ := X.base) I.ok.mod.kin O.kC ?_ hs (by rfl)
  rw [hs]
  show wpAny _ _ (spliced ((false, eval e X.env) :: backTo pos (starEach [] X.env))) _ _ s
  refine Calls.spliced_cons (thn (he.run pins s σ H _ I h) fun u s1 ⟨v, H1, I1, r1, q1⟩ => ?_)
  refine Calls.spliced_nil ⟨I1.kIn, ?_⟩
  show wpAny _ _ (call (.ref C) [u]) _ _ _
  obtain ⟨hp, g, dr, tk, os⟩ := s1
  have fresh : H1 (hp.objs.size + 1) = none := I1.hok.fresh (Nat.le_succ _)
  have q2 := q1 _ fresh
  have grow : ∀ b o, hp.get? b = some o → ((hp.push (PySem.W.kdv_tup [u])).push (PySem.HandSPX.excO C hp.objs.size)).get? b = some o := fun b o z => Heap.get?_push_of_some _ (Heap.get?_push_of_some _ z)
  have here : ((hp.push (PySem.W.kdv_tup [u])).push (PySem.HandSPX.excO C hp.objs.size)).get? (hp.objs.size + 1) = some (PySem.HandSPX.excO C hp.objs.size) := by heap_get
  have I2 : L2.Inv X pins σ (upd H1 (hp.objs.size + 1) (exo (hp.objs.size + 1) C none)) ⟨(hp.push (PySem.W.kdv_tup [u])).push (PySem.HandSPX.excO C hp.objs.size), g, dr, tk, os⟩ :=
    I1.laid (t' := tk) (a := hp.objs.size + 1) (o := exo (hp.objs.size + 1) C none) grow (Nat.le_succ _) (exo_ok here)
  have r2 : Vals [V.ref (hp.objs.size + 1), v] [Value.ref (hp.objs.size + 1), u] := .cons rfl (.cons r1 .nil)
  have len2 : [Value.ref (hp.objs.size + 1), u].length = ps.length := r2.length.symm.trans (F1.len _ _ _ _ q2)
  have bnd := hb ⟨(hp.push (PySem.W.kdv_tup [u])).push (PySem.HandSPX.excO C hp.objs.size), g, dr, tk, os⟩ [Value.ref (hp.objs.size + 1), u] I2.kIn (by rw [List.append_nil]; exact len2)
  rw [List.append_nil] at bnd
  refine wpAny_call (PySem.HandSPX.call_own F.excBase_ValueError (fun Y => PySem.HandSPX.refsVE_contains Y bm hbm) (I1.kIn _ _ hC) (PySem.W.looks_findIn I1.kIn iC) (fun self => PySem.W.bind_fn I1.kIn self tI) (by show 1 ≤ sizeLine; rw [sizeLine_eq]; omega)
    (codeAny_mono (F1.run _ X.stack _ _ ⟨[Value.ref (hp.objs.size + 1), u], []⟩ [Value.ref (hp.objs.size + 1), u] _ _ (fun _ _ _ => False) (hr.make C [u] []) (I2.env0.make C [u] []) bnd r2 q2) fun r s' hq => ?_))
  match r, hq with
  | .error er, hq => exact hx pins σ _ _ er s' I2 hq
  | .ok (.ret z), hq =>
    obtain ⟨z2, H2, I3, rz, ez, q3⟩ := I2.after hq
    subst ez
    exact ⟨rz, V.ref (hp.objs.size + 1), H2, I3, rfl, q3⟩
end
section
variable {Γ : Sy} {T : Tb} {G : Gv} {hot : Bool} {N : List Str} {sc : Scope} {lv : Nat} {X : Cx} {W : WX} {Ξ : Xi} {a : Expr} {pos : Pos}
/-- C(e) as a value -/
theorem ok_mkx (c : Cxt Γ T G false N sc lv X W Ξ) {k : Nat} {x : Str} {p : Pos} {y : C} (hk : Γ.cn[k]? = some x) (hm : Γ.mkb[k]? = some true) (hg : glB sc x = true) (hn : okNm x = true) (he : PE X a (tEv T W Ξ (ev G y))) (hp : plainE a = true) :
    PE X (.Call (.Name x p) [a] [] pos) (tEv T W Ξ (ev G (.mkx k y))) := by
  have md := c.md
  have mk := md.mks k hm
  obtain ⟨hmg, _, _⟩ := md.exc k x hk
  have hlt : k < T.nc := by rw [md.ncn]; exact (List.getElem?_eq_some_iff.mp hk).1
  have e1 : starEach [a] X.env = (false, eval a X.env) :: starEach [] X.env := star_plain hp
  unfold MkOk at mk
  cases hef : T.ef k with
  | none =>
    rw [hef] at mk
    obtain ⟨⟨B, n1, n2, bm, F, hin⟩, kC, s1, t1⟩ := mk
    refine toPE (pe_exc1 F hin hmg kC (gl_of c.hsc hg) he e1 (nm_of hn).1) fun σ H Q h => ?_
    obtain ⟨δ, w, rfl, wd, en, xi, h⟩ := h
    refine (tEv.bind1 c.kp wd en xi h).imp fun v H1 ⟨w1, d, e1, wd1, _, _, r, q⟩ => ?_
    subst e1
    intro a ha
    obtain ⟨w2, s2, l2⟩ := wd1.still ha (ExO (.ref (T.cls k)) a)
    have ex : xval G k d = .non := by unfold xval; rw [md.ef, hef]
    rw [ex] at q
    exact q ⟨w1.S, w1.r, upd w1.H a (ExO (.ref (T.cls k)) a), w1.x⟩ _ rfl w2 s2 (.er0 hef hlt upd_same l2)
  | some f =>
    rw [hef] at mk
    obtain ⟨o, fI, fd, ps, i1, i2, F, hb⟩ := mk
    refine toPE (pe_err o i1 i2 F ((c.cold rfl).2.mono (by have := md.lv1; omega)) hb pass0 (gl_of c.hsc hg) hmg he (nm_of hn).1 e1) fun σ H Q h => ?_
    obtain ⟨δ, w, rfl, wd, en, xi, h⟩ := h
    refine (tEv.bind1 c.kp wd en xi h).imp fun v H1 ⟨w1, d, e1, wd1, _, _, r, q⟩ => ?_
    subst e1
    have ex : xval G k d = d := by unfold xval; rw [md.ef, hef]
    rw [ex] at q
    intro a ha
    refine ⟨a, v, rfl, upd_same, fun dx hd hda => ⟨rfl, ?_⟩⟩
    rw [upd_ne hda] at hd
    obtain ⟨w2, s2, l2⟩ := wd1.still ha (exo a (T.cls k) (some dx))
    have hd2 : (upd w1.H a (exo a (T.cls k) (some dx))) dx = none := by rw [upd_ne hda]; exact hd
    obtain ⟨w3, s3, l3⟩ := w2.still hd2 (exd dx [(T.fld f, v)])
    have e2 : upd (upd (upd w1.H a (exo a (T.cls k) none)) dx (exd dx [(T.fld f, v)])) a (exo a (T.cls k) (some dx)) = upd (upd w1.H a (exo a (T.cls k) (some dx))) dx (exd dx [(T.fld f, v)]) := by
      funext b
      by_cases hb : b = a
      · subst hb
        rw [upd_same, upd_ne (Ne.symm hda), upd_same]
      · rw [upd_ne hb]
        by_cases hbd : b = dx
        · subst hbd
          rw [upd_same, upd_same]
        · rw [upd_ne hbd, upd_ne hb, upd_ne hbd, upd_ne hb]
    rw [e2]
    refine q ⟨w1.S, w1.r, upd (upd w1.H a (exo a (T.cls k) (some dx))) dx (exd dx [(T.fld f, v)]), w1.x⟩ _ rfl w3 (s2.trans s3) (.err hef hlt ?_ ?_ upd_same l3 (r.mono (s2.trans s3).toMon))
    · show upd (upd w1.H a (exo a (T.cls k) (some dx))) dx _ a = _
      rw [upd_ne (Ne.symm hda), upd_same]
    · intro z
      rcases z with z | ⟨n, cl, z1, z2, z3⟩
      · exact l2 (.inl z)
      · exact l2 (.inr ⟨n, cl, z1, z2, z3⟩)
/-- an error's object, as isinstance asks it -/
theorem err_inst {w : Wo} {k : Nat} {v : D} {u : V} {pins : List (Addr × Obj)} {σ : L2.St} {s : Shared} (I : L2.Inv X pins σ w.H s) (r : Rep T w (.err k v) u) : ∃ (ad : Addr) (oe : Obj) (od : Option Obj), u = .ref ad ∧ k < T.nc ∧ PySem.W.InstAt s.heap ad oe (T.cls k) od := by
  cases r with
  | @err ad dx _ f' _ uv he hk2 ha la hd ld rv' =>
    obtain ⟨t1, hoe⟩ := exo_at I.hok ha
    obtain ⟨mA, hns, rel⟩ := exd_at I.hok hd
    obtain ⟨od, ho, hl⟩ := lookIn_ns hns
    exact ⟨ad, _, some od, rfl, hk2, hoe, rfl, rfl, ho⟩
  | @er0 ad _ he hk2 ha la =>
    obtain ⟨⟨oe, vs, ho, hz, hd, _⟩, _⟩ := I.hok ad _ ha
    refine ⟨ad, oe, none, rfl, hk2, ho, hz.1, ?_, ?_⟩
    · unfold PySem.W.notCls
      rw [hd]
    · rw [hz.2]
      exact trivial
/-- isinstance(e, C) -/
def rIsV (T : Tb) (K : PySem.W.Frag) : List V → Hp → VK → Prop := fun xs H Q => ∃ (w : Wo) (k : Nat) (v : D) (u c : V) (cv : Value) (b : Bool), xs = [u, c] ∧ w.H = H ∧ Rep T w (.err k v) u ∧ ExcC K (T.cls k) ∧ (∀ z, RelV c z → z = cv) ∧ PySem.W.kitOne K (.ref (T.cls k)) cv = some b ∧ Q (.bl b) H
theorem call_isV : CallR X (.builtin "isinstance") (rIsV T X.K) := by
  intro pins s σ H xs us Q I r h
  obtain ⟨w, k, v, u, c, cv, b, rfl, rfl, rk, ec, hcv, e, q⟩ := h
  obtain ⟨ad, oe, od, rfl, hk, J⟩ := err_inst I rk
  cases r with
  | cons rx rr =>
    cases rr with
    | cons rt rr =>
      cases rr
      cases rx
      have same := hcv _ rt
      subst same
      exact PySem.W.kia_one (kit_exc ec) I.kIn J e (fun z => nomatch z) fun tk => ⟨.bl b, w.H, I.kept (t' := tk) fun _ _ z => z, rfl, q⟩
theorem ok_isx (c : Cxt Γ T G false N sc lv X W Ξ) {j : Nat} {x n : Str} {p p3 : Pos} {y : C} (hx : x = "isinstance") (hj : Γ.tn[j]? = some n) (hg : glB sc x = true) (hgn : glB sc n = true) (hn : okNm n = true) (he : PE X a (tEv T W Ξ (ev G y))) (hp : plainE a = true) :
    PE X (.Call (.Name x p) [a, .Name n p3] [] pos) (tEv T W Ξ (ev G (.isx y j))) := by
  subst hx
  have md := c.md
  have hlt : j < Γ.tn.length := (List.getElem?_eq_some_iff.mp hj).1
  have hT : PE X (.Name n p3) (tC (T.tv j).v) := ok_tcn ⟨gl_of c.hsc hgn, (nm_of hn).1, md.tgs j n hj⟩
  have e1 : starEach [a, .Name n p3] X.env = (false, eval a X.env) :: starEach [.Name n p3] X.env := star_plain hp
  refine toPE (pe_callB (call_isV (T := T)) (gl_of c.hsc hg) (md.blt _ (by decide +kernel)) (by decide +kernel) (pa_cons he (pa_cons hT pa_nil) e1) (by decide) (by decide) e1 rfl) fun σ H Q h => ?_
  obtain ⟨δ, w, rfl, wd, en, xi, h⟩ := h
  refine (tEv.bind1 c.kp wd en xi h).imp fun v H1 ⟨w1, d, e1, wd1, _, _, r, q⟩ => ?_
  subst e1
  unfold isxD at q
  split at q
  · rename_i k v' e
    obtain rfl := deref_err e
    have hk : k < T.nc := by cases r <;> assumption
    have hk2 := hk
    rw [md.ncn] at hk2
    exact ⟨w1, k, v', v, (T.tv j).v, (T.tv j).val, G.sub k j, rfl, rfl, r, (md.exc k _ (List.getElem?_eq_getElem hk2)).2.2.1, fun z hz => (T.tv j).one hz, (md.sub k j hk hlt).2, Post.here wd1 (.bl _) q⟩
  · exact q.elim
/-- isinstance(e, (C, D, ..)), classes by their names -/
def rIsW (T : Tb) (K : PySem.W.Frag) : List V → Hp → VK → Prop := fun xs H Q => ∃ (w : Wo) (k : Nat) (v : D) (u : V) (tp : Addr) (cs : List V) (cvs : List Value) (b : Bool), xs = [u, .ref tp] ∧ w.H = H ∧ Rep T w (.err k v) u ∧ ExcC K (T.cls k) ∧ H tp = some (.tup cs) ∧ (∀ zs, Vals cs zs → zs = cvs) ∧ PySem.W.kitAny K (.ref (T.cls k)) cvs = some b ∧ Q (.bl b) H
theorem call_isW : CallR X (.builtin "isinstance") (rIsW T X.K) := by
  intro pins s σ H xs us Q I r h
  obtain ⟨w, k, v, u, tp, cs, cvs, b, rfl, rfl, rk, ec, htp, hcv, e, q⟩ := h
  obtain ⟨ad, oe, od, rfl, hk, J⟩ := err_inst I rk
  cases r with
  | cons rx rr =>
    cases rr with
    | cons rt rr =>
      cases rr
      cases rx
      cases rt
      obtain ⟨_, its, rv, ho⟩ := I.hok tp _ htp
      obtain ⟨⟨oc, odd, odt, osl⟩, h1, h2, n, h3⟩ := ho
      dsimp only at h2 h3
      subst h2 h3
      have same := hcv _ rv
      subst same
      exact PySem.W.kia_tup (kit_exc ec) I.kIn J h1 e (fun z => nomatch z) fun tk => ⟨.bl b, w.H, I.kept (t' := tk) fun _ _ z => z, rfl, q⟩
theorem kit_any {K : PySem.W.Frag} {k : Nat} {G : Gv} : ∀ (js : List Nat), (∀ j ∈ js, PySem.W.kitOne K (.ref (T.cls k)) (T.tv j).val = some (G.sub k j)) → PySem.W.kitAny K (.ref (T.cls k)) (js.map fun j => (T.tv j).val) = some (js.any fun j => G.sub k j)
  | [], _ => rfl
  | j :: js, h => by
    have ih := kit_any js fun i hi => h i (List.mem_cons_of_mem _ hi)
    rw [List.map_cons, List.any_cons]
    unfold PySem.W.kitAny
    rw [h j List.mem_cons_self]
    cases G.sub k j with
    | true => rfl
    | false => exact ih
theorem tc_vals : ∀ (js : List Nat) (zs : List Value), Vals (js.map fun j => (T.tv j).v) zs → zs = js.map fun j => (T.tv j).val
  | [], _, h => by cases h; rfl
  | j :: js, _, h => by
    cases h with
    | cons a b => rw [(T.tv j).one a, tc_vals js _ b]; rfl
def tTc (T : Tb) : List Nat → TA
  | [] => tNil
  | j :: js => tCons (tC (T.tv j).v) (tTc T js)
theorem tTc_of {js : List Nat} : ∀ {σ : L2.St} {H : Hp} {Q : List V → Hp → Prop}, Q (js.map fun j => (T.tv j).v) H → tTc T js σ H Q := by
  induction js with
  | nil => intro σ H Q q; exact q
  | cons j js ih => intro σ H Q q; exact ih (Q := fun xs H2 => Q ((T.tv j).v :: xs) H2) q
theorem pa_tn (c : Cxt Γ T G hot N sc lv X W Ξ) : ∀ (js : List Nat) (es : List Expr), ckTn Γ sc js es = true → PA X es (tTc T js) ∧ ∀ j ∈ js, j < Γ.tn.length
  | [], [], _ => ⟨pa_nil, fun _ h => nomatch h⟩
  | [], _ :: _, h => Bool.noConfusion (show false = true from h)
  | _ :: _, [], h => Bool.noConfusion (show false = true from h)
  | j :: js, e :: es, h => by
    have h' : ((match nameP e with
      | some n => decide (Γ.tn[j]? = some n) && glB sc n && okNm n
      | none => false) && ckTn Γ sc js es) = true := h
    rw [Bool.and_eq_true] at h'
    obtain ⟨i1, i2⟩ := pa_tn c js es h'.2
    cases e with
    | Name n p =>
      have g : (decide (Γ.tn[j]? = some n) && glB sc n && okNm n) = true := h'.1
      rw [Bool.and_eq_true, Bool.and_eq_true] at g
      have hj := of_decide_eq_true g.1.1
      have hT : PE X (.Name n p) (tC (T.tv j).v) := ok_tcn ⟨gl_of c.hsc g.1.2, (nm_of g.2).1, c.md.tgs j n hj⟩
      refine ⟨pa_cons hT i1, fun i hi => ?_⟩
      rcases List.mem_cons.mp hi with rfl | hi
      · exact (List.getElem?_eq_some_iff.mp hj).1
      · exact i2 i hi
    | _ => exact Bool.noConfusion (show false = true from h'.1)
theorem ok_isxt (c : Cxt Γ T G false N sc lv X W Ξ) {js : List Nat} {x : Str} {es : List Expr} {p p3 : Pos} {i : Nat} {y : C} (hx : x = "isinstance") (hl : js.length ≤ 100) (hj : ckTn Γ sc js es = true) (hg : glB sc x = true) (he : PE X a (tEv T W Ξ (ev G y))) (hp : plainE a = true) :
    PE X (.Call (.Name x p) [a, .Tuple es i p3] [] pos) (tEv T W Ξ (ev G (.isxt y js))) := by
  subst hx
  have md := c.md
  obtain ⟨pn, hlt⟩ := pa_tn c js es hj
  have hTU : PE X (.Tuple es i p3) (tTup (tTc T js)) := pe_tup pn
  have e1 : starEach [a, .Tuple es i p3] X.env = (false, eval a X.env) :: starEach [.Tuple es i p3] X.env := star_plain hp
  refine toPE (pe_callB (call_isW (T := T)) (gl_of c.hsc hg) (md.blt _ (by decide +kernel)) (by decide +kernel) (pa_cons he (pa_cons hTU pa_nil) e1) (by decide) (by decide) e1 rfl) fun σ H Q h => ?_
  obtain ⟨δ, w, rfl, wd, en, xi, h⟩ := h
  refine (tEv.bind1 c.kp wd en xi h).imp fun v H1 ⟨w1, d, e1, wd1, _, _, r, q⟩ => ?_
  subst e1
  unfold isxtD at q
  split at q
  · rename_i k v' e
    obtain rfl := deref_err e
    have hk : k < T.nc := by cases r <;> assumption
    have hk2 := hk
    rw [md.ncn] at hk2
    refine tTc_of ⟨by rw [List.length_map, sizeLine_eq]; omega, fun tp htp => ?_⟩
    obtain ⟨w2, s2, l2⟩ := wd1.still htp (.tup (js.map fun j => (T.tv j).v))
    exact ⟨_, k, v', v, tp, _, js.map fun j => (T.tv j).val, _, rfl, rfl, r.mono s2.toMon, (md.exc k _ (List.getElem?_eq_getElem hk2)).2.2.1, upd_same, fun zs hz => tc_vals js zs hz, kit_any js fun j hj => (md.sub k j hk (hlt j hj)).2, q ⟨w1.S, w1.r, upd w1.H tp (.tup (js.map fun j => (T.tv j).v)), w1.x⟩ _ rfl w2 s2 (.bl _)⟩
  · exact q.elim
end
section
variable {X : Cx} {T : Tb} {W : WX} {Ξ : Xi} {G : Gv} {a : Expr} {pos : Pos}
theorem Post.stepQ {w w' : Wo} {σ : L2.St} {r : R D} {Q : VK} (st : Step w w') (h : Post T W w σ (Rep T) r Q) : Post T W w' σ (Rep T) r Q := by
  cases r with
  | ok d S => exact fun w2 v e wd s2 rv => h w2 v e wd (st.trans s2) rv
  | ex c v S => exact fun w2 cl dd e wd s2 rx => h w2 cl dd e wd (st.trans s2) rx
  | stuck => exact h
theorem frz_nox (d : D) (S : Store) {c : Nat} {v : D} {S' : Store} : frzD d S ≠ .ex c v S' := fun h => by
  unfold frzD at h
  split at h
  · split at h <;> cases h
  · cases h
/-- {k: v} -/
theorem ok_dctS (kp : Kept Ξ) {x y : C} {m : Bool} {k v : Expr} (hk : PE X k (tEv T W Ξ (ev G x))) (hv : PE X v (tEv T W Ξ (ev G y))) : PE X (.Dict [some k] [v] pos) (tEv T W Ξ (ev G (.dct1 m x y))) := by
  refine toPE (pe_disp (pps_cons hk hv pps_nil) rfl rfl (by simp) (by simp)) fun σ H Q h => ?_
  obtain ⟨δ, w, rfl, wd, en, xi, h⟩ := h
  have h' : Post T W w σ (Rep T) ((ev G x δ (w.S ++ [.dct [] []])).bind fun d S1 => (ev G y δ S1).bind fun e S2 => dctD m w.S.length d e S2) Q := h
  intro p hp
  obtain ⟨w1, s1, l1⟩ := wd.alloc (c := .dct [] []) (o := .dK []) hp fun w' st e => ⟨[], [], by rw [e]; exact upd_same, rfl, .nil⟩
  refine ⟨δ, ⟨w.S ++ [.dct [] []], w.r ++ [p], upd w.H p (.dK []), w.x⟩, rfl, w1, en.mono s1.toMon, kp _ _ _ s1 xi, (Post.split (Post.stepQ s1 h')).mono fun u H1 ⟨w2, d, e1, wd2, st2, r2, h2⟩ => ?_⟩
  subst e1
  refine ⟨δ, w2, rfl, wd2, (en.mono s1.toMon).mono st2.toMon, kp _ _ _ st2 (kp _ _ _ s1 xi), (Post.split h2).mono fun z H2 ⟨w3, e, e2, wd3, st3, r3, h3⟩ => ?_⟩
  subst e2
  have hr : w3.r[w.S.length]? = some p := st3.pre _ _ (st2.pre _ _ l1)
  unfold dctD at h3
  split at h3
  · rename_i hS
    split at h3
    · rename_i q hq
      obtain ⟨kvs, us, hH, hpk, hrs⟩ := wd3.cell _ _ p hS hr
      have hn : kvs = [] := by
        cases us with
        | nil => cases hpk; rfl
        | cons _ _ => cases hpk
      subst hn
      have r2' := r2.mono st3.toMon
      have hkv : u = kV q := by
        cases d <;> first | (cases hq; done) | (cases hq; cases r2'; rfl)
      subst hkv
      refine ⟨hH, [(q, z)], rfl, by simp, ?_⟩
      have em : mergeK [] [(q, z)] = [(q, z)] := rfl
      rw [em]
      obtain ⟨w4, s4⟩ := wd3.write (c' := .dct [d] [e]) (o := .dK [(q, z)]) hS (fun z => nomatch z) hr fun w' st ee => ⟨[(q, z)], [z], by rw [ee]; exact upd_same, by
        show (match keyD d, pairK [] [] with | some q, some r => some ((q, z) :: r) | _, _ => none) = _
        rw [hq]
        rfl, .cons (r3.mono st.toMon) .nil⟩
      cases m with
      | true => exact h3 _ (.ref p) rfl w4 s4 (.ref (s4.pre _ _ hr))
      | false =>
        rw [if_neg (by decide)] at h3
        cases hf : frzD (.ref w.S.length) (w3.S.set w.S.length (.dct [d] [e])) with
        | stuck => rw [hf] at h3; exact h3.elim
        | ex c u2 S2 => exact absurd hf (frz_nox _ _)
        | ok g S5 =>
          obtain ⟨w5, e5, eh, wd5, s5, r5⟩ := frz_ok w4 (.ref (s4.pre _ _ hr)) hf
          rw [hf] at h3
          have := h3 w5 (.ref p) e5 wd5 (s4.trans s5) r5
          rw [eh] at this
          exact this
    · exact h3.elim
  · exact h3.elim
/-- a.pop() -/
theorem ok_popl (kp : Kept Ξ) {x : C} {ap : Pos} (ha : PE X a (tEv T W Ξ (ev G x))) (hb : attributeBase a "pop" X.env (eval a X.env) = eval a X.env) (hl : (ap.endLine == pos.line) = true) : PE X (.Call (.Attribute a "pop" ap) [] [] pos) (tEv T W Ξ (ev G (.popl x))) := by
  refine toPE (pe_bm0 (r := rPop) PySem.F.plainAttrs_list PySem.F.slot_list_pop PySem.F.type_list_pop mt_pop ha hb hl) fun σ H Q h => ?_
  obtain ⟨δ, w, rfl, wd, en, xi, h⟩ := h
  refine (tEv.bind1 kp wd en xi h).imp fun v H1 ⟨w1, d, e1, wd1, _, _, r, q⟩ => ?_
  subst e1
  unfold popD at q
  split at q
  · rename_i n
    cases r with
    | @ref _ p hn =>
      split at q
      · rename_i ds hS
        split at q
        · rename_i e he
          obtain ⟨vs, hp, rs⟩ := wd1.cell n _ p hS hn
          have hl : ds[ds.length - 1]? = some e := by rw [← List.getLast?_eq_getElem?]; exact he
          obtain ⟨z, hz, rz⟩ := rs.get hl
          obtain ⟨w2, s2⟩ := wd1.write (c' := .lst ds.dropLast) (o := .lst vs.dropLast) hS (fun z => nomatch z) hn fun w' st ee => ⟨_, by rw [ee]; exact upd_same, by
            have := (rs.mono st.toMon).take (ds.length - 1)
            rw [← List.dropLast_eq_take, rs.len, ← List.dropLast_eq_take] at this
            exact this⟩
          refine ⟨.inl ⟨rfl, vs, SqL.of hp⟩, p, vs, z, rfl, rfl, hp, by rw [← rs.len]; exact hz, q ⟨_, _, _, _⟩ z rfl w2 s2 (rz.mono s2.toMon)⟩
        · exact q.elim
      · exact q.elim
  · exact q.elim
end
end PV

namespace PV
open PySem L2 PyProof.Rows RZ

theorem and3 {a b : Bool} (h : (a && b) = true) : a = true ∧ b = true := by rw [Bool.and_eq_true] at h; exact h
theorem noT {p : Prop} (h : false = true) : p := Bool.noConfusion h
section
variable {Γ : Sy} {T : Tb} {G : Gv} {N : List Str} {lv : Nat}
theorem lastM {o p : CmpOp} {b c : Expr} (h : noSet c = true) : lastMarks [o, p] [b, c] = false := mark_of (op := p) h
theorem cks_nil {Γ : Sy} {N : List Str} {hot : Bool} {sc : Scope} {a b : C} (h : cks Γ N hot sc (.cons a b) [] = true) : False := by
  cases a <;> exact noT h
theorem rel_lookup {scope sc : Scope} {x : Str} {k : NameKind} (hk : k ≠ .free) (h : scope.names.lookup x = some k) : (relS scope sc).names.lookup x = some k := by
  unfold relS
  show (scope.names.map _).lookup x = some k
  generalize scope.names = l at h
  induction l with
  | nil => cases h
  | cons p l ih =>
    obtain ⟨n, j⟩ := p
    rw [List.lookup_cons] at h
    rw [List.map_cons]
    cases hb : x == n with
    | true =>
      rw [hb] at h
      have hj : j = k := by simpa using h
      subst hj
      have e : (j == NameKind.free) = false := by simpa using hk
      show ((if (j == NameKind.free && sc.kind == .function && sc.names.lookup n == some .cell) = true then (n, NameKind.cell) else (n, j)) :: _).lookup x = some j
      rw [e, Bool.false_and, Bool.false_and, if_neg (by simp), List.lookup_cons, hb]
    | false =>
      rw [hb] at h
      show ((if (j == NameKind.free && sc.kind == .function && sc.names.lookup n == some .cell) = true then (n, NameKind.cell) else (n, j)) :: _).lookup x = some k
      by_cases hc : (j == NameKind.free && sc.kind == .function && sc.names.lookup n == some .cell) = true
      · rw [if_pos hc, List.lookup_cons, hb]; exact ih h
      · rw [if_neg hc, List.lookup_cons, hb]; exact ih h
/-- what a comprehension's text asks, part by part -/
structure CompPs (Γ : Sy) (T : Tb) (G : Gv) (N : List Str) (X : Cx) (W : WX) (Ξ : Xi) (tg : Tg) (src cnd el : C) (x t it : Expr) (ifs : List Expr) (scope : Scope) : Prop where
  hc : X.calm = true
  hN : X.N.Nodup
  hi : PI X t it (tEvI T W Ξ (evI G src))
  ok : BlkOk X.N X.env.scope scope (ownOf N tg)
  hg : ∀ (s : Shared) (H : Hp) (C : Addr) (cl : List (Str × Addr)) (fp : List Addr), PG (X.blk s H scope (compEnvC scope cl C X.env) fp) t (tTg T tg)
  ht : ∀ (s : Shared) (H : Hp) (C : Addr) (cl : List (Str × Addr)) (fp : List Addr), PTs (X.blk s H scope (compEnvC scope cl C X.env) fp) ifs (tEvT T W0 X0 (evT G cnd))
  he : ∀ (s : Shared) (H : Hp) (C : Addr) (cl : List (Str × Addr)) (fp : List Addr), PE (X.blk s H scope (compEnvC scope cl C X.env) fp) x (tEv T W0 X0 (ev G el))
  hs : ∀ y, foldedSetIterable it X.env y = pure y
theorem compPs {tg : Tg} {src cnd el : C} (os : OkC Γ T G N lv src) (oc : OkC Γ T G N lv cnd) (oe : OkC Γ T G N lv el) {sc : Scope} {X : Cx} {W : WX} {Ξ : Xi} (cx : Cxt Γ T G false N sc lv X W Ξ) {x t it : Expr} {ifs : List Expr} {scope : Scope}
    (h : (blkC N sc scope (ownOf N tg) && ckTg N (locB scope) tg t && ckI Γ N false sc src it t && noSet it && (match (generalizing := false) ifs with | [] => isNil cnd | [y] => ckT Γ N false (relS scope sc) cnd y | _ => false) && ck Γ N false (relS scope sc) el x) = true) : CompPs Γ T G N X W Ξ tg src cnd el x t it ifs scope := by
  obtain ⟨h, h6⟩ := and3 h
  obtain ⟨h, h5⟩ := and3 h
  obtain ⟨h, h4⟩ := and3 h
  obtain ⟨h, h3⟩ := and3 h
  obtain ⟨h1, h2⟩ := and3 h
  have hN := cx.hN
  have hsc := cx.hsc
  refine ⟨(cx.cold rfl).1, by rw [hN]; exact cx.nd, os.i cx h3, by rw [hN, hsc]; exact blkOk_by h1, fun s H C cl fp => ?_, fun s H C cl fp => ?_, fun s H C cl fp => oe.e (cx.blk scope s H C cl fp) h6, fun y => fold_of h4 y⟩
  · refine tg_ok (X' := X.blk s H scope (compEnvC scope cl C X.env) fp) (ok := locB scope) cx.md.hK (cx.cold rfl).1 hN cx.nd (fun y hy => ?_) h2
    have hr : (X.blk s H scope (compEnvC scope cl C X.env) fp).env.scope = relS scope sc := (cx.blk scope s H C cl fp).hsc
    rcases loc_of hy with q | q
    · have e := rel_lookup (sc := sc) (by decide) q
      rw [← hr] at e
      exact ⟨.inl e, .inr e⟩
    · have e := rel_lookup (sc := sc) (by decide) q
      rw [← hr] at e
      refine ⟨.inr e, .inl ?_⟩
      show (scope.names.lookup y == some .cell) = true
      rw [q]
      rfl
  · match ifs, h5 with
    | [], h5 =>
      cases cnd <;> first | (exact noT h5) | skip
      refine ⟨fun pins s σ H Q I hq => pts_nil.run pins s σ H Q I ?_⟩
      obtain ⟨δ, w, rfl, wd, en, xi, hq⟩ := hq
      exact hq w true rfl wd (Step.refl w) rfl
    | [y], h5 => exact pts_one (oc.t (cx.blk scope s H C cl fp) h5)
    | _ :: _ :: _, h5 => exact noT h5
theorem hp_some' {α : Type} {o : Option α} {f : α → Bool} (h : (match (generalizing := false) o with | some q => f q | none => false) = true) : ∃ q, o = some q ∧ f q = true := by
  cases o with
  | none => cases h
  | some q => exact ⟨q, rfl, h⟩
theorem inv_call {e : Expr} {x : Str} {ys : List Expr} (h : callP e = some (x, ys)) : ∃ p pos, e = .Call (.Name x p) ys [] pos := by
  unfold callP at h
  split at h
  · cases h
    exact ⟨_, _, rfl⟩
  · cases h
theorem inv_mcall {e o : Expr} {m : Str} {ys : List Expr} {l : Bool} (h : mcallP e = some (o, m, ys, l)) : ∃ ap pos, e = .Call (.Attribute o m ap) ys [] pos ∧ l = (ap.endLine == pos.line) := by
  unfold mcallP at h
  split at h
  · cases h
    exact ⟨_, _, rfl, rfl⟩
  · cases h
theorem inv_name {e : Expr} {x : Str} (h : nameP e = some x) : ∃ p, e = .Name x p := by
  cases e <;> first | (cases h; done) | skip
  cases h
  exact ⟨_, rfl⟩
theorem inv_pair {ys : List Expr} {x y : Expr} (h : pairP ys = some (x, y)) : ys = [x, y] := by
  unfold pairP at h
  split at h
  · cases h
    rfl
  · cases h
theorem inv_one {ys : List Expr} {x : Expr} (h : oneP ys = some x) : ys = [x] := by
  unfold oneP at h
  split at h
  · cases h
    rfl
  · cases h
theorem inv_tup2 {e : Expr} {n m : Str} (h : tup2P e = some (n, m)) : ∃ p q j r, e = .Tuple [.Name n p, .Name m q] j r := by
  unfold tup2P at h
  split at h
  · cases h
    exact ⟨_, _, _, _, rfl⟩
  · cases h
theorem cks_emp {Γ : Sy} {N : List Str} {hot : Bool} {sc : Scope} {es : C} (h : cks Γ N hot sc es [] = true) : es = .nil := by
  cases es <;> first | rfl | (exact noT h) | skip
  exact (cks_nil h).elim
theorem inv_tupP {e : Expr} {es : List Expr} (h : tupP e = some es) : ∃ j p, e = .Tuple es j p := by
  cases e <;> first | (cases h; done) | skip
  cases h
  exact ⟨_, _, rfl⟩
theorem own_slots2 (N : List Str) (tg tg2 : Tg) : (ownOf N tg ++ ownOf N tg2).map (·.2) = slots tg ++ slots tg2 := by
  rw [List.map_append, own_slots, own_slots]
/-- what a comprehension of two clauses asks -/
structure CompPs2 (Γ : Sy) (T : Tb) (G : Gv) (N : List Str) (X : Cx) (W : WX) (Ξ : Xi) (tg : Tg) (src cnd : C) (tg2 : Tg) (src2 cnd2 el : C) (x t it t2 it2 : Expr) (ifs ifs2 : List Expr) (scope : Scope) : Prop where
  hc : X.calm = true
  hN : X.N.Nodup
  hi : PI X t it (tEvI T W Ξ (evI G src))
  ok : BlkOk X.N X.env.scope scope (ownOf N tg ++ ownOf N tg2)
  hg : ∀ (s : Shared) (H : Hp) (C : Addr) (cl : List (Str × Addr)) (fp : List Addr), PG (X.blk s H scope (compEnvC scope cl C X.env) fp) t (tTg T tg)
  ht : ∀ (s : Shared) (H : Hp) (C : Addr) (cl : List (Str × Addr)) (fp : List Addr), PTs (X.blk s H scope (compEnvC scope cl C X.env) fp) ifs (tEvT T W0 X0 (evT G cnd))
  hi2 : ∀ (s : Shared) (H : Hp) (C : Addr) (cl : List (Str × Addr)) (fp : List Addr), PI (X.blk s H scope (compEnvC scope cl C X.env) fp) t2 it2 (tEvI T W0 X0 (evI G src2))
  hg2 : ∀ (s : Shared) (H : Hp) (C : Addr) (cl : List (Str × Addr)) (fp : List Addr), PG (X.blk s H scope (compEnvC scope cl C X.env) fp) t2 (tTg T tg2)
  ht2 : ∀ (s : Shared) (H : Hp) (C : Addr) (cl : List (Str × Addr)) (fp : List Addr), PTs (X.blk s H scope (compEnvC scope cl C X.env) fp) ifs2 (tEvT T W0 X0 (evT G cnd2))
  he : ∀ (s : Shared) (H : Hp) (C : Addr) (cl : List (Str × Addr)) (fp : List Addr), PE (X.blk s H scope (compEnvC scope cl C X.env) fp) x (tEv T W0 X0 (ev G el))
  hs : ∀ y, foldedSetIterable it X.env y = pure y
  hs2 : ∀ env y, foldedSetIterable it2 env y = pure y
theorem blk_tg {sc : Scope} {X : Cx} {W : WX} {Ξ : Xi} (cx : Cxt Γ T G false N sc lv X W Ξ) {tg : Tg} {t : Expr} {scope : Scope} (h2 : ckTg N (locB scope) tg t = true) (s : Shared) (H : Hp) (C : Addr) (cl : List (Str × Addr)) (fp : List Addr) : PG (X.blk s H scope (compEnvC scope cl C X.env) fp) t (tTg T tg) := by
  refine tg_ok (X' := X.blk s H scope (compEnvC scope cl C X.env) fp) (ok := locB scope) cx.md.hK (cx.cold rfl).1 cx.hN cx.nd (fun y hy => ?_) h2
  have hr : (X.blk s H scope (compEnvC scope cl C X.env) fp).env.scope = relS scope sc := (cx.blk scope s H C cl fp).hsc
  rcases loc_of hy with q | q
  · have e := rel_lookup (sc := sc) (by decide) q
    rw [← hr] at e
    exact ⟨.inl e, .inr e⟩
  · have e := rel_lookup (sc := sc) (by decide) q
    rw [← hr] at e
    refine ⟨.inr e, .inl ?_⟩
    show (scope.names.lookup y == some .cell) = true
    rw [q]
    rfl
theorem blk_ifs {cnd : C} (oc : OkC Γ T G N lv cnd) {sc : Scope} {X : Cx} {W : WX} {Ξ : Xi} (cx : Cxt Γ T G false N sc lv X W Ξ) {ifs : List Expr} {scope : Scope} (h5 : (match (generalizing := false) ifs with | [] => isNil cnd | [y] => ckT Γ N false (relS scope sc) cnd y | _ => false) = true) (s : Shared) (H : Hp) (C : Addr) (cl : List (Str × Addr)) (fp : List Addr) : PTs (X.blk s H scope (compEnvC scope cl C X.env) fp) ifs (tEvT T W0 X0 (evT G cnd)) := by
  match ifs, h5 with
  | [], h5 =>
    cases cnd <;> first | (exact noT h5) | skip
    refine ⟨fun pins s σ H Q I hq => pts_nil.run pins s σ H Q I ?_⟩
    obtain ⟨δ, w, rfl, wd, en, xi, hq⟩ := hq
    exact hq w true rfl wd (Step.refl w) rfl
  | [y], h5 => exact pts_one (oc.t (cx.blk scope s H C cl fp) h5)
  | _ :: _ :: _, h5 => exact noT h5
theorem compPs2 {tg : Tg} {src cnd : C} {tg2 : Tg} {src2 cnd2 el : C} (os : OkC Γ T G N lv src) (oc : OkC Γ T G N lv cnd) (os2 : OkC Γ T G N lv src2) (oc2 : OkC Γ T G N lv cnd2) (oe : OkC Γ T G N lv el) {sc : Scope} {X : Cx} {W : WX} {Ξ : Xi} (cx : Cxt Γ T G false N sc lv X W Ξ) {x t it t2 it2 : Expr} {ifs ifs2 : List Expr} {scope : Scope}
    (h : (blkC N sc scope (ownOf N tg ++ ownOf N tg2) && ckTg N (locB scope) tg t && ckI Γ N false sc src it t && noSet it && (match (generalizing := false) ifs with | [] => isNil cnd | [y] => ckT Γ N false (relS scope sc) cnd y | _ => false) && ckTg N (locB scope) tg2 t2 && ckI Γ N false (relS scope sc) src2 it2 t2 && noSet it2 && (match (generalizing := false) ifs2 with | [] => isNil cnd2 | [y] => ckT Γ N false (relS scope sc) cnd2 y | _ => false) && ck Γ N false (relS scope sc) el x) = true) : CompPs2 Γ T G N X W Ξ tg src cnd tg2 src2 cnd2 el x t it t2 it2 ifs ifs2 scope := by
  obtain ⟨h, h10⟩ := and3 h
  obtain ⟨h, h9⟩ := and3 h
  obtain ⟨h, h8⟩ := and3 h
  obtain ⟨h, h7⟩ := and3 h
  obtain ⟨h, h6⟩ := and3 h
  obtain ⟨h, h5⟩ := and3 h
  obtain ⟨h, h4⟩ := and3 h
  obtain ⟨h, h3⟩ := and3 h
  obtain ⟨h1, h2⟩ := and3 h
  have hN := cx.hN
  have hsc := cx.hsc
  exact ⟨(cx.cold rfl).1, by rw [hN]; exact cx.nd, os.i cx h3, by rw [hN, hsc]; exact blkOk_by h1, blk_tg cx h2, blk_ifs oc cx h5, fun s H C cl fp => os2.i (cx.blk scope s H C cl fp) h7, blk_tg cx h6, blk_ifs oc2 cx h9, fun s H C cl fp => oe.e (cx.blk scope s H C cl fp) h10, fun y => fold_of h4 y, fun env y => fold_of h8 y⟩
theorem okC (Γ : Sy) (T : Tb) (G : Gv) (N : List Str) (lv : Nat) (c : C) : OkC Γ T G N lv c := by
  induction c with
  | var i =>
    refine ⟨?_, ?_, ?_, ?_, ?_, ?_, ?_, ?_⟩
    · intros; rename_i h; exact noT h
    · intros; rename_i h; exact noT h
    · intro hot sc X W Ξ cx e h
      cases e with
      | Name x p =>
        obtain ⟨h1, h3⟩ := and3 (show (decide (N[i]? = some x) && visB sc x && okNm x) = true from h)
        obtain ⟨h1, h2⟩ := and3 h1
        obtain ⟨n1, n2⟩ := nm_of h3
        exact ok_var (by rw [cx.hN]; exact of_decide_eq_true h1) (by rw [cx.hsc]; exact vis_of h2) n1 n2
      | _ => exact noT h
    · intros; rename_i h; exact noT h
    · intros; rename_i h; exact noT h
    · intros; rename_i h; exact noT h
    · intros; rename_i h; exact noT h
    · intros; rename_i h; exact noT h
  | con d =>
    refine ⟨?_, ?_, ?_, ?_, ?_, ?_, ?_, ?_⟩
    · intros; rename_i h; exact noT h
    · intros; rename_i h; exact noT h
    · intro hot sc X W Ξ cx e h
      cases e with
      | Constant k j p =>
        cases d <;> cases k <;> first | (exact noT h) | skip
        · exact ok_con pe_non fun _ => .non
        · cases of_decide_eq_true (show decide _ = true from h)
          exact ok_con pe_bl fun _ => .bl _
        · cases of_decide_eq_true (show decide _ = true from h)
          exact ok_con pe_int fun _ => .int _
        · cases of_decide_eq_true (show decide _ = true from h)
          exact ok_con pe_str fun _ => .str _
      | _ => exact noT h
    · intros; rename_i h; exact noT h
    · intros; rename_i h; exact noT h
    · intros; rename_i h; exact noT h
    · intros; rename_i h; exact noT h
    · intros; rename_i h; exact noT h
  | glob g =>
    refine ⟨?_, ?_, ?_, ?_, ?_, ?_, ?_, ?_⟩
    · intros; rename_i h; exact noT h
    · intros; rename_i h; exact noT h
    · intro hot sc X W Ξ cx e h
      cases e with
      | Name x p =>
        obtain ⟨h1, h3⟩ := and3 (show (decide (Γ.gn[g]? = some x) && glB sc x && okNm x) = true from h)
        obtain ⟨h1, h2⟩ := and3 h1
        obtain ⟨n1, n2⟩ := nm_of h3
        obtain ⟨v, u, hm, rv, rp⟩ := cx.md.gls g x (of_decide_eq_true h1)
        exact ok_glob (v := v) ⟨fun pins s σ H Q I q => ld_glob I (gl_of cx.hsc h2) hm ⟨v, H, I, rv, q⟩ n1⟩ rp
      | Attribute y f p =>
        cases y <;> first | (exact noT h) | skip
        rename_i x p2
        obtain ⟨h1, h3⟩ := and3 (show (decide (Γ.ga g = some (x, f)) && glB sc x && okNm x) = true from h)
        obtain ⟨h1, h2⟩ := and3 h1
        obtain ⟨n1, n2⟩ := nm_of h3
        obtain ⟨Ca, mc, v, u, hm, r, k, rp⟩ := cx.md.gas g x f (of_decide_eq_true h1)
        exact ok_cval (v := v) ⟨fun pins s σ H Q I q => ld_glob I (gl_of cx.hsc h2) hm ⟨.ref Ca, H, I, rfl, q⟩ n1⟩ r k rp
      | _ => exact noT h
    · intros; rename_i h; exact noT h
    · intros; rename_i h; exact noT h
    · intros; rename_i h; exact noT h
    · intros; rename_i h; exact noT h
    · intros; rename_i h; exact noT h
  | bin o a b iha ihb =>
    refine ⟨?_, ?_, ?_, ?_, ?_, ?_, ?_, ?_⟩
    · intros; rename_i h; exact noT h
    · intros; rename_i h; exact noT h
    · intro hot sc X W Ξ cx e h
      cases e with
      | BinOp l op r p =>
        obtain ⟨h1, h3⟩ := and3 (show (decide (op = opOf o) && ck Γ N hot sc a l && ck Γ N hot sc b r) = true from h)
        obtain ⟨h1, h2⟩ := and3 h1
        cases of_decide_eq_true h1
        exact ok_bin cx.md.hK cx.kp (iha.e cx h2) (ihb.e cx h3)
      | _ => exact noT h
    · intros; rename_i h; exact noT h
    · intros; rename_i h; exact noT h
    · intros; rename_i h; exact noT h
    · intros; rename_i h; exact noT h
    · intros; rename_i h; exact noT h
  | neg a iha =>
    refine ⟨?_, ?_, ?_, ?_, ?_, ?_, ?_, ?_⟩
    · intros; rename_i h; exact noT h
    · intros; rename_i h; exact noT h
    · intro hot sc X W Ξ cx e h
      cases e with
      | UnaryOp op x p =>
        cases op <;> first | (exact noT h) | skip
        exact ok_neg cx.kp (iha.e cx h)
      | _ => exact noT h
    · intros; rename_i h; exact noT h
    · intros; rename_i h; exact noT h
    · intros; rename_i h; exact noT h
    · intros; rename_i h; exact noT h
    · intros; rename_i h; exact noT h
  | not a iha =>
    refine ⟨?_, ?_, ?_, ?_, ?_, ?_, ?_, ?_⟩
    · intros; rename_i h; exact noT h
    · intros; rename_i h; exact noT h
    · intro hot sc X W Ξ cx e h
      cases e with
      | UnaryOp op x p =>
        cases op <;> first | (exact noT h) | skip
        exact ok_not cx.md.hK cx.kp (iha.e cx h)
      | _ => exact noT h
    · intros; rename_i h; exact noT h
    · intros; rename_i h; exact noT h
    · intro hot sc X W Ξ cx e h
      cases e with
      | UnaryOp op x p =>
        cases op <;> first | (exact noT h) | skip
        exact ok_tnot cx.kp (iha.t cx h)
      | _ => exact noT h
    · intros; rename_i h; exact noT h
    · intros; rename_i h; exact noT h
  | and a b iha ihb =>
    have w : ∀ {hot sc X W Ξ}, Cxt Γ T G hot N sc lv X W Ξ → ∀ {op : BoolOp} {xs : List Expr} {p : Pos}, ckT Γ N hot sc (.and a b) (.BoolOp op xs p) = true → PW X (.BoolOp op xs p) (tEvT T W Ξ (evT G (.and a b))) := by
      intro hot sc X W Ξ cx op xs p h
      cases op with
      | Or => exact noT h
      | And =>
        match xs, h with
        | [], h => exact noT h
        | [_], h => exact noT h
        | [x, y], h =>
          obtain ⟨h1, h2⟩ := and3 (show (ckT Γ N hot sc a x && ckT Γ N hot sc b y) = true from h)
          exact ok_tand cx.kp (iha.t cx h1) (pw_and1 (ihb.t cx h2))
        | x :: y :: z :: r, h =>
          obtain ⟨h1, h2⟩ := and3 (show (ckT Γ N hot sc a x && ckT Γ N hot sc b (.BoolOp .And (y :: z :: r) p)) = true from h)
          exact ok_tand cx.kp (iha.t cx h1) (ihb.w cx h2)
    refine ⟨?_, ?_, ?_, ?_, ?_, ?_, w, ?_⟩
    · intros; rename_i h; exact noT h
    · intros; rename_i h; exact noT h
    · intro hot sc X W Ξ cx e h
      cases e with
      | BoolOp op xs p =>
        cases op with
        | Or => exact noT h
        | And =>
          match xs, h with
          | [], h => exact noT h
          | [_], h => exact noT h
          | [x, y], h =>
            obtain ⟨h1, h2⟩ := and3 (show (ck Γ N hot sc a x && ck Γ N hot sc b y) = true from h)
            exact ok_and cx.md.hK cx.kp (iha.e cx h1) (pe_one (ihb.e cx h2))
          | x :: y :: z :: r, h =>
            obtain ⟨h1, h2⟩ := and3 (show (ck Γ N hot sc a x && ck Γ N hot sc b (.BoolOp .And (y :: z :: r) p)) = true from h)
            exact ok_and cx.md.hK cx.kp (iha.e cx h1) (ihb.e cx h2)
      | _ => exact noT h
    · intros; rename_i h; exact noT h
    · intros; rename_i h; exact noT h
    · intro hot sc X W Ξ cx e h
      cases e with
      | BoolOp op xs p => exact (w cx h).pt
      | _ => exact noT h
    · intros; rename_i h; exact noT h
  | or a b iha ihb =>
    have w : ∀ {hot sc X W Ξ}, Cxt Γ T G hot N sc lv X W Ξ → ∀ {op : BoolOp} {xs : List Expr} {p : Pos}, ckT Γ N hot sc (.or a b) (.BoolOp op xs p) = true → PW X (.BoolOp op xs p) (tEvT T W Ξ (evT G (.or a b))) := by
      intro hot sc X W Ξ cx op xs p h
      cases op with
      | And => exact noT h
      | Or =>
        match xs, h with
        | [], h => exact noT h
        | [_], h => exact noT h
        | [x, y], h =>
          obtain ⟨h1, h2⟩ := and3 (show (ckT Γ N hot sc a x && ckT Γ N hot sc b y) = true from h)
          exact ok_tor cx.kp (iha.t cx h1) (pw_or1 (ihb.t cx h2))
        | x :: y :: z :: r, h =>
          obtain ⟨h1, h2⟩ := and3 (show (ckT Γ N hot sc a x && ckT Γ N hot sc b (.BoolOp .Or (y :: z :: r) p)) = true from h)
          exact ok_tor cx.kp (iha.t cx h1) (ihb.w cx h2)
    refine ⟨?_, ?_, ?_, ?_, ?_, ?_, w, ?_⟩
    · intros; rename_i h; exact noT h
    · intros; rename_i h; exact noT h
    · intro hot sc X W Ξ cx e h
      cases e with
      | BoolOp op xs p =>
        cases op with
        | And => exact noT h
        | Or =>
          match xs, h with
          | [], h => exact noT h
          | [_], h => exact noT h
          | [x, y], h =>
            obtain ⟨h1, h2⟩ := and3 (show (ck Γ N hot sc a x && ck Γ N hot sc b y) = true from h)
            exact ok_or cx.md.hK cx.kp (iha.e cx h1) (pe_one (ihb.e cx h2))
          | x :: y :: z :: r, h =>
            obtain ⟨h1, h2⟩ := and3 (show (ck Γ N hot sc a x && ck Γ N hot sc b (.BoolOp .Or (y :: z :: r) p)) = true from h)
            exact ok_or cx.md.hK cx.kp (iha.e cx h1) (ihb.e cx h2)
      | _ => exact noT h
    · intros; rename_i h; exact noT h
    · intros; rename_i h; exact noT h
    · intro hot sc X W Ξ cx e h
      cases e with
      | BoolOp op xs p => exact (w cx h).pt
      | _ => exact noT h
    · intros; rename_i h; exact noT h
  | ite c a b ihc iha ihb =>
    refine ⟨?_, ?_, ?_, ?_, ?_, ?_, ?_, ?_⟩
    · intros; rename_i h; exact noT h
    · intros; rename_i h; exact noT h
    · intro hot sc X W Ξ cx e h
      cases e with
      | IfExp t x y p =>
        obtain ⟨h1, h3⟩ := and3 (show (ckT Γ N hot sc c t && ck Γ N hot sc a x && ck Γ N hot sc b y) = true from h)
        obtain ⟨h1, h2⟩ := and3 h1
        exact ok_ite cx.kp (ihc.t cx h1) (iha.e cx h2) (ihb.e cx h3)
      | _ => exact noT h
    · intros; rename_i h; exact noT h
    · intros; rename_i h; exact noT h
    · intros; rename_i h; exact noT h
    · intros; rename_i h; exact noT h
    · intros; rename_i h; exact noT h
  | cmp o a b iha ihb =>
    refine ⟨?_, ?_, ?_, ?_, ?_, ?_, ?_, ?_⟩
    · intros; rename_i h; exact noT h
    · intros; rename_i h; exact noT h
    · intro hot sc X W Ξ cx e h
      cases e with
      | Compare x ops ys p =>
        match ops, ys, h with
        | [op], [y], h =>
          obtain ⟨h1, h4⟩ := and3 (show (decide (op = cmpOf o) && ck Γ N hot sc a x && ck Γ N hot sc b y && noSet y) = true from h)
          obtain ⟨h1, h3⟩ := and3 h1
          obtain ⟨h1, h2⟩ := and3 h1
          cases of_decide_eq_true h1
          exact ok_cmp cx.md.hK cx.un cx.kp (iha.e cx h2) (ihb.e cx h3) (mark_of h4)
        | [], _, h => exact noT h
        | [_], [], h => exact noT h
        | [_], _ :: _ :: _, h => exact noT h
        | _ :: _ :: _, _, h => exact noT h
      | _ => exact noT h
    · intros; rename_i h; exact noT h
    · intros; rename_i h; exact noT h
    · intros; rename_i h; exact noT h
    · intros; rename_i h; exact noT h
    · intros; rename_i h; exact noT h
  | chain o p a b c iha ihb ihc =>
    refine ⟨?_, ?_, ?_, ?_, ?_, ?_, ?_, ?_⟩
    · intros; rename_i h; exact noT h
    · intros; rename_i h; exact noT h
    · intro hot sc X W Ξ cx e h
      cases e with
      | Compare x ops ys pp =>
        match ops, ys, h with
        | [o1, o2], [y, z], h =>
          obtain ⟨h1, h6⟩ := and3 (show (decide (o1 = cmpOf o) && decide (o2 = cmpOf p) && ck Γ N hot sc a x && ck Γ N hot sc b y && ck Γ N hot sc c z && noSet z) = true from h)
          obtain ⟨h1, h5⟩ := and3 h1
          obtain ⟨h1, h4⟩ := and3 h1
          obtain ⟨h1, h3⟩ := and3 h1
          obtain ⟨h1, h2⟩ := and3 h1
          cases of_decide_eq_true h1
          cases of_decide_eq_true h2
          exact ok_chain cx.md.hK cx.un cx.kp (iha.e cx h3) (ihb.e cx h4) (ihc.e cx h5) (lastM h6)
        | [], _, h => exact noT h
        | [_], _, h => exact noT h
        | [_, _], [], h => exact noT h
        | [_, _], [_], h => exact noT h
        | [_, _], _ :: _ :: _ :: _, h => exact noT h
        | _ :: _ :: _ :: _, _, h => exact noT h
      | _ => exact noT h
    · intros; rename_i h; exact noT h
    · intros; rename_i h; exact noT h
    · intros; rename_i h; exact noT h
    · intros; rename_i h; exact noT h
    · intros; rename_i h; exact noT h
  | nil =>
    refine ⟨?_, ?_, ?_, ?_, ?_, ?_, ?_, ?_⟩
    · intro hot sc X W Ξ cx kws ks h
      cases kws with
      | nil => exact ok_knil
      | cons _ _ => exact noT h
    · intros; rename_i h; exact noT h
    · intros; rename_i h; exact noT h
    · intro hot sc X W Ξ cx es h
      cases es with
      | nil => exact ok_nil
      | cons _ _ => exact noT h
    · intro hot sc X W Ξ cx e h
      cases e with
      | none => exact ok_onone
      | some _ => exact noT h
    · intros; rename_i h; exact noT h
    · intros; rename_i h; exact noT h
    · intros; rename_i h; exact noT h
  | cons a b iha ihb =>
    refine ⟨?_, ?_, ?_, ?_, ?_, ?_, ?_, ?_⟩
    · intro hot sc X W Ξ cx kws ks h
      cases kws with
      | nil => exact noT h
      | cons kw kws =>
        obtain ⟨n, e, q⟩ := kw
        cases n with
        | none => exact noT h
        | some n =>
          cases ks with
          | nil => exact noT h
          | cons k ks =>
            obtain ⟨h1, h4⟩ := and3 (show (!isStar a && decide (n = k) && ck Γ N hot sc a e && ckK Γ N hot sc b kws ks) = true from h)
            obtain ⟨h1, h3⟩ := and3 h1
            obtain ⟨h1, h2⟩ := and3 h1
            exact ok_kcons cx.kp (iha.e cx h3) (ihb.k cx h4) (by simpa using h1)
    · intro hot sc X W Ξ cx y h
      cases a <;> first | (exact noT h) | skip
      exact iha.p cx h
    · intros; rename_i h; exact noT h
    · intro hot sc X W Ξ cx es h
      cases es with
      | nil => exact (cks_nil h).elim
      | cons x xs =>
        rcases star_inv h with ⟨a', y, p, rfl, rfl, h1, h2⟩ | ⟨h0, h1, h3, h2⟩
        · exact ok_star cx.md.hK cx.kp (iha.p cx h1) (ihb.s cx h2)
        · exact ok_cons cx.kp (iha.e cx h1) (ihb.s cx h2) h3 h0
    · intro hot sc X W Ξ cx e h
      cases e with
      | none => exact noT h
      | some x => exact ok_osome cx.kp (iha.e cx h)
    · intros; rename_i h; exact noT h
    · intros; rename_i h; exact noT h
    · intros; rename_i h; exact noT h
  | star a iha =>
    refine ⟨?_, ?_, ?_, ?_, ?_, ?_, ?_, ?_⟩
    · intros; rename_i h; exact noT h
    · intro hot sc X W Ξ cx y h
      exact iha.e cx h
    · intros; rename_i h; exact noT h
    · intros; rename_i h; exact noT h
    · intros; rename_i h; exact noT h
    · intros; rename_i h; exact noT h
    · intros; rename_i h; exact noT h
    · intros; rename_i h; exact noT h
  | tup es ih =>
    refine ⟨?_, ?_, ?_, ?_, ?_, ?_, ?_, ?_⟩
    · intros; rename_i h; exact noT h
    · intros; rename_i h; exact noT h
    · intro hot sc X W Ξ cx e h
      cases e with
      | Tuple xs k p => exact ok_tup cx.kp (ih.s cx h)
      | _ => exact noT h
    · intros; rename_i h; exact noT h
    · intros; rename_i h; exact noT h
    · intros; rename_i h; exact noT h
    · intros; rename_i h; exact noT h
    · intros; rename_i h; exact noT h
  | lst m es ih =>
    refine ⟨?_, ?_, ?_, ?_, ?_, ?_, ?_, ?_⟩
    · intros; rename_i h; exact noT h
    · intros; rename_i h; exact noT h
    · intro hot sc X W Ξ cx e h
      cases e with
      | List xs p => exact ok_lst cx.kp (ih.s cx h)
      | _ => exact noT h
    · intros; rename_i h; exact noT h
    · intros; rename_i h; exact noT h
    · intros; rename_i h; exact noT h
    · intros; rename_i h; exact noT h
    · intros; rename_i h; exact noT h
  | mkx k a iha =>
    refine ⟨?_, ?_, ?_, ?_, ?_, ?_, ?_, ?_⟩
    · intros; rename_i h; exact noT h
    · intros; rename_i h; exact noT h
    · intro hot sc X W Ξ cx e h
      replace h : (match (generalizing := false) callP e with | some (x, ys) => (match (generalizing := false) oneP ys with | some y => !hot && decide (Γ.cn[k]? = some x) && decide (Γ.mkb[k]? = some true) && glB sc x && okNm x && ck Γ N hot sc a y && plainE y | none => false) | none => false) = true := h
      cases he0 : callP e with
      | none => rw [he0] at h; exact noT h
      | some q_ =>
      obtain ⟨x, ys⟩ := q_
      rw [he0] at h
      obtain ⟨p0, q0, rfl⟩ := inv_call he0
      replace h : (match (generalizing := false) oneP ys with | some y => !hot && decide (Γ.cn[k]? = some x) && decide (Γ.mkb[k]? = some true) && glB sc x && okNm x && ck Γ N hot sc a y && plainE y | none => false) = true := h
      cases he1 : oneP ys with
      | none => rw [he1] at h; exact noT h
      | some q_ =>
      let y := q_
      rw [he1] at h
      obtain rfl := inv_one he1
      have h1 : (!hot && decide (Γ.cn[k]? = some x) && decide (Γ.mkb[k]? = some true) && glB sc x && okNm x && ck Γ N hot sc a y && plainE y) = true := h
      obtain ⟨h1, h7⟩ := and3 h1
      obtain ⟨h1, h6⟩ := and3 h1
      obtain ⟨h1, h5⟩ := and3 h1
      obtain ⟨h1, h4⟩ := and3 h1
      obtain ⟨h1, h3⟩ := and3 h1
      obtain ⟨h1, h2⟩ := and3 h1
      have hh : hot = false := by simpa using h1
      subst hh
      exact ok_mkx cx (of_decide_eq_true h2) (of_decide_eq_true h3) h4 h5 (iha.e cx h6) h7
    · intros; rename_i h; exact noT h
    · intros; rename_i h; exact noT h
    · intros; rename_i h; exact noT h
    · intros; rename_i h; exact noT h
    · intros; rename_i h; exact noT h
  | mkxk k a iha =>
    refine ⟨?_, ?_, ?_, ?_, ?_, ?_, ?_, ?_⟩ <;> (intros; rename_i h; exact noT h)
  | isx a j iha =>
    refine ⟨?_, ?_, ?_, ?_, ?_, ?_, ?_, ?_⟩
    · intros; rename_i h; exact noT h
    · intros; rename_i h; exact noT h
    · intro hot sc X W Ξ cx e h
      replace h : (match (generalizing := false) callP e with | some (x, ys) => (match (generalizing := false) pairP ys with | some (y, z) => (match (generalizing := false) nameP z with | some n => !hot && decide (x = "isinstance") && decide (Γ.tn[j]? = some n) && glB sc x && glB sc n && okNm n && ck Γ N hot sc a y && plainE y | none => false) | none => false) | none => false) = true := h
      cases he0 : callP e with
      | none => rw [he0] at h; exact noT h
      | some q_ =>
      obtain ⟨x, ys⟩ := q_
      rw [he0] at h
      obtain ⟨p0, q0, rfl⟩ := inv_call he0
      replace h : (match (generalizing := false) pairP ys with | some (y, z) => (match (generalizing := false) nameP z with | some n => !hot && decide (x = "isinstance") && decide (Γ.tn[j]? = some n) && glB sc x && glB sc n && okNm n && ck Γ N hot sc a y && plainE y | none => false) | none => false) = true := h
      cases he1 : pairP ys with
      | none => rw [he1] at h; exact noT h
      | some q_ =>
      obtain ⟨y, z⟩ := q_
      rw [he1] at h
      obtain rfl := inv_pair he1
      replace h : (match (generalizing := false) nameP z with | some n => !hot && decide (x = "isinstance") && decide (Γ.tn[j]? = some n) && glB sc x && glB sc n && okNm n && ck Γ N hot sc a y && plainE y | none => false) = true := h
      cases he2 : nameP z with
      | none => rw [he2] at h; exact noT h
      | some q_ =>
      let n := q_
      rw [he2] at h
      obtain ⟨p2, rfl⟩ := inv_name he2
      have h1 : (!hot && decide (x = "isinstance") && decide (Γ.tn[j]? = some n) && glB sc x && glB sc n && okNm n && ck Γ N hot sc a y && plainE y) = true := h
      obtain ⟨h1, h8⟩ := and3 h1
      obtain ⟨h1, h7⟩ := and3 h1
      obtain ⟨h1, h6⟩ := and3 h1
      obtain ⟨h1, h5⟩ := and3 h1
      obtain ⟨h1, h4⟩ := and3 h1
      obtain ⟨h1, h3⟩ := and3 h1
      obtain ⟨h1, h2⟩ := and3 h1
      have hh : hot = false := by simpa using h1
      subst hh
      exact ok_isx cx (of_decide_eq_true h2) (of_decide_eq_true h3) h4 h5 h6 (iha.e cx h7) h8
    · intros; rename_i h; exact noT h
    · intros; rename_i h; exact noT h
    · intros; rename_i h; exact noT h
    · intros; rename_i h; exact noT h
    · intros; rename_i h; exact noT h
  | isxt a js iha =>
    refine ⟨?_, ?_, ?_, ?_, ?_, ?_, ?_, ?_⟩
    · intros; rename_i h; exact noT h
    · intros; rename_i h; exact noT h
    · intro hot sc X W Ξ cx e h
      replace h : (match (generalizing := false) callP e with | some (x, ys) => (match (generalizing := false) pairP ys with | some (y, z) => (match (generalizing := false) tupP z with | some zs => !hot && decide (x = "isinstance") && decide (js.length ≤ 100) && ckTn Γ sc js zs && glB sc x && ck Γ N hot sc a y && plainE y | none => false) | none => false) | none => false) = true := h
      cases he0 : callP e with
      | none => rw [he0] at h; exact noT h
      | some q_ =>
      obtain ⟨x, ys⟩ := q_
      rw [he0] at h
      obtain ⟨p0, q0, rfl⟩ := inv_call he0
      replace h : (match (generalizing := false) pairP ys with | some (y, z) => (match (generalizing := false) tupP z with | some zs => !hot && decide (x = "isinstance") && decide (js.length ≤ 100) && ckTn Γ sc js zs && glB sc x && ck Γ N hot sc a y && plainE y | none => false) | none => false) = true := h
      cases he1 : pairP ys with
      | none => rw [he1] at h; exact noT h
      | some q_ =>
      obtain ⟨y, z⟩ := q_
      rw [he1] at h
      obtain rfl := inv_pair he1
      replace h : (match (generalizing := false) tupP z with | some zs => !hot && decide (x = "isinstance") && decide (js.length ≤ 100) && ckTn Γ sc js zs && glB sc x && ck Γ N hot sc a y && plainE y | none => false) = true := h
      cases he2 : tupP z with
      | none => rw [he2] at h; exact noT h
      | some q_ =>
      let zs := q_
      rw [he2] at h
      obtain ⟨i2, p2, rfl⟩ := inv_tupP he2
      have h1 : (!hot && decide (x = "isinstance") && decide (js.length ≤ 100) && ckTn Γ sc js zs && glB sc x && ck Γ N hot sc a y && plainE y) = true := h
      obtain ⟨h1, h7⟩ := and3 h1
      obtain ⟨h1, h6⟩ := and3 h1
      obtain ⟨h1, h5⟩ := and3 h1
      obtain ⟨h1, h4⟩ := and3 h1
      obtain ⟨h1, h3⟩ := and3 h1
      obtain ⟨h1, h2⟩ := and3 h1
      have hh : hot = false := by simpa using h1
      subst hh
      exact ok_isxt cx (of_decide_eq_true h2) (of_decide_eq_true h3) h4 h5 (iha.e cx h6) h7
    · intros; rename_i h; exact noT h
    · intros; rename_i h; exact noT h
    · intros; rename_i h; exact noT h
    · intros; rename_i h; exact noT h
    · intros; rename_i h; exact noT h
  | eqo m neg a b iha ihb =>
    refine ⟨?_, ?_, ?_, ?_, ?_, ?_, ?_, ?_⟩ <;> (intros; rename_i h; exact noT h)
  | dct1 m k v ihk ihv =>
    refine ⟨?_, ?_, ?_, ?_, ?_, ?_, ?_, ?_⟩
    · intros; rename_i h; exact noT h
    · intros; rename_i h; exact noT h
    · intro hot sc X W Ξ cx e h
      cases e <;> first | (exact noT h) | skip
      rename_i as bs p
      rcases as with _ | ⟨_ | a, _ | ⟨_, _⟩⟩ <;> first | (exact noT h) | skip
      rcases bs with _ | ⟨b, _ | ⟨_, _⟩⟩ <;> first | (exact noT h) | skip
      obtain ⟨h1, h2⟩ := and3 (show (ck Γ N hot sc k a && ck Γ N hot sc v b) = true from h)
      exact ok_dctS cx.kp (ihk.e cx h1) (ihv.e cx h2)
    · intros; rename_i h; exact noT h
    · intros; rename_i h; exact noT h
    · intros; rename_i h; exact noT h
    · intros; rename_i h; exact noT h
    · intros; rename_i h; exact noT h
  | popl a iha =>
    refine ⟨?_, ?_, ?_, ?_, ?_, ?_, ?_, ?_⟩
    · intros; rename_i h; exact noT h
    · intros; rename_i h; exact noT h
    · intro hot sc X W Ξ cx e h
      replace h : (match (generalizing := false) mcallP e with | some (x, n, ys, l) => decide (n = "pop") && ys.isEmpty && ck Γ N hot sc a x && isName x && l | none => false) = true := h
      cases he : mcallP e with
      | none => rw [he] at h; exact noT h
      | some q_ =>
      obtain ⟨x, n, ys, l⟩ := q_
      rw [he] at h
      obtain ⟨ap, q, rfl, hl⟩ := inv_mcall he
      obtain ⟨h1, h5⟩ := and3 (show (decide (n = "pop") && ys.isEmpty && ck Γ N hot sc a x && isName x && l) = true from h)
      obtain ⟨h1, h4⟩ := and3 h1
      obtain ⟨h1, h3⟩ := and3 h1
      obtain ⟨h1, h2⟩ := and3 h1
      cases of_decide_eq_true h1
      cases ys with
      | cons _ _ => exact noT h2
      | nil =>
      cases x <;> first | (exact noT h4) | skip
      exact ok_popl cx.kp (iha.e cx h3) rfl (hl.symm.trans h5)
    · intros; rename_i h; exact noT h
    · intros; rename_i h; exact noT h
    · intros; rename_i h; exact noT h
    · intros; rename_i h; exact noT h
    · intros; rename_i h; exact noT h
  | dct m ks vs _ _ =>
    refine ⟨?_, ?_, ?_, ?_, ?_, ?_, ?_, ?_⟩
    · intros; rename_i h; exact noT h
    · intros; rename_i h; exact noT h
    · intro hot sc X W Ξ cx e h
      cases e <;> first | (exact noT h) | skip
      rename_i a b p
      cases a with
      | cons _ _ => exact noT h
      | nil =>
      cases b with
      | cons _ _ => exact noT h
      | nil =>
      obtain ⟨h2, h3⟩ := and3 (show (isNil ks && isNil vs) = true from h)
      cases ks <;> first | (exact noT h2) | skip
      cases vs <;> first | (exact noT h3) | skip
      cases m with
      | true => exact ok_dct1
      | false => exact ok_dct0
    · intros; rename_i h; exact noT h
    · intros; rename_i h; exact noT h
    · intros; rename_i h; exact noT h
    · intros; rename_i h; exact noT h
    · intros; rename_i h; exact noT h
  | rev m a iha =>
    refine ⟨?_, ?_, ?_, ?_, ?_, ?_, ?_, ?_⟩
    · intros; rename_i h; exact noT h
    · intros; rename_i h; exact noT h
    · intro hot sc X W Ξ cx e h
      match e, h with
      | .Subscript x (.Slice none none (some (.UnaryOp .USub (.Constant (.int 1) k p1) p2)) p3) p, h => exact ok_rev cx.md.hK cx.kp (iha.e cx h)
    · intros; rename_i h; exact noT h
    · intros; rename_i h; exact noT h
    · intros; rename_i h; exact noT h
    · intros; rename_i h; exact noT h
    · intros; rename_i h; exact noT h
  | call f es ih =>
    refine ⟨?_, ?_, ?_, ?_, ?_, ?_, ?_, ?_⟩
    · intros; rename_i h; exact noT h
    · intros; rename_i h; exact noT h
    · intro hot sc X W Ξ cx e h
      match e, h with
      | .Call (.Name x p) xs [] pos, h =>
        obtain ⟨h1, h6⟩ := and3 (show (!hot && decide (Γ.fn[f]? = some x) && glB sc x && okNm x && cks Γ N hot sc es xs && firstOk xs) = true from h)
        obtain ⟨h1, h5⟩ := and3 h1
        obtain ⟨h1, h4⟩ := and3 h1
        obtain ⟨h1, h3⟩ := and3 h1
        obtain ⟨h1, h2⟩ := and3 h1
        obtain ⟨hc, hr⟩ := cx.cold (by simpa using h1)
        obtain ⟨fa, hm, hk, F⟩ := cx.md.fns f x (of_decide_eq_true h2)
        cases xs with
        | nil =>
          cases es <;> first | (exact noT h5) | (exact (cks_nil h5).elim) | skip
          exact ok_call0 F (hr.mono (Nat.le_succ _)) cx.gd (gl_of cx.hsc h3) hm hk cx.tk (nm_of h4).1
        | cons y ys =>
          by_cases hs : plainE y = true
          · exact ok_call cx.kp F (hr.mono (Nat.le_succ _)) cx.gd (gl_of cx.hsc h3) hm hk cx.tk (ih.s cx h5) hs (nm_of h4).1
          · obtain ⟨z, p2, rfl⟩ : ∃ z p2, y = .Starred z p2 := by
              cases y <;> first | (exact absurd rfl hs) | exact ⟨_, _, rfl⟩
            cases ys with
            | cons e2 ys => exact ok_call2 cx.kp F (hr.mono (Nat.le_succ _)) cx.gd (gl_of cx.hsc h3) hm hk cx.tk (ih.s cx h5) (nm_of h4).1 rfl
            | nil =>
            obtain ⟨ea, eb, rfl⟩ : ∃ ea eb, es = .cons ea eb := by
              cases es <;> first | (exact noT h5) | (exact ⟨_, _, rfl⟩)
            rcases star_inv h5 with ⟨a', y, p9, rfl, ee, g1, g2⟩ | ⟨_, _, g3, _⟩
            · cases ee
              cases eb <;> first | (exact noT g2) | (exact (cks_nil g2).elim) | skip
              exact ok_callS cx.md.hK cx.kp F (hr.mono (Nat.le_succ _)) cx.gd (gl_of cx.hsc h3) hm hk cx.tk (ih.p cx g1) (nm_of h4).1
            · exact absurd g3 hs
    · intros; rename_i h; exact noT h
    · intros; rename_i h; exact noT h
    · intros; rename_i h; exact noT h
    · intros; rename_i h; exact noT h
    · intros; rename_i h; exact noT h
  | callk s es vs ih ihv =>
    refine ⟨?_, ?_, ?_, ?_, ?_, ?_, ?_, ?_⟩
    · intros; rename_i h; exact noT h
    · intros; rename_i h; exact noT h
    · intro hot sc X W Ξ cx e h
      obtain ⟨x, p, y, ys, kws, pos, rfl⟩ : ∃ x p y ys kws pos, e = .Call (.Name x p) (y :: ys) kws pos := by
        match e, h with
        | .Call (.Name x p) (y :: ys) kws pos, _ => exact ⟨x, p, y, ys, kws, pos, rfl⟩
      have h' : (match (generalizing := false) Γ.sh[s]? with
        | some (x', ks) => !hot && decide (x = x') && glB sc x && okNm x && cks Γ N hot sc es (y :: ys) && (y :: ys).all plainE && ckK Γ N hot sc vs kws ks
        | none => false) = true := h
      cases hsh : Γ.sh[s]? with
      | none => rw [hsh] at h'; exact noT h'
      | some q =>
        obtain ⟨x', ks⟩ := q
        rw [hsh] at h'
        obtain ⟨h1, h7⟩ := and3 (show (!hot && decide (x = x') && glB sc x && okNm x && cks Γ N hot sc es (y :: ys) && (y :: ys).all plainE && ckK Γ N hot sc vs kws ks) = true from h')
        obtain ⟨h1, h6⟩ := and3 h1
        obtain ⟨h1, h5⟩ := and3 h1
        obtain ⟨h1, h4⟩ := and3 h1
        obtain ⟨h1, h3⟩ := and3 h1
        obtain ⟨hh, h2⟩ := and3 h1
        cases of_decide_eq_true h2
        obtain ⟨hc, hr⟩ := cx.cold (by simpa using hh)
        obtain ⟨fa, hm, hk, F⟩ := cx.md.fks s x ks hsh
        obtain ⟨n1, n2, n3⟩ := kw_names h7 X.env pos
        have pl : (backTo pos (starEach (y :: ys) X.env)).any (·.1) = false := by
          have npl : ∀ l : List Expr, l.all plainE = true → (backTo pos (starEach l X.env)).any (·.1) = false := by
            intro l
            induction l with
            | nil => intro _; rfl
            | cons z l ih =>
              intro hl
              rw [List.all_cons, Bool.and_eq_true] at hl
              rw [star_plain hl.1]
              show (false || (backTo pos (starEach l X.env)).any (·.1)) = false
              rw [ih hl.2]
              rfl
          exact npl _ h6
        have hpy : plainE y = true := by
          rw [List.all_cons, Bool.and_eq_true] at h6
          exact h6.1
        exact ok_callK cx.kp F (hr.mono (Nat.le_succ _)) cx.gd (gl_of cx.hsc h3) hm hk cx.tk (ih.s cx h5) (ihv.k cx h7) hpy (nm_of h4).1 n1 n2 (by rw [pl, n3]; rfl)
    · intros; rename_i h; exact noT h
    · intros; rename_i h; exact noT h
    · intros; rename_i h; exact noT h
    · intros; rename_i h; exact noT h
    · intros; rename_i h; exact noT h
  | bi b es ih =>
    refine ⟨?_, ?_, ?_, ?_, ?_, ?_, ?_, ?_⟩
    · intros; rename_i h; exact noT h
    · intros; rename_i h; exact noT h
    · intro hot sc X W Ξ cx e h
      match e, h with
      | .Call (.Name x p) (y :: ys) [] pos, h =>
        obtain ⟨h1, h5⟩ := and3 (show ((!hot || biHot b) && decide (x = biName b) && glB sc x && cks Γ N hot sc es (y :: ys) && (y :: ys).all plainE) = true from h)
        obtain ⟨h1, h4⟩ := and3 h1
        obtain ⟨h1, h3⟩ := and3 h1
        obtain ⟨h1, h2⟩ := and3 h1
        exact ok_bi (t := fun t => tCB (rBi T b) t) cx.kp (fun t ha => bi_call cx h1 (of_decide_eq_true h2) h3 h5 t ha) (ih.s cx h4)
    · intros; rename_i h; exact noT h
    · intros; rename_i h; exact noT h
    · intros; rename_i h; exact noT h
    · intros; rename_i h; exact noT h
    · intros; rename_i h; exact noT h
  | isi a t ih =>
    refine ⟨?_, ?_, ?_, ?_, ?_, ?_, ?_, ?_⟩
    · intros; rename_i h; exact noT h
    · intros; rename_i h; exact noT h
    · intro hot sc X W Ξ cx e h
      match e, h with
      | .Call (.Name x p) [y, .Name n p3] [] pos, h =>
        obtain ⟨h1, h7⟩ := and3 (show (decide (x = "isinstance") && decide (n = tyN t) && !isOwn t && glB sc x && glB sc n && ck Γ N hot sc a y && plainE y) = true from h)
        obtain ⟨h1, h6⟩ := and3 h1
        obtain ⟨h1, h5⟩ := and3 h1
        obtain ⟨h1, h4⟩ := and3 h1
        obtain ⟨h1, h3⟩ := and3 h1
        obtain ⟨h1, h2⟩ := and3 h1
        cases of_decide_eq_true h1
        cases of_decide_eq_true h2
        obtain ⟨b1, b2, b3, b4, b5⟩ := boot_ty (t := t) (by simpa using h3)
        exact ok_isi cx.md.hK cx.kp (gl_of cx.hsc h4) (cx.md.blt _ (by decide +kernel)) (gl_of cx.hsc h5) (cx.md.blt _ b4) b1 b2 b3 b5 (ih.e cx h6) h7
    · intros; rename_i h; exact noT h
    · intros; rename_i h; exact noT h
    · intros; rename_i h; exact noT h
    · intros; rename_i h; exact noT h
    · intros; rename_i h; exact noT h
  | idx a i iha ihi =>
    refine ⟨?_, ?_, ?_, ?_, ?_, ?_, ?_, ?_⟩
    · intros; rename_i h; exact noT h
    · intros; rename_i h; exact noT h
    · intro hot sc X W Ξ cx e h
      cases e with
      | Subscript x y p =>
        obtain ⟨h1, h3⟩ := and3 (show (!isSlice y && ck Γ N hot sc a x && ck Γ N hot sc i y) = true from by cases y <;> first | exact h | exact noT h)
        obtain ⟨h1, h2⟩ := and3 h1
        exact ok_idx cx.md.hK cx.un cx.kp (iha.e cx h2) (ihi.e cx h3) (ix_of (by simpa using h1))
      | _ => exact noT h
    · intros; rename_i h; exact noT h
    · intros; rename_i h; exact noT h
    · intros; rename_i h; exact noT h
    · intros; rename_i h; exact noT h
    · intros; rename_i h; exact noT h
  | sl m a lo hi iha ihl ihh =>
    refine ⟨?_, ?_, ?_, ?_, ?_, ?_, ?_, ?_⟩
    · intros; rename_i h; exact noT h
    · intros; rename_i h; exact noT h
    · intro hot sc X W Ξ cx e h
      match e, h with
      | .Subscript x (.Slice l hh none p2) p, h =>
        obtain ⟨h1, h3⟩ := and3 (show (ck Γ N hot sc a x && ckO Γ N hot sc lo l && ckO Γ N hot sc hi hh) = true from h)
        obtain ⟨h1, h2⟩ := and3 h1
        exact ok_sl cx.md.hK cx.kp (iha.e cx h1) (ihl.o cx h2) (ihh.o cx h3)
    · intros; rename_i h; exact noT h
    · intros; rename_i h; exact noT h
    · intros; rename_i h; exact noT h
    · intros; rename_i h; exact noT h
    · intros; rename_i h; exact noT h
  | comp m tg src cnd el ihs ihc ihe =>
    refine ⟨?_, ?_, ?_, ?_, ?_, ?_, ?_, ?_⟩
    · intros; rename_i h; exact noT h
    · intros; rename_i h; exact noT h
    · intro hot sc X W Ξ cx e h
      match e, h with
      | .ListComp x [⟨t, it, ifs, 0⟩] scope p, h =>
        have h' : (!hot && blkC N sc scope (ownOf N tg) && ckTg N (locB scope) tg t && ckI Γ N hot sc src it t && noSet it && (match (generalizing := false) ifs with | [] => isNil cnd | [y] => ckT Γ N hot (relS scope sc) cnd y | _ => false) && ck Γ N hot (relS scope sc) el x) = true := h
        cases hot with
        | true => simp at h'
        | false =>
          obtain ⟨q1, q2, q3, q4, q5, q6, q7, q8⟩ := compPs ihs ihc ihe cx (by simpa using h')
          exact ok_comp q1 q2 q3 q4 (own_slots N tg) q5 q6 q7 q8
    · intros; rename_i h; exact noT h
    · intros; rename_i h; exact noT h
    · intros; rename_i h; exact noT h
    · intros; rename_i h; exact noT h
    · intros; rename_i h; exact noT h
  | app a y iha ihy =>
    refine ⟨?_, ?_, ?_, ?_, ?_, ?_, ?_, ?_⟩
    · intros; rename_i h; exact noT h
    · intros; rename_i h; exact noT h
    · intro hot sc X W Ξ cx e h
      match e, h with
      | .Call (.Attribute x m ap) [z] [] pos, h =>
        obtain ⟨h1, h6⟩ := and3 (show (decide (m = "append") && ck Γ N hot sc a x && ck Γ N hot sc y z && plainE z && isName x && (ap.endLine == pos.line)) = true from h)
        obtain ⟨h1, h5⟩ := and3 h1
        obtain ⟨h1, h4⟩ := and3 h1
        obtain ⟨h1, h3⟩ := and3 h1
        obtain ⟨h1, h2⟩ := and3 h1
        cases of_decide_eq_true h1
        cases x <;> first | (exact noT h5) | skip
        exact ok_app cx.kp (iha.e cx h2) (ihy.e cx h3) h4 rfl h6
    · intros; rename_i h; exact noT h
    · intros; rename_i h; exact noT h
    · intros; rename_i h; exact noT h
    · intros; rename_i h; exact noT h
    · intros; rename_i h; exact noT h
  | frz a iha =>
    refine ⟨?_, ?_, ?_, ?_, ?_, ?_, ?_, ?_⟩
    · intros; rename_i h; exact noT h
    · intros; rename_i h; exact noT h
    · intro hot sc X W Ξ cx e h
      exact ok_frz cx.kp (iha.e cx h)
    · intros; rename_i h; exact noT h
    · intros; rename_i h; exact noT h
    · intros; rename_i h; exact noT h
    · intros; rename_i h; exact noT h
    · intros; rename_i h; exact noT h
  | eis j =>
    refine ⟨?_, ?_, ?_, ?_, ?_, ?_, ?_, ?_⟩
    · intros; rename_i h; exact noT h
    · intros; rename_i h; exact noT h
    · intro hot sc X W Ξ cx e h
      obtain ⟨x, p, y, p2, n, p3, q, rfl⟩ : ∃ x p y p2 n p3 q, e = .Call (.Name x p) [.Name y p2, .Name n p3] [] q := by
        match e, h with
        | .Call (.Name x p) [.Name y p2, .Name n p3] [] q, _ => exact ⟨x, p, y, p2, n, p3, q, rfl⟩
      obtain ⟨h1, h9⟩ := and3 (show (hot && decide (x = "isinstance") && decide (Γ.eh = some y) && decide (Γ.tn[j]? = some n) && visB sc y && okNm y && glB sc n && okNm n && glB sc "isinstance") = true from h)
      obtain ⟨h1, h8⟩ := and3 h1
      obtain ⟨h1, h7⟩ := and3 h1
      obtain ⟨h1, h6⟩ := and3 h1
      obtain ⟨h1, h5⟩ := and3 h1
      obtain ⟨h1, h4⟩ := and3 h1
      obtain ⟨h1, h3⟩ := and3 h1
      obtain ⟨hh, h2⟩ := and3 h1
      cases of_decide_eq_true h2
      exact cx.ei j y n p p2 p3 q hh (of_decide_eq_true h3) (of_decide_eq_true h4) h5 h6 h7 h8 h9
    · intros; rename_i h; exact noT h
    · intros; rename_i h; exact noT h
    · intros; rename_i h; exact noT h
    · intros; rename_i h; exact noT h
    · intros; rename_i h; exact noT h
  | eget f =>
    refine ⟨?_, ?_, ?_, ?_, ?_, ?_, ?_, ?_⟩
    · intros; rename_i h; exact noT h
    · intros; rename_i h; exact noT h
    · intro hot sc X W Ξ cx e h
      match e, h with
      | .Attribute (.Name x p) n q, h =>
        obtain ⟨h1, h5⟩ := and3 (show (decide (Γ.eh = some x) && hot && decide (Γ.fl[f]? = some n) && visB sc x && okNm x) = true from h)
        obtain ⟨h1, h4⟩ := and3 h1
        obtain ⟨h1, h3⟩ := and3 h1
        obtain ⟨h1, h2⟩ := and3 h1
        exact cx.eg f x n p q h2 (of_decide_eq_true h1) (of_decide_eq_true h3) h4 h5
    · intros; rename_i h; exact noT h
    · intros; rename_i h; exact noT h
    · intros; rename_i h; exact noT h
    · intros; rename_i h; exact noT h
    · intros; rename_i h; exact noT h
  | rng a b iha ihb =>
    refine ⟨?_, ?_, ?_, ?_, ?_, ?_, ?_, ?_⟩
    · intros; rename_i h; exact noT h
    · intros; rename_i h; exact noT h
    · intros; rename_i h; exact noT h
    · intros; rename_i h; exact noT h
    · intros; rename_i h; exact noT h
    · intros; rename_i h; exact noT h
    · intros; rename_i h; exact noT h
    · intro hot sc X W Ξ cx e t h
      match e, h with
      | .Call (.Name x p) [y] [] pos, h =>
        obtain ⟨h1, h5⟩ := and3 (show (decide (x = "range") && glB sc x && (match (generalizing := false) a with | .con (.int 0) => true | _ => false) && ck Γ N hot sc b y && plainE y) = true from h)
        obtain ⟨h1, h4⟩ := and3 h1
        obtain ⟨h1, h3⟩ := and3 h1
        obtain ⟨h1, h2⟩ := and3 h1
        cases of_decide_eq_true h1
        split at h3
        · exact ok_rng1 cx.kp (gl_of cx.hsc h2) (cx.md.blt _ (by decide +kernel)) (ihb.e cx h4) h5
        · exact noT h3
      | .Call (.Name x p) [y, z] [] pos, h =>
        obtain ⟨h1, h6⟩ := and3 (show (decide (x = "range") && glB sc x && ck Γ N hot sc a y && ck Γ N hot sc b z && plainE y && plainE z) = true from h)
        obtain ⟨h1, h5⟩ := and3 h1
        obtain ⟨h1, h4⟩ := and3 h1
        obtain ⟨h1, h3⟩ := and3 h1
        obtain ⟨h1, h2⟩ := and3 h1
        cases of_decide_eq_true h1
        exact ok_rng2 cx.kp (gl_of cx.hsc h2) (cx.md.blt _ (by decide +kernel)) (iha.e cx h3) (ihb.e cx h4) h5 h6
  | enum a iha =>
    refine ⟨?_, ?_, ?_, ?_, ?_, ?_, ?_, ?_⟩
    · intros; rename_i h; exact noT h
    · intros; rename_i h; exact noT h
    · intros; rename_i h; exact noT h
    · intros; rename_i h; exact noT h
    · intros; rename_i h; exact noT h
    · intros; rename_i h; exact noT h
    · intros; rename_i h; exact noT h
    · intro hot sc X W Ξ cx e t h
      match e, h with
      | .Call (.Name x p) [y] [] pos, h =>
        obtain ⟨h1, h5⟩ := and3 (show (decide (x = "enumerate") && glB sc x && ck Γ N hot sc a y && plainE y && isTup t) = true from h)
        obtain ⟨h1, h4⟩ := and3 h1
        obtain ⟨h1, h3⟩ := and3 h1
        obtain ⟨h1, h2⟩ := and3 h1
        cases of_decide_eq_true h1
        cases t <;> first | (exact noT h5) | skip
        exact ok_enum cx.md.hK (gl_of cx.hsc h2) (cx.md.blt _ (by decide +kernel)) (iha.e cx h3) h4
  | zip a b iha ihb =>
    refine ⟨?_, ?_, ?_, ?_, ?_, ?_, ?_, ?_⟩
    · intros; rename_i h; exact noT h
    · intros; rename_i h; exact noT h
    · intros; rename_i h; exact noT h
    · intros; rename_i h; exact noT h
    · intros; rename_i h; exact noT h
    · intros; rename_i h; exact noT h
    · intros; rename_i h; exact noT h
    · intro hot sc X W Ξ cx e t h
      match e, h with
      | .Call (.Name x p) [y, z] [] pos, h =>
        obtain ⟨h1, h7⟩ := and3 (show (decide (x = "zip") && glB sc x && ck Γ N hot sc a y && ck Γ N hot sc b z && plainE y && plainE z && isTup t) = true from h)
        obtain ⟨h1, h6⟩ := and3 h1
        obtain ⟨h1, h5⟩ := and3 h1
        obtain ⟨h1, h4⟩ := and3 h1
        obtain ⟨h1, h3⟩ := and3 h1
        obtain ⟨h1, h2⟩ := and3 h1
        cases of_decide_eq_true h1
        cases t <;> first | (exact noT h7) | skip
        exact ok_zip cx.md.hK cx.kp (gl_of cx.hsc h2) (cx.md.blt _ (by decide +kernel)) (iha.e cx h3) (ihb.e cx h4) h5 h6
  | tst a iha =>
    refine ⟨?_, ?_, ?_, ?_, ?_, ?_, ?_, ?_⟩
    · intros; rename_i h; exact noT h
    · intros; rename_i h; exact noT h
    · intros; rename_i h; exact noT h
    · intros; rename_i h; exact noT h
    · intros; rename_i h; exact noT h
    · intro hot sc X W Ξ cx e h
      obtain ⟨h1, h2⟩ := and3 (show (ck Γ N hot sc a e && plainT e) = true from h)
      exact ok_tst cx.md.hK cx.kp (iha.e cx h1) (fun whole => true_of h2 whole)
    · intro hot sc X W Ξ cx op xs p h
      obtain ⟨h1, h2⟩ := and3 (show (ck Γ N hot sc a (.BoolOp op xs p) && plainT (.BoolOp op xs p)) = true from h)
      exact noT h2
    · intro hot sc X W Ξ cx e t h
      exact ok_it cx.md.hK (iha.e cx h)
  | tcmp o a b iha ihb =>
    refine ⟨?_, ?_, ?_, ?_, ?_, ?_, ?_, ?_⟩
    · intros; rename_i h; exact noT h
    · intros; rename_i h; exact noT h
    · intros; rename_i h; exact noT h
    · intros; rename_i h; exact noT h
    · intros; rename_i h; exact noT h
    · intro hot sc X W Ξ cx e h
      cases e with
      | Compare x ops ys p =>
        match ops, ys, h with
        | [op], [y], h =>
          obtain ⟨h1, h4⟩ := and3 (show (decide (op = cmpOf o) && ck Γ N hot sc a x && ck Γ N hot sc b y && noSet y) = true from h)
          obtain ⟨h1, h3⟩ := and3 h1
          obtain ⟨h1, h2⟩ := and3 h1
          cases of_decide_eq_true h1
          exact ok_tcmp cx.md.hK cx.un cx.kp (iha.e cx h2) (ihb.e cx h3) (mark_of h4)
        | [], _, h => exact noT h
        | [_], [], h => exact noT h
        | [_], _ :: _ :: _, h => exact noT h
        | _ :: _ :: _, _, h => exact noT h
      | _ => exact noT h
    · intros; rename_i h; exact noT h
    · intros; rename_i h; exact noT h
  | tchain o p a b c iha ihb ihc =>
    refine ⟨?_, ?_, ?_, ?_, ?_, ?_, ?_, ?_⟩
    · intros; rename_i h; exact noT h
    · intros; rename_i h; exact noT h
    · intros; rename_i h; exact noT h
    · intros; rename_i h; exact noT h
    · intros; rename_i h; exact noT h
    · intro hot sc X W Ξ cx e h
      cases e with
      | Compare x ops ys pp =>
        match ops, ys, h with
        | [o1, o2], [y, z], h =>
          obtain ⟨h1, h6⟩ := and3 (show (decide (o1 = cmpOf o) && decide (o2 = cmpOf p) && ck Γ N hot sc a x && ck Γ N hot sc b y && ck Γ N hot sc c z && noSet z) = true from h)
          obtain ⟨h1, h5⟩ := and3 h1
          obtain ⟨h1, h4⟩ := and3 h1
          obtain ⟨h1, h3⟩ := and3 h1
          obtain ⟨h1, h2⟩ := and3 h1
          cases of_decide_eq_true h1
          cases of_decide_eq_true h2
          exact ok_tchain cx.md.hK cx.un cx.kp (iha.e cx h3) (ihb.e cx h4) (ihc.e cx h5) (lastM h6)
        | [], _, h => exact noT h
        | [_], _, h => exact noT h
        | [_, _], [], h => exact noT h
        | [_, _], [_], h => exact noT h
        | [_, _], _ :: _ :: _ :: _, h => exact noT h
        | _ :: _ :: _ :: _, _, h => exact noT h
      | _ => exact noT h
    · intros; rename_i h; exact noT h
    · intros; rename_i h; exact noT h
  | comp2 m tg src cnd tg2 src2 cnd2 el ihs ihc ihs2 ihc2 ihe =>
    refine ⟨?_, ?_, ?_, ?_, ?_, ?_, ?_, ?_⟩
    · intros; rename_i h; exact noT h
    · intros; rename_i h; exact noT h
    · intro hot sc X W Ξ cx e h
      match e, h with
      | .ListComp x [⟨t, it, ifs, 0⟩, ⟨t2, it2, ifs2, 0⟩] scope p, h =>
        have h' : (!hot && blkC N sc scope (ownOf N tg ++ ownOf N tg2) && ckTg N (locB scope) tg t && ckI Γ N hot sc src it t && noSet it && (match (generalizing := false) ifs with | [] => isNil cnd | [y] => ckT Γ N hot (relS scope sc) cnd y | _ => false) && ckTg N (locB scope) tg2 t2 && ckI Γ N hot (relS scope sc) src2 it2 t2 && noSet it2 && (match (generalizing := false) ifs2 with | [] => isNil cnd2 | [y] => ckT Γ N hot (relS scope sc) cnd2 y | _ => false) && ck Γ N hot (relS scope sc) el x) = true := h
        cases hot with
        | true => simp at h'
        | false =>
          obtain ⟨q1, q2, q3, q4, q5, q6, q7, q8, q9, q10, q11, q12⟩ := compPs2 ihs ihc ihs2 ihc2 ihe cx (by simpa using h')
          exact ok_comp2 q1 q2 q3 q4 (own_slots2 N tg tg2) q5 q6 q7 q8 q9 q10 q11 q12
    · intros; rename_i h; exact noT h
    · intros; rename_i h; exact noT h
    · intros; rename_i h; exact noT h
    · intros; rename_i h; exact noT h
    · intros; rename_i h; exact noT h
  | fld a f iha =>
    refine ⟨?_, ?_, ?_, ?_, ?_, ?_, ?_, ?_⟩
    · intros; rename_i h; exact noT h
    · intros; rename_i h; exact noT h
    · intro hot sc X W Ξ cx e h
      cases e <;> first | (exact noT h) | skip
      rename_i x n p
      obtain ⟨h1, h4⟩ := and3 (show (!hot && decide (Γ.fl[f]? = some n) && ck Γ N hot sc a x && noCall0 x) = true from h)
      obtain ⟨h1, h3⟩ := and3 h1
      obtain ⟨h1, h2⟩ := and3 h1
      have hh : hot = false := by simpa using h1
      subst hh
      obtain ⟨f1, f2⟩ := cx.md.fl f n (of_decide_eq_true h2)
      exact ok_fld (fun k hk => by
        rw [cx.md.ncn] at hk
        obtain ⟨_, q2, _, q4⟩ := cx.md.exc k _ (List.getElem?_eq_getElem hk)
        exact ⟨q2, q4⟩) cx.md.ef cx.md.hK cx.md.ob (cx.cold rfl).2 cx.gd cx.kp f1 f2 (iha.e cx h3) h4
    · intros; rename_i h; exact noT h
    · intros; rename_i h; exact noT h
    · intros; rename_i h; exact noT h
    · intros; rename_i h; exact noT h
    · intros; rename_i h; exact noT h
  | mcall a m es iha ihes =>
    refine ⟨?_, ?_, ?_, ?_, ?_, ?_, ?_, ?_⟩
    · intros; rename_i h; exact noT h
    · intros; rename_i h; exact noT h
    · intro hot sc X W Ξ cx e h
      replace h : (match (generalizing := false) mcallP e with | some (x, n, ys, l) => !hot && decide (Γ.fl[m]? = some n) && ck Γ N hot sc a x && noCall0 x && cks Γ N hot sc es ys && ys.all plainE && decide (ys.length < 30) && l | none => false) = true := h
      cases he : mcallP e with
      | none => rw [he] at h; exact noT h
      | some q_ =>
      obtain ⟨x, n, ys, l⟩ := q_
      rw [he] at h
      obtain ⟨ap, pos, rfl, rfl⟩ := inv_mcall he
      obtain ⟨h1, h8⟩ := and3 (show (!hot && decide (Γ.fl[m]? = some n) && ck Γ N hot sc a x && noCall0 x && cks Γ N hot sc es ys && ys.all plainE && decide (ys.length < 30) && (ap.endLine == pos.line)) = true from h)
      obtain ⟨h1, h7⟩ := and3 h1
      obtain ⟨h1, h6⟩ := and3 h1
      obtain ⟨h1, h5⟩ := and3 h1
      obtain ⟨h1, h4⟩ := and3 h1
      obtain ⟨h1, h3⟩ := and3 h1
      obtain ⟨h1, h2⟩ := and3 h1
      have hh : hot = false := by simpa using h1
      subst hh
      exact ok_mcall cx.md.ob ((cx.cold rfl).2.mono (Nat.le_succ _)) cx.gd cx.kp cx.tk (cx.md.fl m n (of_decide_eq_true h2)).1 (iha.e cx h3) h4 (ihes.s cx h5) (fun z => by subst z; exact cks_emp h5) h6 (of_decide_eq_true h7) h8
    · intros; rename_i h; exact noT h
    · intros; rename_i h; exact noT h
    · intros; rename_i h; exact noT h
    · intros; rename_i h; exact noT h
    · intros; rename_i h; exact noT h
  | new m c es ihes =>
    refine ⟨?_, ?_, ?_, ?_, ?_, ?_, ?_, ?_⟩
    · intros; rename_i h; exact noT h
    · intros; rename_i h; exact noT h
    · intro hot sc X W Ξ cx e h
      replace h : (match (generalizing := false) callP e with | some (x, ys) => !hot && decide (Γ.kn[c]? = some x) && glB sc x && okNm x && cks Γ N hot sc es ys && ys.all plainE | none => false) = true := h
      cases he : callP e with
      | none => rw [he] at h; exact noT h
      | some q_ =>
      obtain ⟨x, ys⟩ := q_
      rw [he] at h
      obtain ⟨p, pos, rfl⟩ := inv_call he
      obtain ⟨h1, h6⟩ := and3 (show (!hot && decide (Γ.kn[c]? = some x) && glB sc x && okNm x && cks Γ N hot sc es ys && ys.all plainE) = true from h)
      obtain ⟨h1, h5⟩ := and3 h1
      obtain ⟨h1, h4⟩ := and3 h1
      obtain ⟨h1, h3⟩ := and3 h1
      obtain ⟨h1, h2⟩ := and3 h1
      have hh : hot = false := by simpa using h1
      subst hh
      exact ok_new cx.md.ob (cx.cold rfl).2 cx.gd cx.kp cx.tk (of_decide_eq_true h2) (gl_of cx.hsc h3) (nm_of h4).1 (ihes.s cx h5) (fun z => by subst z; exact cks_emp h5) h6
    · intros; rename_i h; exact noT h
    · intros; rename_i h; exact noT h
    · intros; rename_i h; exact noT h
    · intros; rename_i h; exact noT h
    · intros; rename_i h; exact noT h
  | newk m c s es vs ihes ihvs =>
    refine ⟨?_, ?_, ?_, ?_, ?_, ?_, ?_, ?_⟩
    · intros; rename_i h; exact noT h
    · intros; rename_i h; exact noT h
    · intro hot sc X W Ξ cx e h
      match e, h with
      | .Call (.Name x p) (y :: ys) kws pos, h =>
      replace h : (match (generalizing := false) Γ.nh s with | some (x', ks) => !hot && decide (x = x') && decide (Γ.kn[c]? = some x) && glB sc x && okNm x && cks Γ N hot sc es (y :: ys) && (y :: ys).all plainE && ckK Γ N hot sc vs kws ks | none => false) = true := h
      cases he : Γ.nh s with
      | none => rw [he] at h; exact noT h
      | some q_ =>
      obtain ⟨x', ks⟩ := q_
      rw [he] at h
      obtain ⟨h1, h8⟩ := and3 (show (!hot && decide (x = x') && decide (Γ.kn[c]? = some x) && glB sc x && okNm x && cks Γ N hot sc es (y :: ys) && (y :: ys).all plainE && ckK Γ N hot sc vs kws ks) = true from h)
      obtain ⟨h1, h7⟩ := and3 h1
      obtain ⟨h1, h6⟩ := and3 h1
      obtain ⟨h1, h5⟩ := and3 h1
      obtain ⟨h1, h4⟩ := and3 h1
      obtain ⟨h1, h3⟩ := and3 h1
      obtain ⟨h1, h2⟩ := and3 h1
      have hh : hot = false := by simpa using h1
      subst hh
      cases of_decide_eq_true h2
      obtain ⟨k1, k2, k3⟩ := kw_names h8 X.env pos
      have hp := h7
      rw [List.all_cons, Bool.and_eq_true] at hp
      exact ok_newk cx.md.ob (cx.cold rfl).2 cx.gd cx.kp cx.tk (of_decide_eq_true h3) he (gl_of cx.hsc h4) (nm_of h5).1 (ihes.s cx h6) (ihvs.k cx h8) hp.1 k1 k2 (by rw [npl_of (y :: ys) h7, k3]; rfl)
    · intros; rename_i h; exact noT h
    · intros; rename_i h; exact noT h
    · intros; rename_i h; exact noT h
    · intros; rename_i h; exact noT h
    · intros; rename_i h; exact noT h
  | iso a c iha =>
    refine ⟨?_, ?_, ?_, ?_, ?_, ?_, ?_, ?_⟩
    · intros; rename_i h; exact noT h
    · intros; rename_i h; exact noT h
    · intro hot sc X W Ξ cx e h
      replace h : (match (generalizing := false) callP e with | some (x, ys) => (match pairP ys with | some (y, z) => (match nameP z with | some n => !hot && decide (x = "isinstance") && decide (Γ.kn[c]? = some n) && glB sc x && glB sc n && okNm n && ck Γ N hot sc a y && plainE y | none => false) | none => false) | none => false) = true := h
      cases he : callP e with
      | none => rw [he] at h; exact noT h
      | some q_ =>
      obtain ⟨x, ys⟩ := q_
      rw [he] at h
      obtain ⟨p, pos, rfl⟩ := inv_call he
      replace h : (match (generalizing := false) pairP ys with | some (y, z) => (match nameP z with | some n => !hot && decide (x = "isinstance") && decide (Γ.kn[c]? = some n) && glB sc x && glB sc n && okNm n && ck Γ N hot sc a y && plainE y | none => false) | none => false) = true := h
      cases hy : pairP ys with
      | none => rw [hy] at h; exact noT h
      | some q_ =>
      obtain ⟨y, z⟩ := q_
      rw [hy] at h
      obtain rfl := inv_pair hy
      replace h : (match (generalizing := false) nameP z with | some n => !hot && decide (x = "isinstance") && decide (Γ.kn[c]? = some n) && glB sc x && glB sc n && okNm n && ck Γ N hot sc a y && plainE y | none => false) = true := h
      cases hz : nameP z with
      | none => rw [hz] at h; exact noT h
      | some n =>
      rw [hz] at h
      obtain ⟨p3, rfl⟩ := inv_name hz
      obtain ⟨h1, h8⟩ := and3 (show (!hot && decide (x = "isinstance") && decide (Γ.kn[c]? = some n) && glB sc x && glB sc n && okNm n && ck Γ N hot sc a y && plainE y) = true from h)
      obtain ⟨h1, h7⟩ := and3 h1
      obtain ⟨h1, h6⟩ := and3 h1
      obtain ⟨h1, h5⟩ := and3 h1
      obtain ⟨h1, h4⟩ := and3 h1
      obtain ⟨h1, h3⟩ := and3 h1
      obtain ⟨h1, h2⟩ := and3 h1
      have hh : hot = false := by simpa using h1
      subst hh
      cases of_decide_eq_true h2
      exact ok_iso cx.md.hK cx.md.ob cx.kp (of_decide_eq_true h3) (gl_of cx.hsc h4) (cx.md.blt _ (by decide +kernel)) (gl_of cx.hsc h5) (nm_of h6).1 (iha.e cx h7) h8
    · intros; rename_i h; exact noT h
    · intros; rename_i h; exact noT h
    · intros; rename_i h; exact noT h
    · intros; rename_i h; exact noT h
    · intros; rename_i h; exact noT h
  | isit a t u iha =>
    refine ⟨?_, ?_, ?_, ?_, ?_, ?_, ?_, ?_⟩
    · intros; rename_i h; exact noT h
    · intros; rename_i h; exact noT h
    · intro hot sc X W Ξ cx e h
      replace h : (match (generalizing := false) callP e with | some (x, ys) => (match pairP ys with | some (y, z) => (match tup2P z with | some (n, m) => decide (x = "isinstance") && decide (n = tyN t) && !isOwn t && decide (m = tyN u) && !isOwn u && glB sc x && glB sc n && glB sc m && ck Γ N hot sc a y && plainE y | none => false) | none => false) | none => false) = true := h
      cases he : callP e with
      | none => rw [he] at h; exact noT h
      | some q_ =>
      obtain ⟨x, ys⟩ := q_
      rw [he] at h
      obtain ⟨p, pos, rfl⟩ := inv_call he
      replace h : (match (generalizing := false) pairP ys with | some (y, z) => (match tup2P z with | some (n, m) => decide (x = "isinstance") && decide (n = tyN t) && !isOwn t && decide (m = tyN u) && !isOwn u && glB sc x && glB sc n && glB sc m && ck Γ N hot sc a y && plainE y | none => false) | none => false) = true := h
      cases hy : pairP ys with
      | none => rw [hy] at h; exact noT h
      | some q_ =>
      obtain ⟨y, z⟩ := q_
      rw [hy] at h
      obtain rfl := inv_pair hy
      replace h : (match (generalizing := false) tup2P z with | some (n, m) => decide (x = "isinstance") && decide (n = tyN t) && !isOwn t && decide (m = tyN u) && !isOwn u && glB sc x && glB sc n && glB sc m && ck Γ N hot sc a y && plainE y | none => false) = true := h
      cases hz : tup2P z with
      | none => rw [hz] at h; exact noT h
      | some q_ =>
      obtain ⟨n, m⟩ := q_
      rw [hz] at h
      obtain ⟨p3, p4, j, p5, rfl⟩ := inv_tup2 hz
      obtain ⟨h1, h10⟩ := and3 (show (decide (x = "isinstance") && decide (n = tyN t) && !isOwn t && decide (m = tyN u) && !isOwn u && glB sc x && glB sc n && glB sc m && ck Γ N hot sc a y && plainE y) = true from h)
      obtain ⟨h1, h9⟩ := and3 h1
      obtain ⟨h1, h8⟩ := and3 h1
      obtain ⟨h1, h7⟩ := and3 h1
      obtain ⟨h1, h6⟩ := and3 h1
      obtain ⟨h1, h5⟩ := and3 h1
      obtain ⟨h1, h4⟩ := and3 h1
      obtain ⟨h1, h3⟩ := and3 h1
      obtain ⟨h1, h2⟩ := and3 h1
      cases of_decide_eq_true h1
      cases of_decide_eq_true h2
      cases of_decide_eq_true h4
      obtain ⟨b1, b2, b3, b4, b5⟩ := boot_ty (t := t) (by simpa using h3)
      obtain ⟨c1, c2, c3, c4, c5⟩ := boot_ty (t := u) (by simpa using h5)
      exact ok_isit cx.md.hK cx.kp (gl_of cx.hsc h6) (cx.md.blt _ (by decide +kernel)) (gl_of cx.hsc h7) (cx.md.blt _ b4) b1 b2 b3 (gl_of cx.hsc h8) (cx.md.blt _ c4) c1 c2 c3 b5 c5 (iha.e cx h9) h10
    · intros; rename_i h; exact noT h
    · intros; rename_i h; exact noT h
    · intros; rename_i h; exact noT h
    · intros; rename_i h; exact noT h
    · intros; rename_i h; exact noT h
  | lrng m a b iha ihb =>
    refine ⟨?_, ?_, ?_, ?_, ?_, ?_, ?_, ?_⟩
    · intros; rename_i h; exact noT h
    · intros; rename_i h; exact noT h
    · intro hot sc X W Ξ cx e h
      replace h : (match (generalizing := false) callP e with | some (x, ys) => (match oneP ys with | some z => (match callP z with | some (x2, zs) => (match pairP zs with | some (y, z) => !hot && decide (x = "list") && decide (x2 = "range") && glB sc x && glB sc x2 && ck Γ N hot sc a y && ck Γ N hot sc b z && plainE y && plainE z | none => false) | none => false) | none => false) | none => false) = true := h
      cases he : callP e with
      | none => rw [he] at h; exact noT h
      | some q_ =>
      obtain ⟨x, ys⟩ := q_
      rw [he] at h
      obtain ⟨p, pos, rfl⟩ := inv_call he
      replace h : (match (generalizing := false) oneP ys with | some z0 => (match callP z0 with | some (x2, zs) => (match pairP zs with | some (y, z) => !hot && decide (x = "list") && decide (x2 = "range") && glB sc x && glB sc x2 && ck Γ N hot sc a y && ck Γ N hot sc b z && plainE y && plainE z | none => false) | none => false) | none => false) = true := h
      cases hz0 : oneP ys with
      | none => rw [hz0] at h; exact noT h
      | some z0 =>
      rw [hz0] at h
      obtain rfl := inv_one hz0
      replace h : (match (generalizing := false) callP z0 with | some (x2, zs) => (match pairP zs with | some (y, z) => !hot && decide (x = "list") && decide (x2 = "range") && glB sc x && glB sc x2 && ck Γ N hot sc a y && ck Γ N hot sc b z && plainE y && plainE z | none => false) | none => false) = true := h
      cases he2 : callP z0 with
      | none => rw [he2] at h; exact noT h
      | some q_ =>
      obtain ⟨x2, zs⟩ := q_
      rw [he2] at h
      obtain ⟨p2, q2, rfl⟩ := inv_call he2
      replace h : (match (generalizing := false) pairP zs with | some (y, z) => !hot && decide (x = "list") && decide (x2 = "range") && glB sc x && glB sc x2 && ck Γ N hot sc a y && ck Γ N hot sc b z && plainE y && plainE z | none => false) = true := h
      cases hy : pairP zs with
      | none => rw [hy] at h; exact noT h
      | some q_ =>
      obtain ⟨y, z⟩ := q_
      rw [hy] at h
      obtain rfl := inv_pair hy
      obtain ⟨h1, h9⟩ := and3 (show (!hot && decide (x = "list") && decide (x2 = "range") && glB sc x && glB sc x2 && ck Γ N hot sc a y && ck Γ N hot sc b z && plainE y && plainE z) = true from h)
      obtain ⟨h1, h8⟩ := and3 h1
      obtain ⟨h1, h7⟩ := and3 h1
      obtain ⟨h1, h6⟩ := and3 h1
      obtain ⟨h1, h5⟩ := and3 h1
      obtain ⟨h1, h4⟩ := and3 h1
      obtain ⟨h1, h3⟩ := and3 h1
      obtain ⟨h1, h2⟩ := and3 h1
      have hh : hot = false := by simpa using h1
      subst hh
      cases of_decide_eq_true h2
      cases of_decide_eq_true h3
      exact ok_lrng cx.kp (cx.cold rfl).1 (gl_of cx.hsc h4) (cx.md.blt _ (by decide +kernel)) (gl_of cx.hsc h5) (cx.md.blt _ (by decide +kernel)) (iha.e cx h6) (ihb.e cx h7) h8 h9
    · intros; rename_i h; exact noT h
    · intros; rename_i h; exact noT h
    · intros; rename_i h; exact noT h
    · intros; rename_i h; exact noT h
    · intros; rename_i h; exact noT h
  | lset a iha =>
    refine ⟨?_, ?_, ?_, ?_, ?_, ?_, ?_, ?_⟩
    · intros; rename_i h; exact noT h
    · intros; rename_i h; exact noT h
    · intro hot sc X W Ξ cx e h
      replace h : (match (generalizing := false) callP e with | some (x, ys) => (match oneP ys with | some z => (match callP z with | some (x2, zs) => (match oneP zs with | some y => !hot && decide (x = "len") && decide (x2 = "set") && glB sc x && glB sc x2 && ck Γ N hot sc a y && plainE y | none => false) | none => false) | none => false) | none => false) = true := h
      cases he : callP e with
      | none => rw [he] at h; exact noT h
      | some q_ =>
      obtain ⟨x, ys⟩ := q_
      rw [he] at h
      obtain ⟨p, pos, rfl⟩ := inv_call he
      replace h : (match (generalizing := false) oneP ys with | some z0 => (match callP z0 with | some (x2, zs) => (match oneP zs with | some y => !hot && decide (x = "len") && decide (x2 = "set") && glB sc x && glB sc x2 && ck Γ N hot sc a y && plainE y | none => false) | none => false) | none => false) = true := h
      cases hz0 : oneP ys with
      | none => rw [hz0] at h; exact noT h
      | some z0 =>
      rw [hz0] at h
      obtain rfl := inv_one hz0
      replace h : (match (generalizing := false) callP z0 with | some (x2, zs) => (match oneP zs with | some y => !hot && decide (x = "len") && decide (x2 = "set") && glB sc x && glB sc x2 && ck Γ N hot sc a y && plainE y | none => false) | none => false) = true := h
      cases he2 : callP z0 with
      | none => rw [he2] at h; exact noT h
      | some q_ =>
      obtain ⟨x2, zs⟩ := q_
      rw [he2] at h
      obtain ⟨p2, q2, rfl⟩ := inv_call he2
      replace h : (match (generalizing := false) oneP zs with | some y => !hot && decide (x = "len") && decide (x2 = "set") && glB sc x && glB sc x2 && ck Γ N hot sc a y && plainE y | none => false) = true := h
      cases hy : oneP zs with
      | none => rw [hy] at h; exact noT h
      | some y =>
      rw [hy] at h
      obtain rfl := inv_one hy
      obtain ⟨h1, h7⟩ := and3 (show (!hot && decide (x = "len") && decide (x2 = "set") && glB sc x && glB sc x2 && ck Γ N hot sc a y && plainE y) = true from h)
      obtain ⟨h1, h6⟩ := and3 h1
      obtain ⟨h1, h5⟩ := and3 h1
      obtain ⟨h1, h4⟩ := and3 h1
      obtain ⟨h1, h3⟩ := and3 h1
      obtain ⟨h1, h2⟩ := and3 h1
      have hh : hot = false := by simpa using h1
      subst hh
      cases of_decide_eq_true h2
      cases of_decide_eq_true h3
      exact ok_lset cx.md.hK cx.un cx.kp (cx.cold rfl).1 (gl_of cx.hsc h4) (cx.md.blt _ (by decide +kernel)) (gl_of cx.hsc h5) (cx.md.blt _ (by decide +kernel)) (iha.e cx h6) h7
    · intros; rename_i h; exact noT h
    · intros; rename_i h; exact noT h
    · intros; rename_i h; exact noT h
    · intros; rename_i h; exact noT h
    · intros; rename_i h; exact noT h
  | sset m a iha =>
    refine ⟨?_, ?_, ?_, ?_, ?_, ?_, ?_, ?_⟩
    · intros; rename_i h; exact noT h
    · intros; rename_i h; exact noT h
    · intro hot sc X W Ξ cx e h
      replace h : (match (generalizing := false) callP e with | some (x, ys) => (match oneP ys with | some z => (match callP z with | some (x2, zs) => (match oneP zs with | some y => !hot && decide (x = "sorted") && decide (x2 = "set") && glB sc x && glB sc x2 && ck Γ N hot sc a y && plainE y | none => false) | none => false) | none => false) | none => false) = true := h
      cases he : callP e with
      | none => rw [he] at h; exact noT h
      | some q_ =>
      obtain ⟨x, ys⟩ := q_
      rw [he] at h
      obtain ⟨p, pos, rfl⟩ := inv_call he
      replace h : (match (generalizing := false) oneP ys with | some z0 => (match callP z0 with | some (x2, zs) => (match oneP zs with | some y => !hot && decide (x = "sorted") && decide (x2 = "set") && glB sc x && glB sc x2 && ck Γ N hot sc a y && plainE y | none => false) | none => false) | none => false) = true := h
      cases hz0 : oneP ys with
      | none => rw [hz0] at h; exact noT h
      | some z0 =>
      rw [hz0] at h
      obtain rfl := inv_one hz0
      replace h : (match (generalizing := false) callP z0 with | some (x2, zs) => (match oneP zs with | some y => !hot && decide (x = "sorted") && decide (x2 = "set") && glB sc x && glB sc x2 && ck Γ N hot sc a y && plainE y | none => false) | none => false) = true := h
      cases he2 : callP z0 with
      | none => rw [he2] at h; exact noT h
      | some q_ =>
      obtain ⟨x2, zs⟩ := q_
      rw [he2] at h
      obtain ⟨p2, q2, rfl⟩ := inv_call he2
      replace h : (match (generalizing := false) oneP zs with | some y => !hot && decide (x = "sorted") && decide (x2 = "set") && glB sc x && glB sc x2 && ck Γ N hot sc a y && plainE y | none => false) = true := h
      cases hy : oneP zs with
      | none => rw [hy] at h; exact noT h
      | some y =>
      rw [hy] at h
      obtain rfl := inv_one hy
      obtain ⟨h1, h7⟩ := and3 (show (!hot && decide (x = "sorted") && decide (x2 = "set") && glB sc x && glB sc x2 && ck Γ N hot sc a y && plainE y) = true from h)
      obtain ⟨h1, h6⟩ := and3 h1
      obtain ⟨h1, h5⟩ := and3 h1
      obtain ⟨h1, h4⟩ := and3 h1
      obtain ⟨h1, h3⟩ := and3 h1
      obtain ⟨h1, h2⟩ := and3 h1
      have hh : hot = false := by simpa using h1
      subst hh
      cases of_decide_eq_true h2
      cases of_decide_eq_true h3
      exact ok_sset cx.kp (cx.cold rfl).1 (gl_of cx.hsc h4) (cx.md.blt _ (by decide +kernel)) (gl_of cx.hsc h5) (cx.md.blt _ (by decide +kernel)) (iha.e cx h6) h7
    · intros; rename_i h; exact noT h
    · intros; rename_i h; exact noT h
    · intros; rename_i h; exact noT h
    · intros; rename_i h; exact noT h
    · intros; rename_i h; exact noT h
  | tch3 o p q a b c d iha ihb ihc ihd =>
    refine ⟨?_, ?_, ?_, ?_, ?_, ?_, ?_, ?_⟩
    · intros; rename_i h; exact noT h
    · intros; rename_i h; exact noT h
    · intros; rename_i h; exact noT h
    · intros; rename_i h; exact noT h
    · intros; rename_i h; exact noT h
    · intro hot sc X W Ξ cx e h
      cases e with
      | Compare x ops ys pp =>
        match ops, ys, h with
        | [o1, o2, o3], [y, z, u], h =>
          obtain ⟨h1, h8⟩ := and3 (show (decide (o1 = cmpOf o) && decide (o2 = cmpOf p) && decide (o3 = cmpOf q) && ck Γ N hot sc a x && ck Γ N hot sc b y && ck Γ N hot sc c z && ck Γ N hot sc d u && noSet u) = true from h)
          obtain ⟨h1, h7⟩ := and3 h1
          obtain ⟨h1, h6⟩ := and3 h1
          obtain ⟨h1, h5⟩ := and3 h1
          obtain ⟨h1, h4⟩ := and3 h1
          obtain ⟨h1, h3⟩ := and3 h1
          obtain ⟨h1, h2⟩ := and3 h1
          cases of_decide_eq_true h1
          cases of_decide_eq_true h2
          cases of_decide_eq_true h3
          exact ok_tch3 cx.md.hK cx.un cx.kp (iha.e cx h4) (ihb.e cx h5) (ihc.e cx h6) (ihd.e cx h7) (show lastMarks [cmpOf o, cmpOf p, cmpOf q] [y, z, u] = false from mark_of (op := cmpOf q) h8)
        | [], _, h => exact noT h
        | [_], _, h => exact noT h
        | [_, _], _, h => exact noT h
        | [_, _, _], [], h => exact noT h
        | [_, _, _], [_], h => exact noT h
        | [_, _, _], [_, _], h => exact noT h
        | [_, _, _], _ :: _ :: _ :: _ :: _, h => exact noT h
        | _ :: _ :: _ :: _ :: _, _, h => exact noT h
      | _ => exact noT h
    · intros; rename_i h; exact noT h
    · intros; rename_i h; exact noT h
  | _ =>
    refine ⟨?_, ?_, ?_, ?_, ?_, ?_, ?_, ?_⟩
    · intros; rename_i h; exact noT h
    · intros; rename_i h; exact noT h
    · intros; rename_i h; exact noT h
    · intros; rename_i h; exact noT h
    · intros; rename_i h; exact noT h
    · intros; rename_i h; exact noT h
    · intros; rename_i h; exact noT h
    · intros; rename_i h; exact noT h
end
end PV

namespace PV
open PySem L2 PyProof.Rows RZ

structure CxS (Γ : Sy) (T : Tb) (G : Gv) (N : List Str) (sc : Scope) (lv : Nat) (X : Cx) (W : WX) : Prop where
  cx : Cxt Γ T G false N sc lv X W X0
  po : PassesOwn (model X.prog X.w) X.A X.env X.xe
  fn : ∀ x, X.fn x = true
  stk : X.stack = X.env :: X.outer
  frm : X.env.frame = some X.env.locals
  kd : sc.kind = .function
theorem sw_no {t e : Expr} {l : Nat} {env : PySem.Env} (h : noComp e = true) : swapsWithSole [t] e l env = pure false := by
  cases e <;> first | rfl | cases h
theorem st_no {t e : Expr} {env : PySem.Env} (h : isTup e = false) : swappedStores [t] e env = pure none := by
  cases e <;> first | (cases t <;> rfl) | cases h
theorem sw_at {x : Expr} {n : Str} {p : Pos} {e : Expr} {l : Nat} {env : PySem.Env} : swapsWith e (some (.Attribute x n p)) l env = pure false := by
  cases e <;> rfl
theorem st_nm {x : Str} {p : Pos} {e : Expr} {env : PySem.Env} : swappedStores [.Name x p] e env = pure none := by
  cases e <;> rfl
theorem st_sub {a b : Expr} {p : Pos} {e : Expr} {env : PySem.Env} : swappedStores [.Subscript a b p] e env = pure none := by
  cases e <;> rfl
theorem ae_tg {N : List Str} {ok : Str → Bool} {tg : Tg} {t : Expr} {env : PySem.Env} (h : ckTg N ok tg t = true) : (assignEach [t] env).map (·.2) = [assign t env] := by
  cases t <;> first | rfl | (cases tg <;> cases h)
theorem sw_cell {x : Str} {px : Pos} {e : Expr} {l : Nat} {env : PySem.Env} (h : env.scope.names.lookup x = some .cell) (hb : env.scope.kind = .function) : swapsWithSole [.Name x px] e l env = pure false := by
  have ky : env.kindOf x = some .cell := h
  have hk : env.blockKind = .function := by unfold Env.blockKind; rw [hb]; rfl
  cases e <;> first | rfl | (simp only [swapsWithSole, swapsWith, ky, hk]; rfl)
theorem st_par {x y : Str} {px py pt pt2 : Pos} {kt k2 : Nat} {a b : Expr} {env : PySem.Env} (hk : env.scope.kind = .function) (hx : env.scope.names.lookup x = some .local) (hy : env.scope.names.lookup y = some .local) (h : parOk [.Name x px, .Name y py] [a, b] = true) :
    swappedStores [.Tuple [.Name x px, .Name y py] kt pt] (.Tuple [a, b] k2 pt2) env = pure (some [x, y]) := by
  have h' : ((py.line == px.line) && !(x == y) && !([a, b].all (foldedForSure 8)) && !([a, b].all (constantsAlone 8)) && !([a, b].any fun e => match e with | .Starred _ _ => true | _ => false)) = true := h
  obtain ⟨h', h5⟩ := and3 h'
  obtain ⟨h', h4⟩ := and3 h'
  obtain ⟨h', h3⟩ := and3 h'
  obtain ⟨h1, h2⟩ := and3 h'
  have hb : env.blockKind = .function := by unfold Env.blockKind; rw [hk]; rfl
  have kx : env.kindOf x = some .local := hx
  have ky : env.kindOf y = some .local := hy
  have hne : x ≠ y := by simpa using h2
  have hl : py.line = px.line := by simpa using h1
  have h3' : ¬ ([a, b].all (foldedForSure 8) = true) := fun z => by rw [z] at h3; cases h3
  have h4' : ¬ ([a, b].all (constantsAlone 8) = true) := fun z => by rw [z] at h4; cases h4
  have h5' : ∀ p : Expr → Bool, (∀ e, p e = match e with | .Starred _ _ => true | _ => false) → ¬ ([a, b].any p = true) := fun p hp z => by
    rw [show p = (fun e => match e with | .Starred _ _ => true | _ => false) from funext hp] at z
    rw [z] at h5
    cases h5
  have e1 : ([x, y] : List Str).eraseDups = [x, y] := by
    have hyx : (y == x) = false := by simpa using hne.symm
    simp [List.eraseDups, List.eraseDupsBy, List.eraseDupsBy.loop, hyx]
  unfold swappedStores
  simp only [hb]
  refine (if_neg (by simp)).trans ?_
  refine (if_neg (h5' _ fun e => by cases e <;> rfl)).trans ?_
  simp only [List.filterMap_cons, List.filterMap_nil, kx, ky, hl, Expr.pos, List.head?_cons, Option.map_some, Option.getD_some, beq_self_eq_true, Bool.and_self, if_true, e1]
  refine (if_neg (by simp)).trans ?_
  refine (if_neg h3').trans ?_
  exact if_neg h4'
section
variable {Γ : Sy} {T : Tb} {G : Gv} {N : List Str} {sc : Scope} {lv : Nat} {X : Cx} {W : WX}
theorem CxS.tr (c : CxS Γ T G N sc lv X W) {W' : WX} {pn : List (Addr × Obj)} {xe : Value → Shared → Prop} (tk : Takes (X.tr pn xe) W') (po : PassesOwn (model X.prog X.w) X.A X.env xe) : CxS Γ T G N sc lv (X.tr pn xe) W' :=
  ⟨⟨c.cx.md, c.cx.hN, c.cx.nd, c.cx.hsc, c.cx.un, c.cx.gd, c.cx.cold, tk, kept0, (fun _ _ _ _ _ z => nomatch z), fun _ _ _ _ _ _ _ z => nomatch z⟩, po, c.fn, c.stk, c.frm, c.kd⟩
theorem Cxt.suite (c : Cxt Γ T G false N sc lv X W X0) {i : Nat} {n : Str} (hi : N[i]? = some n) (k : Nat) (v : D) (a : Addr) (oe : Obj) (cls : Value) (d : Option Addr) (pn : List (Addr × Obj)) (hz : Zc cls d oe) (hf : ∃ vs, oe.data = .fields vs) :
    Cxt { Γ with eh := some n } T { G with cur := some (k, v) } true N sc lv (X.suite a ((a, oe) :: pn)) W0 (ΞH T k v a cls d i) := by
  have md := c.md
  refine ⟨⟨md.hK, md.fns, md.fks, md.gls, md.gas, md.blt, md.ncn, md.exc, md.mks, md.tgs, md.sub, md.ef, md.fl, md.lv1, ⟨md.ob.isf, md.ob.cst, md.ob.prp, md.ob.met, md.ob.ini, md.ob.nam, md.ob.isa, md.ob.isd, md.ob.nks⟩⟩, c.hN, c.nd, c.hsc, c.un, c.gd, (fun z => nomatch z), takes0, keptH, fun f x m p q _ he hl hv hn => ?_, fun j x cn p p2 p3 q _ he hl hv hn hgc hnc hgi => ?_⟩
  · have ex : n = x := Option.some.inj he
    subst ex
    refine ok_eget md.ef (fun hk => ?_) hz hf (by rw [c.hN]; exact hi) (by rw [c.hsc]; exact vis_of hv) (nm_of hn).1 (nm_of hn).2 (md.fl f m hl).1.symm
    rw [md.ncn] at hk
    obtain ⟨_, h2, _, h3⟩ := md.exc k _ (List.getElem?_eq_getElem hk)
    exact ⟨h2, h3⟩
  · have ex : n = x := Option.some.inj he
    subst ex
    refine ok_eis (G := G) (fun hk => ?_) (fun hk => (md.sub k j hk (List.getElem?_eq_some_iff.mp hl).1).2) hz hf (by rw [c.hN]; exact hi) (by rw [c.hsc]; exact vis_of hv) (nm_of hn).1 (nm_of hn).2 ⟨gl_of c.hsc hgc, (nm_of hnc).1, md.tgs j cn hl⟩ (gl_of c.hsc hgi) (md.blt _ (by decide +kernel))
    rw [md.ncn] at hk
    exact (md.exc k _ (List.getElem?_eq_getElem hk)).2.2.1
theorem Cxt.suiteN (c : Cxt Γ T G false N sc lv X W X0) (k : Nat) (v : D) (a : Addr) (oe : Obj) (pn : List (Addr × Obj)) :
    Cxt { Γ with eh := none } T { G with cur := some (k, v) } true N sc lv (X.suite a ((a, oe) :: pn)) W0 X0 := by
  have md := c.md
  exact ⟨⟨md.hK, md.fns, md.fks, md.gls, md.gas, md.blt, md.ncn, md.exc, md.mks, md.tgs, md.sub, md.ef, md.fl, md.lv1, ⟨md.ob.isf, md.ob.cst, md.ob.prp, md.ob.met, md.ob.ini, md.ob.nam, md.ob.isa, md.ob.isd, md.ob.nks⟩⟩, c.hN, c.nd, c.hsc, c.un, c.gd, (fun z => nomatch z), takes0, kept0, (fun f x m p q _ he => nomatch he), fun j x cn p p2 p3 q _ he => nomatch he⟩
/-- raise C(e) -/
theorem mk_raise (c : Cxt Γ T G false N sc lv X W X0) {k : Nat} {x : Str} {p q : Pos} {e : Expr} {y : C} (hk : Γ.cn[k]? = some x) (hm : Γ.mkb[k]? = some true) (hg : glB sc x = true) (hn : okNm x = true) (he : PE X e (tEv T W X0 (ev G y))) (hp : plainE e = true) :
    PMk X (.Call (.Name x p) [e] [] q) (tMkX T k (tEv T W X0 (ev G y))) := by
  have md := c.md
  have mk := md.mks k hm
  obtain ⟨hmg, _, _⟩ := md.exc k x hk
  have e1 : starEach [e] X.env = (false, eval e X.env) :: starEach [] X.env := star_plain hp
  unfold MkOk at mk
  unfold tMkX
  cases hef : T.ef k with
  | none =>
    rw [hef] at mk
    obtain ⟨⟨B, n1, n2, bm, F, hin⟩, kC, s1, t1⟩ := mk
    exact SkE.pmk_own1 F hin hmg kC (raises_own s1 t1) (gl_of c.hsc hg) he e1 (nm_of hn).1
  | some f =>
    rw [hef] at mk
    obtain ⟨o, fI, fd, ps, i1, i2, F, hb⟩ := mk
    have key := pmk_oex (pos := q) (p := p) o i1 i2 F ((c.cold rfl).2.mono (by have := md.lv1; omega)) hb .nil pass0 (gl_of c.hsc hg) hmg (pa_cons he pa_nil e1) (nm_of hn).1 e1 rfl
    intro pins s σ H Q I h
    refine key pins s σ H Q I (tEv.imp h fun v H1 q => ⟨by simp, fun a ha => ⟨a, v, rfl, upd_same, fun d hd hda => ⟨rfl, d, [(T.fld f, v)], upd_same, ?_, ?_, ?_⟩⟩⟩)
    · rw [upd_ne hda, upd_same]
    · rw [upd_ne hda] at hd
      exact hd
    · have hd1 : H1 d = none := by
        rw [upd_ne hda] at hd
        exact hd
      have e2 : upd (del (upd (upd (upd H1 a (exo a (T.cls k) none)) d (exd d [(T.fld f, v)])) a (exo a (T.cls k) (some d))) a) d (.xd [(T.fld f, v)]) = upd H1 d (.xd [(T.fld f, v)]) := by
        funext b
        by_cases hb : b = d
        · subst hb
          rw [upd_same, upd_same]
        · rw [upd_ne hb, upd_ne hb]
          by_cases hba : b = a
          · subst hba
            rw [del_same, ha]
          · rw [del_ne hba, upd_ne hba, upd_ne hb, upd_ne hba]
      rw [e2]
      exact q d hd1
end
end PV

namespace PV
open PySem L2 PyProof.Rows RZ

structure OkS (Γ : Sy) (T : Tb) (G : Gv) (N : List Str) (lv : Nat) (c : C) : Prop where
  m : ∀ {sc X W}, CxS Γ T G N sc lv X W → ∀ {cs : List MatchCase}, ckM Γ N sc c cs = true → CasesOk X T W G cs c
  q : ∀ {sc X W}, CxS Γ T G N sc lv X W → ∀ {body : List Stmt}, (match (generalizing := false) c with | .case_ _ b => ckSs Γ N sc b body | _ => false) = true → PSs X body (tSt T W (ex G (match c with | .case_ _ b => b | c => c)))
  s : ∀ {sc X W}, CxS Γ T G N sc lv X W → ∀ {st : Stmt}, ckS Γ N sc c st = true → PS X st (tSt T W (ex G c))
  b : ∀ {sc X W}, CxS Γ T G N sc lv X W → ∀ {sts : List Stmt}, ckSs Γ N sc c sts = true → PSs X sts (tSt T W (ex G c))
section
variable {Γ : Sy} {T : Tb} {G : Gv} {N : List Str} {sc : Scope} {lv : Nat} {X : Cx} {W : WX}
theorem CxS.tg (c : CxS Γ T G N sc lv X W) {tg : Tg} {t : Expr} (h : ckTg N (locB sc) tg t = true) : PG X t (tTg T tg) :=
  tg_ok (X' := X) (ok := locB sc) c.cx.md.hK (c.cx.cold rfl).1 c.cx.hN c.cx.nd (fun x hx => ⟨by rw [c.cx.hsc]; exact loc_of hx, .inl (c.fn x)⟩) h
theorem as_sub {a b : Expr} {p : Pos} {env : PySem.Env} (h : isSlice b = false) (v : Value) : assign (.Subscript a b p) env v = (do
      let ov ← holding [v] (eval a env)
      let iv ← holding [v, ov] (eval b env)
      standAt p
      holding [v, ov, iv] (setItem ov iv v)
      release [v, ov, iv] []) := by
  cases b <;> first | rfl | cases h
theorem cks_tail {hot : Bool} {p r : C} {a : Expr} {es : List Expr} (h : cks Γ N hot sc (.cons p r) (a :: es) = true) : cks Γ N hot sc r es = true := by
  rcases star_inv h with ⟨_, _, _, _, _, _, q⟩ | ⟨_, _, _, q⟩ <;> exact q
theorem cks2 {hot : Bool} {ys : C} {a b : Expr} (h : cks Γ N hot sc ys [a, b] = true) : ∃ p q, ys = .cons p (.cons q .nil) := by
  cases ys <;> first | (exact noT h) | skip
  rename_i p r
  have h' := cks_tail h
  cases r <;> first | (exact noT h') | skip
  rename_i q r
  have h2 := cks_tail h'
  cases r <;> first | (exact noT h2) | (exact (cks_nil h2).elim) | skip
  exact ⟨p, q, rfl⟩
theorem inv_comp {m : Bool} {tg : Tg} {src cnd el : C} {e : Expr} (h : ck Γ N false sc (.comp m tg src cnd el) e = true) : ∃ x t it ifs scope p, e = .ListComp x [⟨t, it, ifs, 0⟩] scope p := by
  match e, h with
  | .ListComp x [⟨t, it, ifs, 0⟩] scope p, h => exact ⟨x, t, it, ifs, scope, p, rfl⟩
theorem inv_comp2 {m : Bool} {tg tg2 : Tg} {src cnd src2 cnd2 el : C} {e : Expr} (h : ck Γ N false sc (.comp2 m tg src cnd tg2 src2 cnd2 el) e = true) : ∃ x t it ifs t2 it2 ifs2 scope p, e = .ListComp x [⟨t, it, ifs, 0⟩, ⟨t2, it2, ifs2, 0⟩] scope p := by
  match e, h with
  | .ListComp x [⟨t, it, ifs, 0⟩, ⟨t2, it2, ifs2, 0⟩] scope p, h => exact ⟨x, t, it, ifs, t2, it2, ifs2, scope, p, rfl⟩
theorem sw_true2 {x : Expr} {gs : List Comprehension} {scope : Scope} {lp px : Pos} {l : Nat} {n : Str} {env : PySem.Env} (hk : env.scope.kind = .function) (hn : env.scope.names.lookup n = some .local) (hl : (px.line == lp.line) = true) (hs : (scope.names.any fun (m, k) => m == n && (k == .local || k == .cell)) = false) :
    swapsWith (.ListComp x gs scope lp) (some (.Name n px)) l env = pure true := by
  have hb : env.blockKind = .function := by unfold Env.blockKind; rw [hk]; rfl
  have kx : env.kindOf n = some .local := hn
  show (pure (env.blockKind == .function && env.kindOf n == some .local && px.line == lp.line && !(scope.names.any fun (m, k) => m == n && (k == .local || k == .cell))) : Sem Bool) = pure true
  rw [hb, kx, hl, hs]
  rfl
/-- the cases' text is right -/
theorem pq_ok (c : CxS Γ T G N sc lv X W) {q : Pq} {p : Pattern} (h : ckPq N (locB sc) q p = true) : PqOk X T p q := by
  cases q with
  | wild =>
    cases p <;> first | (exact noT h) | skip
    rename_i a b pp
    cases a <;> cases b <;> first | (exact noT h) | exact .wild
  | cap i =>
    cases p <;> first | (exact noT h) | skip
    rename_i a b pp
    cases a <;> cases b <;> first | (exact noT h) | skip
    rename_i x
    obtain ⟨h1, h2⟩ := and3 (show (decide (N[i]? = some x) && locB sc x) = true from h)
    exact .cap (by rw [c.cx.hN]; exact of_decide_eq_true h1) (by rw [c.cx.hsc]; exact loc_of h2) (.inl (c.fn x))
  | val d =>
    cases p <;> first | (exact noT h) | skip
    rename_i e pp
    cases e <;> first | (exact noT h) | skip
    rename_i k j p2
    cases d <;> cases k <;> first | (exact noT h) | skip
    · exact .val pe_non fun _ => .non
    · cases of_decide_eq_true (show decide _ = true from h)
      exact .val pe_bl fun _ => .bl _
    · cases of_decide_eq_true (show decide _ = true from h)
      exact .val pe_int fun _ => .int _
    · cases of_decide_eq_true (show decide _ = true from h)
      exact .val pe_str fun _ => .str _
theorem pqs_ok (c : CxS Γ T G N sc lv X W) : ∀ {qs : List Pq} {ps : List Pattern}, ckPqs N (locB sc) qs ps = true → PqsOk X T ps qs
  | [], [], _ => .nil
  | [], _ :: _, h => noT h
  | _ :: _, [], h => noT h
  | q :: qs, p :: ps, h => by
    obtain ⟨h1, h2⟩ := and3 (show (ckPq N (locB sc) q p && ckPqs N (locB sc) qs ps) = true from h)
    exact .cons (pq_ok c h1) (pqs_ok c h2)
theorem pt_ok (c : CxS Γ T G N sc lv X W) {q : Pt} {p : Pattern} (h : ckPt N (locB sc) q p = true) : PtOk X T p q := by
  cases q with
  | one q => exact .one (pq_ok c h)
  | seq qs =>
    cases p <;> first | (exact noT h) | skip
    rename_i ps pp
    obtain ⟨h1, h3⟩ := and3 (show (ckPqs N (locB sc) qs ps && (ps.findIdx? (·.isStar)).isNone && !(ps.all fun p => p.isWildcard || (p.isStar && p.names.isEmpty))) = true from h)
    obtain ⟨h1, h2⟩ := and3 h1
    exact .seq (pqs_ok c h1) (by simpa using h2) (by simpa using h3)
theorem s_set (c : CxS Γ T G N sc lv X W) {tg : Tg} {y : C} {st : Stmt} (h : ckS Γ N sc (.set tg y) st = true) : PS X st (tSt T W (ex G (.set tg y))) := by
  have cx := c.cx
  have oy := okC Γ T G N lv y
  cases st <;> first | (exact noT h) | skip
  rename_i ts e pos
  cases ts with
  | nil => exact noT h
  | cons t ts =>
    cases ts with
    | cons _ _ => exact noT h
    | nil =>
    by_cases hlc : ∃ x gs scope lp, e = .ListComp x gs scope lp
    · obtain ⟨x, gs, scope, lp, rfl⟩ := hlc
      cases tg with
      | deep _ => exact noT h
      | tup _ => exact noT h
      | one i =>
        cases t <;> first | (exact noT h) | skip
        rename_i n px
        obtain ⟨h1, h3⟩ := and3 (show (decide (N[i]? = some n) && ck Γ N false sc y (.ListComp x gs scope lp) && (if lcl sc n then (px.line == lp.line) && !(scope.names.any fun (m, k) => m == n && (k == .local || k == .cell)) && isComp y else locB sc n)) = true from h)
        obtain ⟨h1, h2⟩ := and3 h1
        have hi := of_decide_eq_true h1
        by_cases hl : lcl sc n = true
        · rw [if_pos hl] at h3
          obtain ⟨h31, h5⟩ := and3 h3
          obtain ⟨h32, h4⟩ := and3 h31
          have hkd : X.env.scope.kind = .function := by rw [cx.hsc]; exact c.kd
          have hnl : X.env.scope.names.lookup n = some .local := by rw [cx.hsc]; exact lcl_of hl
          cases y <;> first | (exact noT h5) | skip
          · rename_i m tg2 src cnd el
            obtain ⟨_, t2, it, ifs, _, _, ee⟩ := inv_comp h2
            cases ee
            have h2' : (blkC N sc scope (ownOf N tg2) && ckTg N (locB scope) tg2 t2 && ckI Γ N false sc src it t2 && noSet it && (match (generalizing := false) ifs with | [] => isNil cnd | [y] => ckT Γ N false (relS scope sc) cnd y | _ => false) && ck Γ N false (relS scope sc) el x) = true := h2
            obtain ⟨q1, q2, q3, q4, q5, q6, q7, q8⟩ := compPs (okC Γ T G N lv src) (okC Γ T G N lv cnd) (okC Γ T G N lv el) cx h2'
            exact ok_setC (ok_setComp q1 q2 (by rw [cx.hN]; exact hi) hnl (sw_true hkd hnl h32 (by simpa using h4)) q3 q4 (own_slots N tg2) q5 q6 q7 q8)
          · rename_i m tg2 src cnd tg3 src3 cnd3 el
            obtain ⟨_, t2, it, ifs, t3, it3, ifs3, _, _, ee⟩ := inv_comp2 h2
            cases ee
            have h2' : (blkC N sc scope (ownOf N tg2 ++ ownOf N tg3) && ckTg N (locB scope) tg2 t2 && ckI Γ N false sc src it t2 && noSet it && (match (generalizing := false) ifs with | [] => isNil cnd | [y] => ckT Γ N false (relS scope sc) cnd y | _ => false) && ckTg N (locB scope) tg3 t3 && ckI Γ N false (relS scope sc) src3 it3 t3 && noSet it3 && (match (generalizing := false) ifs3 with | [] => isNil cnd3 | [y] => ckT Γ N false (relS scope sc) cnd3 y | _ => false) && ck Γ N false (relS scope sc) el x) = true := h2
            obtain ⟨q1, q2, q3, q4, q5, q6, q7, q8, q9, q10, q11, q12⟩ := compPs2 (okC Γ T G N lv src) (okC Γ T G N lv cnd) (okC Γ T G N lv src3) (okC Γ T G N lv cnd3) (okC Γ T G N lv el) cx h2'
            exact ok_setC (ok_setComp2 q1 q2 (by rw [cx.hN]; exact hi) hnl (sw_true2 hkd hnl h32 (by simpa using h4)) q3 q4 (own_slots2 N tg2 tg3) q5 q6 q7 q8 q9 q10 q11 q12)
        · rw [if_neg hl] at h3
          have htg : ckTg N (locB sc) (.one i) (.Name n px) = true := by
            show (decide (N[i]? = some n) && locB sc n) = true
            rw [h1, h3]
            rfl
          have hcell : X.env.scope.names.lookup n = some .cell := by
            rw [cx.hsc]
            rcases loc_of h3 with q | q
            · exfalso
              apply hl
              unfold lcl
              rw [q]
            · exact q
          exact ok_set (oy.e cx h2) (c.tg htg) (sw_cell hcell (by rw [cx.hsc]; exact c.kd)) st_nm rfl
    · by_cases htu : ∃ vs k p, e = .Tuple vs k p
      · obtain ⟨vs, k, p, rfl⟩ := htu
        by_cases hnm : ∃ n px, t = .Name n px
        · obtain ⟨n, px, rfl⟩ := hnm
          have h' : (ckTg N (locB sc) tg (.Name n px) && ck Γ N false sc y (.Tuple vs k p)) = true := by
            cases tg <;> exact h
          obtain ⟨h1, h2⟩ := and3 h'
          exact ok_set (oy.e cx h2) (c.tg h1) (sw_no rfl) st_nm rfl
        · cases tg with
          | deep _ => cases t <;> first | (exact absurd ⟨_, _, rfl⟩ hnm) | (exact noT h)
          | one _ => cases t <;> first | (exact absurd ⟨_, _, rfl⟩ hnm) | (exact noT h)
          | tup is =>
            cases t <;> first | (exact absurd ⟨_, _, rfl⟩ hnm) | (exact noT h) | skip
            rename_i es kt pt
            obtain ⟨ha, h4⟩ := and3 (show (isNm2 N sc is es && parOk es vs && ck Γ N false sc y (.Tuple vs k p) && isTupC y) = true from h)
            obtain ⟨hb, h3⟩ := and3 ha
            obtain ⟨h1, h2⟩ := and3 hb
            obtain ⟨ys, rfl⟩ : ∃ ys, y = .tup ys := by
              cases y <;> first | (exact noT h4) | (exact ⟨_, rfl⟩)
            cases is with
            | nil => exact noT h1
            | cons i is =>
            cases is with
            | nil => exact noT h1
            | cons j is =>
            cases is with
            | cons _ _ => exact noT h1
            | nil =>
            cases es with
            | nil => exact noT h1
            | cons e1 es =>
            cases es with
            | nil => cases e1 <;> exact noT h1
            | cons e2 es =>
            cases es with
            | cons _ _ => cases e1 <;> first | (exact noT h1) | (cases e2 <;> exact noT h1)
            | nil =>
              obtain ⟨x, px, rfl⟩ : ∃ x px, e1 = .Name x px := by
                cases e1 <;> first | (exact noT h1) | (exact ⟨_, _, rfl⟩)
              obtain ⟨z, pz, rfl⟩ : ∃ x px, e2 = .Name x px := by
                cases e2 <;> first | (exact noT h1) | (exact ⟨_, _, rfl⟩)
              obtain ⟨hd, g5⟩ := and3 (show (decide (N[i]? = some x) && decide (N[j]? = some z) && decide (i ≠ j) && lcl sc x && lcl sc z) = true from h1)
              obtain ⟨he, g4⟩ := and3 hd
              obtain ⟨hf, g3⟩ := and3 he
              obtain ⟨g1, g2⟩ := and3 hf
              cases vs with
              | nil => exact noT h2
              | cons a vs =>
              cases vs with
              | nil => exact noT h2
              | cons b vs =>
              cases vs with
              | cons _ _ => exact noT h2
              | nil =>
                have h3' : cks Γ N false sc ys [a, b] = true := h3
                have pa := (okC Γ T G N lv ys).s cx h3'
                obtain ⟨p1, p2, rfl⟩ := cks2 h3'
                have hx : X.env.scope.names.lookup x = some .local := by rw [cx.hsc]; exact lcl_of g4
                have hz : X.env.scope.names.lookup z = some .local := by rw [cx.hsc]; exact lcl_of g5
                exact ok_par (cx.cold rfl).1 (by rw [cx.hN]; exact cx.nd) (by rw [cx.hN]; exact of_decide_eq_true g1) (by rw [cx.hN]; exact of_decide_eq_true g2) (of_decide_eq_true g3) hx hz pa (st_par (by rw [cx.hsc]; exact c.kd) hx hz h2) (sw_no rfl)
      · have h' : (ckTg N (locB sc) tg t && ck Γ N false sc y e && noComp e) = true := by
          cases e <;> first | exact h | exact absurd ⟨_, _, _, _, rfl⟩ hlc | exact absurd ⟨_, _, _, rfl⟩ htu
        obtain ⟨h1, h3⟩ := and3 h'
        obtain ⟨h1, h2⟩ := and3 h1
        have hnt : isTup e = false := by
          cases e <;> first | rfl | exact absurd ⟨_, _, _, rfl⟩ htu
        exact ok_set (oy.e cx h2) (c.tg h1) (sw_no h3) (st_no hnt) (ae_tg h1)
theorem inv_raise {k : Nat} {e : C} {st : Stmt} (h : ckS Γ N sc (.raise_ k e) st = true) : ∃ x p y q pos, st = .Raise (some (.Call (.Name x p) [y] [] q)) none pos := by
  cases st <;> first | (exact noT h) | skip
  rename_i a b pos
  cases a with
  | none => exact noT h
  | some a =>
  cases a <;> first | (exact noT h) | skip
  rename_i f as ks q
  cases f <;> first | (exact noT h) | skip
  rename_i x p
  cases as with
  | nil => exact noT h
  | cons y as =>
  cases as with
  | cons _ _ => exact noT h
  | nil =>
  cases ks with
  | cons _ _ => exact noT h
  | nil =>
  cases b with
  | some _ => exact noT h
  | none => exact ⟨x, p, y, q, pos, rfl⟩
theorem inv_try {b hs : C} {st : Stmt} (h : ckS Γ N sc (.try_ b hs) st = true) : ∃ body h0 hl pos, st = .Try body (h0 :: hl) [] [] pos := by
  cases st <;> first | (exact noT h) | skip
  rename_i body hl e f pos
  cases hl with
  | nil => exact noT h
  | cons h0 hl =>
    cases e with
    | cons _ _ => exact noT h
    | nil =>
      cases f with
      | cons _ _ => exact noT h
      | nil => exact ⟨body, h0, hl, pos, rfl⟩
theorem inv_hand {h0 : ExceptHandler} {x : Str} {n : Option Str} {e : Expr} (h : handP h0 = some (x, n, e)) : ∃ p rp ep, h0 = .ExceptHandler (some (.Name x p)) n [.Return (some e) rp] ep := by
  unfold handP at h
  split at h
  · cases h
    exact ⟨_, _, _, rfl⟩
  · cases h
theorem hp_some {o : Option (Str × Option Str × Expr)} {f : Str × Option Str × Expr → Bool} (h : (match (generalizing := false) o with | some q => f q | none => false) = true) : ∃ q, o = some q ∧ f q = true := by
  cases o with
  | none => cases h
  | some q => exact ⟨q, rfl, h⟩
/-- the clauses' text is right -/
theorem cls_ok (c : Cxt Γ T G false N sc lv X W X0) : ∀ {hs : C} {hl : List ExceptHandler}, ckH Γ N sc hs hl = true → IsCl hs ∧ (∀ j, j ∈ clsOf hs → j < Γ.tn.length) ∧ ClaOk X hl (clas T G hs) := by
  intro hs
  induction hs with
  | nil =>
    intro hl h
    cases hl with
    | nil => exact ⟨.nil, (fun j z => nomatch z), .nil⟩
    | cons _ _ => exact noT h
  | cons a r iha ihr =>
    intro hl h
    cases hl with
    | nil => cases a <;> exact noT h
    | cons h0 hl =>
      cases a <;> first | (exact noT h) | skip
      · rename_i x i y
        obtain ⟨h1, h2⟩ := and3 (show ((match (generalizing := false) handP h0 with
          | some (cx, some n, he) => decide (Γ.tn[x]? = some cx) && glB sc cx && okNm cx && decide (N[i]? = some n) && lcl sc n && ck { Γ with eh := some n } N true sc y he
          | _ => false) && ckH Γ N sc r hl) = true from h)
        obtain ⟨q1, q2, q3⟩ := ihr h2
        cases hp : handP h0 with
        | none => rw [hp] at h1; exact noT h1
        | some q =>
          rw [hp] at h1
          obtain ⟨cx, n, he⟩ := q
          cases n with
          | none => exact noT h1
          | some n =>
            obtain ⟨h1, g6⟩ := and3 (show (decide (Γ.tn[x]? = some cx) && glB sc cx && okNm cx && decide (N[i]? = some n) && lcl sc n && ck { Γ with eh := some n } N true sc y he) = true from h1)
            obtain ⟨h1, g5⟩ := and3 h1
            obtain ⟨h1, g4⟩ := and3 h1
            obtain ⟨h1, g3⟩ := and3 h1
            obtain ⟨g1, g2⟩ := and3 h1
            have hx := of_decide_eq_true g1
            have hi := of_decide_eq_true g4
            obtain ⟨p, rp, ep, rfl⟩ := inv_hand hp
            refine ⟨.nam q1, fun j hj => ?_, ?_⟩
            · rcases List.mem_cons.mp (show j ∈ x :: clsOf r from hj) with e | e
              · rw [e]
                exact (List.getElem?_eq_some_iff.mp hx).1
              · exact q2 j e
            · exact .named ⟨gl_of c.hsc g2, (nm_of g3).1, c.md.tgs x cx hx⟩ (by rw [c.hN]; exact hi) (by show X.env.scope.names.lookup n = _; rw [c.hsc]; exact lcl_of g5) (su_named fun k v a oe cls d pn hz hf => (okC _ T _ N lv y).e (c.suite hi k v a oe cls d pn hz hf) g6) q3
      · rename_i x y
        obtain ⟨h1, h2⟩ := and3 (show ((match (generalizing := false) handP h0 with
          | some (cx, none, he) => decide (Γ.tn[x]? = some cx) && glB sc cx && okNm cx && ck { Γ with eh := none } N true sc y he
          | _ => false) && ckH Γ N sc r hl) = true from h)
        obtain ⟨q1, q2, q3⟩ := ihr h2
        cases hp : handP h0 with
        | none => rw [hp] at h1; exact noT h1
        | some q =>
          rw [hp] at h1
          obtain ⟨cx, n, he⟩ := q
          cases n with
          | some n => exact noT h1
          | none =>
            obtain ⟨h1, g6⟩ := and3 (show (decide (Γ.tn[x]? = some cx) && glB sc cx && okNm cx && ck { Γ with eh := none } N true sc y he) = true from h1)
            obtain ⟨h1, g3⟩ := and3 h1
            obtain ⟨g1, g2⟩ := and3 h1
            have hx := of_decide_eq_true g1
            obtain ⟨p, rp, ep, rfl⟩ := inv_hand hp
            refine ⟨.bar q1, fun j hj => ?_, ?_⟩
            · rcases List.mem_cons.mp (show j ∈ x :: clsOf r from hj) with e | e
              · rw [e]
                exact (List.getElem?_eq_some_iff.mp hx).1
              · exact q2 j e
            · exact .bare ⟨gl_of c.hsc g2, (nm_of g3).1, c.md.tgs x cx hx⟩ (su_bare fun k v a oe cls d pn hz hf => (okC _ T _ N lv y).e (c.suiteN k v a oe pn) g6) q3
  | _ =>
    intro hl h
    exact noT h
theorem okS (Γ : Sy) (T : Tb) (G : Gv) (N : List Str) (lv : Nat) (c : C) : OkS Γ T G N lv c := by
  induction c with
  | nil =>
    refine ⟨?_, ?_, ?_, ?_⟩
    · intro sc X W c cs h
      cases cs with
      | nil => exact .nil
      | cons _ _ => exact noT h
    · intros; rename_i h; exact noT h
    · intros; rename_i h; exact noT h
    · intro sc X W c sts h
      cases sts with
      | nil => exact ok_sNil
      | cons _ _ => exact noT h
  | cons a b iha ihb =>
    refine ⟨?_, ?_, ?_, ?_⟩
    · intro sc X W c cs h
      cases a <;> first | (exact noT h) | skip
      rename_i q bd
      cases cs with
      | nil => exact noT h
      | cons c0 cs =>
        obtain ⟨h1, h2⟩ := and3 (show ((match (generalizing := false) caseP c0 with | some (p, body) => ckPt N (locB sc) q p && ckSs Γ N sc bd body | none => false) && ckM Γ N sc b cs) = true from h)
        obtain ⟨p, g, body⟩ := c0
        cases g with
        | some _ => exact noT h1
        | none =>
          obtain ⟨h3, h4⟩ := and3 (show (ckPt N (locB sc) q p && ckSs Γ N sc bd body) = true from h1)
          exact .cons (pt_ok c h3) (iha.q c h4) (ihb.m c h2)
    · intros; rename_i h; exact noT h
    · intros; rename_i h; exact noT h
    · intro sc X W c sts h
      by_cases hf : isFrz a = true
      · cases a <;> first | (exact noT hf) | skip
        · exact ok_frzA (ihb.b c h)
        · exact ok_frzV (ihb.b c h)
      · have h' : (match (generalizing := false) sts with | st :: sts => ckS Γ N sc a st && ckSs Γ N sc b sts | [] => false) = true := by
          have q : (if isFrz a then ckSs Γ N sc b sts else match (generalizing := false) sts with | st :: sts => ckS Γ N sc a st && ckSs Γ N sc b sts | [] => false) = true := h
          rw [if_neg hf] at q
          exact q
        cases sts with
        | nil => exact noT h'
        | cons st sts =>
          obtain ⟨h1, h2⟩ := and3 (show (ckS Γ N sc a st && ckSs Γ N sc b sts) = true from h')
          exact ok_sCons (fun i e => hf (by rw [e]; rfl)) (fun i f e => hf (by rw [e]; rfl)) (iha.s c h1) (ihb.b c h2)
  | set tg y _ =>
    refine ⟨?_, ?_, ?_, ?_⟩
    · intros; rename_i h; exact noT h
    · intros; rename_i h; exact noT h
    · intro sc X W c st h
      exact s_set c h
    · intros; rename_i h; exact noT h
  | stI a i e _ _ _ =>
    refine ⟨?_, ?_, ?_, ?_⟩
    · intros; rename_i h; exact noT h
    · intros; rename_i h; exact noT h
    · intro sc X W c st h
      cases st <;> first | (exact noT h) | skip
      rename_i ts z pos
      cases ts with
      | nil => exact noT h
      | cons t ts =>
      cases ts with
      | cons _ _ => cases t <;> exact noT h
      | nil =>
        cases t <;> first | (exact noT h) | skip
        rename_i x y p
        obtain ⟨h1, h5⟩ := and3 (show (!isSlice y && ck Γ N false sc a x && ck Γ N false sc i y && ck Γ N false sc e z && noComp z) = true from h)
        obtain ⟨h1, h4⟩ := and3 h1
        obtain ⟨h1, h3⟩ := and3 h1
        obtain ⟨h1, h2⟩ := and3 h1
        exact ok_stI c.cx.un ((okC Γ T G N lv a).e c.cx h2) ((okC Γ T G N lv i).e c.cx h3) ((okC Γ T G N lv e).e c.cx h4) (sw_no h5) st_sub rfl (fun v => as_sub (by simpa using h1) v)
    · intros; rename_i h; exact noT h
  | expr y _ =>
    refine ⟨?_, ?_, ?_, ?_⟩
    · intros; rename_i h; exact noT h
    · intros; rename_i h; exact noT h
    · intro sc X W c st h
      cases st <;> first | (exact noT h) | skip
      · rename_i e pos
        obtain ⟨h1, h2⟩ := and3 (show (ck Γ N false sc y e && noComp e) = true from h)
        exact ok_expr ((okC Γ T G N lv y).e c.cx h1) (by cases e <;> first | rfl | cases h2)
    · intros; rename_i h; exact noT h
  | ret y _ =>
    refine ⟨?_, ?_, ?_, ?_⟩
    · intros; rename_i h; exact noT h
    · intros; rename_i h; exact noT h
    · intro sc X W c st h
      cases st <;> first | (exact noT h) | skip
      rename_i v pos
      cases v with
      | none => exact noT h
      | some e => exact ok_ret ((okC Γ T G N lv y).e c.cx h)
    · intros; rename_i h; exact noT h
  | retN =>
    refine ⟨?_, ?_, ?_, ?_⟩
    · intros; rename_i h; exact noT h
    · intros; rename_i h; exact noT h
    · intro sc X W c st h
      cases st <;> first | (exact noT h) | skip
      rename_i v pos
      cases v with
      | some e => exact noT h
      | none => exact ok_retN
    · intros; rename_i h; exact noT h
  | ifs t a b _ iha ihb =>
    refine ⟨?_, ?_, ?_, ?_⟩
    · intros; rename_i h; exact noT h
    · intros; rename_i h; exact noT h
    · intro sc X W c st h
      cases st <;> first | (exact noT h) | skip
      · rename_i x sa sb pos
        obtain ⟨h1, h3⟩ := and3 (show (ckT Γ N false sc t x && ckSs Γ N sc a sa && ckSs Γ N sc b sb) = true from h)
        obtain ⟨h1, h2⟩ := and3 h1
        exact ok_if ((okC Γ T G N lv t).t c.cx h1) (iha.b c h2) (ihb.b c h3)
    · intros; rename_i h; exact noT h
  | for_ tg src b _ ihb =>
    refine ⟨?_, ?_, ?_, ?_⟩
    · intros; rename_i h; exact noT h
    · intros; rename_i h; exact noT h
    · intro sc X W c st h
      cases st <;> first | (exact noT h) | skip
      rename_i t it body els pos
      cases els with
      | cons _ _ => exact noT h
      | nil =>
        obtain ⟨h1, h4⟩ := and3 (show (ckTg N (locB sc) tg t && ckI Γ N false sc src it t && noSet it && ckSs Γ N sc b body) = true from h)
        obtain ⟨h1, h3⟩ := and3 h1
        obtain ⟨h1, h2⟩ := and3 h1
        exact ok_for c.po (c.cx.cold rfl).1 ((okC Γ T G N lv src).i c.cx h2) (c.tg h1) (ihb.b c h4) (fun x => fold_of h3 x)
    · intros; rename_i h; exact noT h
  | while_ t b _ ihb =>
    refine ⟨?_, ?_, ?_, ?_⟩
    · intros; rename_i h; exact noT h
    · intros; rename_i h; exact noT h
    · intro sc X W c st h
      cases st <;> first | (exact noT h) | skip
      rename_i x body els pos
      cases els with
      | cons _ _ => exact noT h
      | nil =>
        obtain ⟨h1, h2⟩ := and3 (show (ckT Γ N false sc t x && ckSs Γ N sc b body) = true from h)
        exact ok_while c.po ((okC Γ T G N lv t).t c.cx h1) (ihb.b c h2)
    · intros; rename_i h; exact noT h
  | raise_ k e _ =>
    refine ⟨?_, ?_, ?_, ?_⟩
    · intros; rename_i h; exact noT h
    · intros; rename_i h; exact noT h
    · intro sc X W c st h
      obtain ⟨x, p, y, q, pos, rfl⟩ := inv_raise h
      · skip
        obtain ⟨h1, h6⟩ := and3 (show (decide (Γ.cn[k]? = some x) && decide (Γ.mkb[k]? = some true) && glB sc x && okNm x && ck Γ N false sc e y && plainE y) = true from h)
        obtain ⟨h1, h5⟩ := and3 h1
        obtain ⟨h1, h4⟩ := and3 h1
        obtain ⟨h1, h3⟩ := and3 h1
        obtain ⟨h1, h2⟩ := and3 h1
        have hk := of_decide_eq_true h1
        exact ok_raise c.cx.md.ef (by rw [c.cx.md.ncn]; exact (List.getElem?_eq_some_iff.mp hk).1) (c.cx.cold rfl).1 c.cx.tk (mk_raise c.cx hk (of_decide_eq_true h2) h3 h4 ((okC Γ T G N lv e).e c.cx h5) h6)
    · intros; rename_i h; exact noT h
  | try_ b hs ihb _ =>
    refine ⟨?_, ?_, ?_, ?_⟩
    · intros; rename_i h; exact noT h
    · intros; rename_i h; exact noT h
    · intro sc X W c st h
      obtain ⟨body, h0, hl, pos, rfl⟩ := inv_try h
      obtain ⟨h1, h2⟩ := and3 (show (ckSs Γ N sc b body && ckH Γ N sc hs (h0 :: hl)) = true from h)
      obtain ⟨ic, hj, ho⟩ := cls_ok c.cx h2
      exact ok_try c.stk c.frm (by rw [c.cx.hN]; exact c.cx.nd) c.cx.tk ic (fun k j hk hm => (c.cx.md.sub k j hk (hj j hm)).1) (fun W' pn xe tk po => ihb.b (c.tr tk po) h1) ho
    · intros; rename_i h; exact noT h
  | pass =>
    refine ⟨?_, ?_, ?_, ?_⟩
    · intros; rename_i h; exact noT h
    · intros; rename_i h; exact noT h
    · intro sc X W c st h
      cases st <;> first | (exact noT h) | skip
      exact ok_pass
    · intros; rename_i h; exact noT h
  | brk =>
    refine ⟨?_, ?_, ?_, ?_⟩
    · intros; rename_i h; exact noT h
    · intros; rename_i h; exact noT h
    · intro sc X W c st h
      cases st <;> first | (exact noT h) | skip
      exact ok_brk
    · intros; rename_i h; exact noT h
  | cnt =>
    refine ⟨?_, ?_, ?_, ?_⟩
    · intros; rename_i h; exact noT h
    · intros; rename_i h; exact noT h
    · intro sc X W c st h
      cases st <;> first | (exact noT h) | skip
      exact ok_cnt
    · intros; rename_i h; exact noT h
  | stA a f e _ _ =>
    refine ⟨?_, ?_, ?_, ?_⟩
    · intros; rename_i h; exact noT h
    · intros; rename_i h; exact noT h
    · intro sc X W c st h
      match st, h with
      | .Assign [.Attribute x n sp] z pos, h =>
        obtain ⟨h1, h3⟩ := and3 (show (decide (Γ.fl[f]? = some n) && ck Γ N false sc a x && ck Γ N false sc e z) = true from h)
        obtain ⟨h1, h2⟩ := and3 h1
        exact ok_stA c.cx.md.ob (c.cx.md.fl f n (of_decide_eq_true h1)).1 ((okC Γ T G N lv a).e c.cx h2) ((okC Γ T G N lv e).e c.cx h3) sw_at
    · intros; rename_i h; exact noT h
  | match_ y cs _ ihcs =>
    refine ⟨?_, ?_, ?_, ?_⟩
    · intros; rename_i h; exact noT h
    · intros; rename_i h; exact noT h
    · intro sc X W c st h
      cases st <;> first | (exact noT h) | skip
      rename_i e cases_ pos
      obtain ⟨h1, h2⟩ := and3 (show (ck Γ N false sc y e && ckM Γ N sc cs cases_) = true from h)
      exact ok_match c.cx.md.hK c.cx.un (c.cx.cold rfl).1 (by rw [c.cx.hN]; exact c.cx.nd) ((okC Γ T G N lv y).e c.cx h1) (ihcs.m c h2)
    · intros; rename_i h; exact noT h
  | case_ p b ihb =>
    refine ⟨?_, ?_, ?_, ?_⟩
    · intros; rename_i h; exact noT h
    · intro sc X W c body h
      exact ihb.b c h
    · intros; rename_i h; exact noT h
    · intros; rename_i h; exact noT h
  | _ =>
    refine ⟨?_, ?_, ?_, ?_⟩
    · intros; rename_i h; exact noT h
    · intros; rename_i h; exact noT h
    · intros; rename_i h; exact noT h
    · intros; rename_i h; exact noT h
end
end PV

namespace PV
open PySem L2 PyProof.Rows RZ

section
variable {X : Cx} {e : Expr} {es : List Expr} {ta : TA} {p1 p2 pos : Pos}
theorem pe_skyinit {x : Str} {Sk : Addr} {mc : Value} {pl : Sem Bool} (hg : Gl X x) (hm : X.mg x = some (.ref Sk)) (r : ClX.CRead X.K Sk mc) (hv : PySem.W.findCls X.K (.ref Sk) mc "__init__" = some (.val (.builtin "ValueError.__init__"))) (ha : PA X (e :: es) ta) (hdb : (x == ("__debug__" : Str)) = false)
    (hc : eval (.Call (.Attribute (.Name x p1) "__init__" p2) (e :: es) [] pos) X.env = (do
      let ov ← eval (.Name x p1) X.env
      standAt p2.atName
      let (f, first) ← holding [ov] (getMethod ov "__init__" pl)
      callWith pos f first (backTo pos (starEach (e :: es) X.env)) (backToKw pos (keywordEach [] X.env))))
    (he : starEach (e :: es) X.env = (false, eval e X.env) :: starEach es X.env) (hpl : (backTo pos (starEach es X.env)).any (·.1) = false) :
    PE X (.Call (.Attribute (.Name x p1) "__init__" p2) (e :: es) [] pos) (tVeI X.K ta) := by
  refine ⟨fun pins s σ H Q I h => ?_⟩
  refine PySem.W.methodCall_KW (ld_glob I hg hm ?_ hdb) hc
  refine PySem.W.method_cls I.kIn r.ga (PySem.W.cls_value I.kIn r.rd hv (by decide +kernel) ?_)
  show wpAny _ _ (callWith pos (Value.builtin "ValueError.__init__") [] (backTo pos (starEach (e :: es) X.env)) []) _ _ _
  refine PyProof.Rows.callWith_method1 (thn (ha.run pos pins _ σ H _ (I.tok _) h) fun us s1 ⟨vs, H1, I1, r1, a, C, ws, ev, hl, T, ea, q⟩ => ?_) he hpl
  subst ev
  cases r1 with
  | @cons _ u0 _ ur ra rw' =>
    obtain rfl : u0 = Value.ref a := ra
    have hlen : ur.length ≤ sizeLine := by
      rw [← Paired.length rw', sizeLine_eq]
      omega
    exact oinit_ok T I1 ea hlen fun s' J => ⟨.non, H1, J, rfl, q⟩
end
/-- the text of an error's __init__ -/
def initB (sk f p txt : Str) (k : Nat) (a1 a2 a3 a4 a5 a6 a7 a8 a9 a10 : Pos) : List Stmt :=
  [.Expr (.Call (.Attribute (.Name sk a1) "__init__" a2) [.Name "self" a3, .Constant (.str txt) k a4] [] a5) a6, .Assign [.Attribute (.Name "self" a7) f a8] (.Name p a9) a10]
theorem init_ok {P : Program} {wl : World} {K : PySem.W.Frag} {mg : Str → Option Value} {base : Heap} {fI Ca Sk : Addr} {fd : FuncData} {mc : Value} {qual sk f p txt : Str} {k : Nat} {a1 a2 a3 a4 a5 a6 a7 a8 a9 a10 : Pos} {st : Stmt}
    (F : Fun K "__init__" qual st fI fd) (S : FnScope ["self", p] ["self", p] (defScope st)) (hb : defBody st = initB sk f p txt k a1 a2 a3 a4 a5 a6 a7 a8 a9 a10)
    (h0 : (defScope st).names.lookup (PySem.Str.ofString "self") = some .local) (h1 : (defScope st).names.lookup p = some .local) (h2 : (defScope st).names.lookup sk = some .globalImplicit) (hp : okNm p = true) (hs : okNm sk = true)
    (o : OexC K Ca) (nf : PySem.W.findIn K (.ref Ca) f = some none) (hm : mg sk = some (.ref Sk)) (r : ClX.CRead K Sk mc) (hv : PySem.W.findCls K (.ref Sk) mc "__init__" = some (.val (.builtin "ValueError.__init__")))
    (hc : ∀ env : PySem.Env, ∃ pl : Sem Bool, eval (.Call (.Attribute (.Name sk a1) "__init__" a2) [.Name "self" a3, .Constant (.str txt) k a4] [] a5) env = (do
      let ov ← eval (.Name sk a1) env
      standAt a2.atName
      let (f, first) ← holding [ov] (getMethod ov "__init__" pl)
      callWith a5 f first (backTo a5 (starEach [.Name "self" a3, .Constant (.str txt) k a4] env)) (backToKw a5 (keywordEach [] env)))) :
    FnOk P wl K mg base CX0 1 fI fd ["self", p] (spI Ca f) := by
  refine F.ok S (fun vs H Q E h => ?_) (fun cdv A outer s H vs Q E hr h => ?_)
  · obtain ⟨a, v, rfl, _⟩ := h
    rfl
  · obtain ⟨a, v, rfl, ha, q⟩ := h
    rw [hb]
    have nd := S.nd
    have v0 : PE (cxOf CX0 P wl K mg base ["self", p] qual (defScope st) fI cdv A outer s H E).nox (.Name "self" a3) (tVar 0) := pe_var rfl (.inl h0) (by decide) (by decide)
    have v0' : PE (cxOf CX0 P wl K mg base ["self", p] qual (defScope st) fI cdv A outer s H E).nox (.Name "self" a7) (tVar 0) := pe_var rfl (.inl h0) (by decide) (by decide)
    have v1 : PE (cxOf CX0 P wl K mg base ["self", p] qual (defScope st) fI cdv A outer s H E).nox (.Name p a9) (tVar 1) := pe_var rfl (.inl h1) (nm_of hp).1 (nm_of hp).2
    obtain ⟨pl, hc⟩ := hc (cxOf CX0 P wl K mg base ["self", p] qual (defScope st) fI cdv A outer s H E).nox.env
    refine ⟨_, pss_cons (ps_expr (pe_skyinit (pl := pl) h2 hm r hv (pa_cons v0 (pa_cons pe_str pa_nil rfl) rfl) (nm_of hs).1 hc rfl rfl) rfl) (pss_one (ps_ost v0' v1 rfl)), ?_⟩
    refine ⟨_, rfl, a, Ca, [.str txt], rfl, by simp, o, ha, _, rfl, _, rfl, a, Ca, rfl, o, nf, .inl ⟨ha, fun d hd hda => q d hd hda⟩⟩
end PV

namespace PV
open PySem L2 PyProof.Rows RZ

def startD (k : Nat) (ds : List D) : Env := ds.map some ++ List.replicate (k - ds.length) none
/-- a text: its defs' bodies and what they ask -/
structure Pg where
  code : Nat → C
  nv : Nat → Nat
  np : Nat → Nat
  df : Nat → List D
  vr : Nat → Bool
  gl : Nat → D
  fu : Nat
  sub : Nat → Nat → Bool
  ef : Nat → Option Nat
  ko : Nat → Bool
  sfn : Nat → Nat
  shp : Nat → Nat × Nat × List (Sum Nat D)
  met : Nat → Nat → Option Nat
  prp : Nat → Nat → Option Nat
  cst : Nat → Nat → Option D
  isf : Nat → Nat → Bool
  ini : Nat → Option Nat
  isa : Nat → Nat → Option Bool
def outR : RS → R D
  | .nx _ S => .ok .non S
  | .rt d S => .ok d S
  | .ex c v _ S => .ex c v S
  | _ => .stuck
/-- the values of the parameters: the arguments, the defaults that are left, the tuple of the rest -/
def Pg.bind (p : Pg) (f : Nat) (ds : List D) : Option (List D) :=
  if p.ko f then none
  else if p.vr f then (if decide (p.np f ≤ ds.length) && fits ds.length then some (ds.take (p.np f) ++ [.tup (ds.drop (p.np f))]) else none)
  else if decide (ds.length ≤ p.np f) && decide (p.np f ≤ ds.length + (p.df f).length) then some (ds ++ (p.df f).drop ((p.df f).length + ds.length - p.np f)) else none
def pickS {α : Type} (z : α) (g : D → α) (us : List α) : Sum Nat D → α
  | .inl j => us.getD j z
  | .inr d => g d
/-- the values of the parameters of a call with names: where each comes from -/
def Pg.arr (p : Pg) (s : Nat) (ds zs : List D) : Option (List D) :=
  if decide (ds.length = (p.shp s).1) && decide (zs.length = (p.shp s).2.1) then some ((p.shp s).2.2.map (pickS .non id (ds ++ zs))) else none
def Pg.gv (p : Pg) (run : Nat → List D → Store → R D) : Gv := ⟨fun f ds S => match p.bind f ds with | some es => run f es S | none => .stuck, p.gl, p.fu, p.sub, p.ef, none, fun s ds zs S => match p.arr s ds zs with | some es => run (p.sfn s) es S | none => .stuck, p.met, p.prp, p.cst, p.isf, p.ini, p.isa⟩
def Pg.run (p : Pg) : Nat → Nat → List D → Store → R D
  | 0, _, _, _ => .stuck
  | d + 1, f, es, S => outR (ex (p.gv (p.run d)) (p.code f) (startD (p.nv f) es) S)
def Pg.cal (p : Pg) (d f : Nat) (ds : List D) (S : Store) : R D := (p.gv (p.run d)).cal f ds S
/-- how a def takes its arguments: as they are, with what its defaults give, with a tuple of the rest -/
inductive Takes3 (T : Tb) (p : Pg) (n : Nat) (K : PySem.W.Frag) (fd : FuncData) : List Str → Prop where
  | never {ps : List Str} : p.ko n = true → Takes3 T p n K fd ps
  | plain {ps : List Str} : p.ko n = false → p.vr n = false → ps.length = p.np n → p.df n = [] → Binds K fd ps [] → Takes3 T p n K fd ps
  | dflt {ps : List Str} {dvs : List V} {us : List Value} : p.ko n = false → p.vr n = false → ps.length = p.np n → Vals dvs us → (∀ w, Reps T w (p.df n) dvs) → (∀ k, k ≤ us.length → Binds K fd ps (us.drop k)) → Takes3 T p n K fd ps
  | star {ps : List Str} {pv : Str} : p.ko n = false → p.vr n = true → ps.length = p.np n → (∀ us rest : List Value, us.length = ps.length → bindArgs fd ⟨us ++ rest, []⟩ = (newTuple rest >>= fun t => pure (ps.zip us ++ [(pv, t)]))) → Takes3 T p n K fd (ps ++ [pv])
/-- how a call with names binds -/
structure ShOk (T : Tb) (p : Pg) (s : Nat) (K : PySem.W.Frag) (fd : FuncData) (ks ps : List Str) : Prop where
  ex_ : ∃ (g : List Value → List Value → List Value) (gV : List V → List V → List V), KBn K fd ps (p.shp s).1 ks g gV ∧ ks.length = (p.shp s).2.1 ∧ (∀ us ws, (g us ws).length = ps.length) ∧
    ∀ (w : Wo) (ds xs : List D) (vs zs : List V), Reps T w ds vs → Reps T w xs zs → ds.length = (p.shp s).1 → xs.length = (p.shp s).2.1 → Reps T w ((p.shp s).2.2.map (pickS .non id (ds ++ xs))) (gV vs zs)
/-- a method's def: its text is that of its code -/
def DfOk (Γ : Sy) (T : Tb) (p : Pg) (K : PySem.W.Frag) (n : Nat) : Prop := ∃ (x q : Str) (st : Stmt) (N ps : List Str) (oc dV kV doc pm cdv ct : Value) (od an : Option Addr) (osl : Array (Option Value)),
  K.lookup (T.fa n) = some ⟨oc, od, .func (PySem.W.fnOf x q (defArgs st) (defBody st) (defScope st) dV kV doc pm an cdv ct), osl⟩ ∧ PySem.W.codeIn K cdv q = true ∧ Takes3 T p n K (PySem.W.fnOf x q (defArgs st) (defBody st) (defScope st) dV kV doc pm an cdv ct) ps ∧ FnScope N ps (defScope st) ∧ N.length = p.nv n ∧ ckSs Γ N (defScope st) (p.code n) (defBody st) = true
def DkOk (Γ : Sy) (T : Tb) (p : Pg) (K : PySem.W.Frag) (s : Nat) (ks : List Str) : Prop := ∃ (x q : Str) (st : Stmt) (N ps : List Str) (oc dV kV doc pm cdv ct : Value) (od an : Option Addr) (osl : Array (Option Value)),
  K.lookup (T.sa s) = some ⟨oc, od, .func (PySem.W.fnOf x q (defArgs st) (defBody st) (defScope st) dV kV doc pm an cdv ct), osl⟩ ∧ PySem.W.codeIn K cdv q = true ∧ ShOk T p s K (PySem.W.fnOf x q (defArgs st) (defBody st) (defScope st) dV kV doc pm an cdv ct) ks ps ∧ FnScope N ps (defScope st) ∧ N.length = p.nv (p.sfn s) ∧ ckSs Γ N (defScope st) (p.code (p.sfn s)) (defBody st) = true
structure Hd (Γ : Sy) (T : Tb) (p : Pg) (P : Program) (wl : World) (K : PySem.W.Frag) (mg : Str → Option Value) (base : Heap) : Prop where
  hK : K = T.K
  fns : ∀ (n : Nat) (x : Str), Γ.fn[n]? = some x → ∃ (f : Addr) (st : Stmt) (N ps : List Str) (oc dV kV doc pm cdv ct : Value) (od an : Option Addr) (osl : Array (Option Value)), mg x = some (.ref f) ∧ PySem.W.keepIn K (.ref f) = true ∧
    K.lookup f = some ⟨oc, od, .func (PySem.W.fnOf x x (defArgs st) (defBody st) (defScope st) dV kV doc pm an cdv ct), osl⟩ ∧ PySem.W.codeIn K cdv x = true ∧ Takes3 T p n K (PySem.W.fnOf x x (defArgs st) (defBody st) (defScope st) dV kV doc pm an cdv ct) ps ∧ FnScope N ps (defScope st) ∧ N.length = p.nv n ∧ ckSs Γ N (defScope st) (p.code n) (defBody st) = true
  fks : ∀ (s : Nat) (x : Str) (ks : List Str), Γ.sh[s]? = some (x, ks) → ∃ (f : Addr) (st : Stmt) (N ps : List Str) (oc dV kV doc pm cdv ct : Value) (od an : Option Addr) (osl : Array (Option Value)), mg x = some (.ref f) ∧ PySem.W.keepIn K (.ref f) = true ∧
    K.lookup f = some ⟨oc, od, .func (PySem.W.fnOf x x (defArgs st) (defBody st) (defScope st) dV kV doc pm an cdv ct), osl⟩ ∧ PySem.W.codeIn K cdv x = true ∧ ShOk T p s K (PySem.W.fnOf x x (defArgs st) (defBody st) (defScope st) dV kV doc pm an cdv ct) ks ps ∧ FnScope N ps (defScope st) ∧ N.length = p.nv (p.sfn s) ∧ ckSs Γ N (defScope st) (p.code (p.sfn s)) (defBody st) = true
  gls : ∀ (g : Nat) (x : Str), Γ.gn[g]? = some x → ∃ (v : V) (u : Value), mg x = some u ∧ RelV v u ∧ ∀ w, Rep T w (p.gl g) v
  gas : ∀ (g : Nat) (x f : Str), Γ.ga g = some (x, f) → ∃ (Ca : Addr) (mc : Value) (v : V) (u : Value), mg x = some (.ref Ca) ∧ ClX.CRead K Ca mc ∧ ClX.CVal K Ca mc f v u ∧ ∀ w, Rep T w (p.gl g) v
  blt : ∀ x, x ∈ bltNames → mg x = none
  ncn : T.nc = Γ.cn.length
  exc : ∀ (k : Nat) (x : Str), Γ.cn[k]? = some x → mg x = some (.ref (T.cls k)) ∧ XfC K (T.cls k) ∧ ExcC K (T.cls k) ∧ ∀ f, T.ef k = some f → PySem.W.findIn K (.ref (T.cls k)) (T.fld f) = some none
  mks : ∀ (k : Nat), Γ.mkb[k]? = some true → MkOk T P wl K mg base k
  tgs : ∀ (j : Nat) (x : Str), Γ.tn[j]? = some x → mg x = some (T.tv j).val ∨ (mg x = none ∧ bootBuiltins x = some (T.tv j).val ∧ x ≠ "__name__")
  sub : ∀ k j, k < T.nc → j < Γ.tn.length → PySem.W.exmOne K (.ref (T.cls k)) (T.tv j).val = some (p.sub k j) ∧ PySem.W.kitOne K (.ref (T.cls k)) (T.tv j).val = some (p.sub k j)
  ef : p.ef = T.ef
  fl : ∀ (f : Nat) (n : Str), Γ.fl[f]? = some n → T.fld f = n ∧ f < T.nf
  isf : ∀ c f, p.isf c f = true → f < T.nf ∧ Cls K (T.kls c) ∧ NoAttr K (T.kls c) (T.fld f)
  cst : ∀ c f d, p.cst c f = some d → f < T.nf ∧ Cls K (T.kls c) ∧ ∃ v u, Con K (T.kls c) (T.fld f) v u ∧ ∀ w, Rep T w d v
  prp : ∀ c f n, p.prp c f = some n → f < T.nf ∧ Cls K (T.kls c) ∧ (∃ q, PropOf K (T.kls c) (T.fld f) q (T.fa n)) ∧ DfOk Γ T p K n
  met : ∀ c m n, p.met c m = some n → m < T.nf ∧ Cls K (T.kls c) ∧ Meth K (T.kls c) (T.fld m) (T.fa n) ∧ DfOk Γ T p K n
  ini : ∀ c i, p.ini c = some i → Mk K (T.kls c) (T.fa i) ∧ DfOk Γ T p K i
  nam : ∀ (c : Nat) (x : Str), Γ.kn[c]? = some x → mg x = some (.ref (T.kls c)) ∧ KlOk K (T.kls c)
  isa : ∀ k c b, p.isa k c = some b → KlOk K (T.kls k) ∧ PySem.W.kitOne K (.ref (T.kls k)) (.ref (T.kls c)) = some b
  isd : ∀ c, c < Γ.kn.length → ∀ t, t ∈ (["NoneType", "bool", "int", "str", "list", "tuple", "dict"] : List String) → PySem.W.kitOne K (.type t) (.ref (T.kls c)) = some false
  nks : ∀ (s : Nat) (x : Str) (ks : List Str) (c : Nat), Γ.nh s = some (x, ks) → Γ.kn[c]? = some x → Mk K (T.kls c) (T.sa s) ∧ DkOk Γ T p K s ks
section
variable {Γ : Sy} {T : Tb} {p : Pg} {P : Program} {wl : World} {K : PySem.W.Frag} {mg : Str → Option Value} {base : Heap}
theorem env_start {w : Wo} {k : Nat} {N : List Str} {ds : List D} {vs : List V} (rs : Reps T w ds vs) (hk : N.length = k) : EnvOk T w (startD k ds) (L2.start N vs) := by
  have hl := rs.len
  refine ⟨?_, fun i d e => ?_⟩
  · unfold startD L2.start
    rw [List.length_append, List.length_append, List.length_map, List.length_map, List.length_replicate, List.length_replicate, hl, hk]
  · unfold startD at e
    by_cases hi : i < ds.length
    · rw [List.getElem?_append_left (by simpa using hi), List.getElem?_map] at e
      cases hd : ds[i]? with
      | none => rw [hd] at e; cases e
      | some d' =>
        rw [hd] at e
        cases e
        obtain ⟨v, hv, r⟩ := rs.get hd
        refine ⟨v, ?_, r⟩
        unfold L2.start
        rw [List.getElem?_append_left (by rw [List.length_map, ← hl]; exact hi), List.getElem?_map, hv]
        rfl
    · rw [List.getElem?_append_right (by rw [List.length_map]; omega), List.getElem?_replicate] at e
      split at e <;> cases e
theorem Post.stepR {W : WX} {w w' : Wo} {σ : L2.St} {r : R D} {Q : VK} (st : Step w w') (h : Post T W w σ (Rep T) r Q) : Post T W w' σ (Rep T) r Q := by
  cases r with
  | ok d S => exact fun w2 v e wd s2 rv => h w2 v e wd (st.trans s2) rv
  | ex c v S => exact fun w2 cl dd e wd s2 rx => h w2 cl dd e wd (st.trans s2) rx
  | stuck => exact h
theorem Reps.drop' {w : Wo} {ds : List D} {vs : List V} (h : Reps T w ds vs) (n : Nat) : Reps T w (ds.drop n) (vs.drop n) := h.drop n
theorem vals_drop : ∀ {vs : List V} {us : List Value}, Vals vs us → ∀ n : Nat, Vals (vs.drop n) (us.drop n)
  | _, _, h, 0 => h
  | _, _, .nil, n + 1 => .nil
  | _, _, .cons a h, n + 1 => vals_drop h n
/-- the arguments bound -/
theorem bnd_of {n : Nat} {fd : FuncData} {ps : List Str} {A : Around} {outer : List PySem.Env} {s : Shared} {H : Hp} {E : XK} {us : List Value} {vs : List V} {ds es : List D} {w : Wo} (tk : Takes3 T p n K fd ps) (e0 : Env0 P wl K mg base A outer s H) (r : Vals vs us) (hw : w.H = H) (wd : Wd T w) (rs : Reps T w ds vs) (hb : p.bind n ds = some es) :
    StX.Bnd (L2.CX P wl) P wl K mg base fd ⟨us, []⟩ ps A outer s H E fun vs2 H2 => ∃ w2 : Wo, w2.H = H2 ∧ w2.S = w.S ∧ Wd T w2 ∧ Step w w2 ∧ Reps T w2 es vs2 := by
  have kin : K.In s.heap := e0.mod.kin.keeps fun b o e => (e0.bs b o e).1
  intro A' Ex Q h
  cases tk with
  | never hko =>
    unfold Pg.bind at hb
    rw [hko] at hb
    cases hb
  | plain hko hv hl hd bd =>
    unfold Pg.bind at hb
    rw [hko, hv, hd] at hb
    simp only [Bool.false_eq_true, if_false, List.length_nil, Nat.add_zero, Nat.zero_add, List.drop_nil, List.append_nil] at hb
    split at hb
    · rename_i hc
      cases hb
      rw [Bool.and_eq_true] at hc
      have l1 := of_decide_eq_true hc.1
      have l2 := of_decide_eq_true hc.2
      have le : us.length = ps.length := by rw [← r.length, ← rs.len, hl]; omega
      have bb := bd s us kin (by rw [List.append_nil]; exact le)
      rw [List.append_nil] at bb
      exact bb _ _ _ _ (h s H vs us e0 Un.refl rfl (fun _ _ z => z) r (by rw [r.length]; exact le) ⟨w, hw, rfl, wd, Step.refl w, rs⟩)
    · cases hb
  | @dflt _ dvs dus hko hv hl dr dw bd =>
    unfold Pg.bind at hb
    rw [hko, hv] at hb
    simp only [Bool.false_eq_true, if_false] at hb
    split at hb
    · rename_i hc
      cases hb
      rw [Bool.and_eq_true] at hc
      have l1 := of_decide_eq_true hc.1
      have l2 := of_decide_eq_true hc.2
      have ld : (p.df n).length = dvs.length := (dw w).len
      have lv := dr.length
      have lus : us.length = ds.length := by rw [← r.length, ← rs.len]
      have le : (us ++ dus.drop ((p.df n).length + ds.length - p.np n)).length = ps.length := by
        rw [List.length_append, List.length_drop, hl]
        omega
      have bb := bd ((p.df n).length + ds.length - p.np n) (by omega) s us kin le
      refine bb _ _ _ _ (h s H (vs ++ dvs.drop ((p.df n).length + ds.length - p.np n)) _ e0 Un.refl rfl (fun _ _ z => z) (r.append (vals_drop dr _)) ?_ ⟨w, hw, rfl, wd, Step.refl w, rs.append ((dw w).drop _)⟩)
      have := (r.append (vals_drop dr ((p.df n).length + ds.length - p.np n))).length
      rw [this]
      exact le
    · cases hb
  | @star ps pv hko hv hl bd =>
    unfold Pg.bind at hb
    rw [hko, hv] at hb
    simp only [if_true, Bool.false_eq_true, if_false] at hb
    split at hb
    · rename_i hc
      cases hb
      rw [Bool.and_eq_true] at hc
      have l1 := of_decide_eq_true hc.1
      have l2 := fits_le hc.2
      have lus : us.length = ds.length := by rw [← r.length, ← rs.len]
      have hn : H s.heap.objs.size = Option.none := e0.hok.fresh (Nat.le_refl _)
      have ev : vs = vs.take (p.np n) ++ vs.drop (p.np n) := (List.take_append_drop _ _).symm
      rw [ev] at r
      obtain ⟨u1, u2, eu, r1, r2⟩ := StX.vals_split r
      have lt : (vs.take (p.np n)).length = p.np n := by
        rw [List.length_take, ← rs.len]
        omega
      have l3 : u1.length = ps.length := by rw [← r1.length, lt, hl]
      have lr : (vs.drop (p.np n)).length ≤ sizeLine := by
        rw [List.length_drop, ← rs.len, sizeLine_eq]
        rw [sizeLine_eq] at l2
        omega
      subst eu
      rw [bd u1 u2 l3]
      refine wpAny_bind (wpAny_newTuple (wpAny_pure ?_) (by rw [← r2.length]; exact lr))
      have new : ObjOk P wl (upd H s.heap.objs.size (.tup (vs.drop (p.np n)))) (s.heap.push ({ cls := .type "tuple", data := .seq u2.toArray } : Obj)) s.heap.objs.size (.tup (vs.drop (p.np n))) := ⟨lr, u2, r2, ⟨_, Heap.get?_push_size _ rfl, rfl, _, rfl⟩⟩
      have un := StX.un_laid (fs := frs outer) (s := s) (o := ({ cls := .type "tuple", data := .seq u2.toArray } : Obj)) (u := .tup (vs.drop (p.np n))) hn
      have hnw : w.H s.heap.objs.size = none := by rw [hw]; exact hn
      obtain ⟨w2, s2, lv2⟩ := wd.still hnw (.tup (vs.drop (p.np n)))
      have z := h _ _ (vs.take (p.np n) ++ [V.ref s.heap.objs.size]) (u1 ++ [Value.ref s.heap.objs.size]) (StX.env0_laid e0 new) un rfl (fun e s' => StX.cxUp outer s H _ _ E e s' un (fun b o q => Heap.get?_push_of_some _ q) rfl) (r1.append (.cons rfl .nil))
        (by rw [List.length_append, List.length_append, lt, hl]; rfl) ⟨⟨w.S, w.r, upd w.H s.heap.objs.size (.tup (vs.drop (p.np n))), w.x⟩, by rw [hw], rfl, w2, s2, ((rs.take _).mono s2.toMon).append (.cons (.tup ⟨upd_same, lv2⟩ ((rs.drop _).mono s2.toMon)) .nil)⟩
      rw [List.zip_append l3.symm] at z
      exact z
    · cases hb
/-- the arguments of a call with names bound -/
theorem bnd_k {sh : Nat} {fd : FuncData} {ks ps : List Str} {A : Around} {outer : List PySem.Env} {s : Shared} {H : Hp} {E : XK} {us ws : List Value} {vs zs : List V} {ds xs es : List D} {w : Wo} (tk : ShOk T p sh K fd ks ps) (e0 : Env0 P wl K mg base A outer s H) (r : Vals vs us) (rz : Vals zs ws) (hw : w.H = H) (wd : Wd T w) (rs : Reps T w ds vs) (rx : Reps T w xs zs) (hb : p.arr sh ds xs = some es) :
    StX.Bnd (L2.CX P wl) P wl K mg base fd ⟨us, ks.zip ws⟩ ps A outer s H E fun vs2 H2 => ∃ w2 : Wo, w2.H = H2 ∧ w2.S = w.S ∧ Wd T w2 ∧ Step w w2 ∧ Reps T w2 es vs2 := by
  have kin : K.In s.heap := e0.mod.kin.keeps fun b o e => (e0.bs b o e).1
  intro A' Ex Q h
  obtain ⟨g, gV, kb, lk, lg, rel⟩ := tk.ex_
  unfold Pg.arr at hb
  split at hb
  · rename_i hc
    cases hb
    rw [Bool.and_eq_true] at hc
    have l1 := of_decide_eq_true hc.1
    have l2 := of_decide_eq_true hc.2
    have lu : us.length = (p.shp sh).1 := by rw [← r.length, ← rs.len, l1]
    have lw : ws.length = ks.length := by rw [← rz.length, ← rx.len, l2, lk]
    have rr := kb.rel r rz
    exact kb.to s us ws kin lu lw _ _ _ _ (h s H (gV vs zs) (g us ws) e0 Un.refl rfl (fun _ _ z => z) rr (by rw [rr.length]; exact lg us ws) ⟨w, hw, rfl, wd, Step.refl w, rel w ds xs vs zs rs rx l1 l2⟩)
  · cases hb
/-- a body keeps what its code says -/
theorem run_body {d n : Nat} {st : Stmt} {x qn : Str} {f : Addr} {cdv : Value} {N ps : List Str} {A : Around} {outer : List PySem.Env} {s : Shared} {H : Hp} {Q : VK} {E : XK} {w : Wo} {es : List D} {args : Args} {oc dV kV doc pm ct : Value} {od an : Option Addr} {osl : Array (Option Value)}
    (ih : Md Γ T (p.gv (p.run d)) P wl K mg base (2 * d + 2)) (lk : K.lookup f = some ⟨oc, od, .func (PySem.W.fnOf x qn (defArgs st) (defBody st) (defScope st) dV kV doc pm an cdv ct), osl⟩) (hcd : PySem.W.codeIn K cdv qn = true) (h5 : FnScope N ps (defScope st)) (h7 : N.length = p.nv n) (h8 : ckSs Γ N (defScope st) (p.code n) (defBody st) = true)
    (hr : Room (2 * (d + 1) + 2) A) (hgd : A.guards = some []) (e0 : Env0 P wl K mg base A outer s H) (bd : StX.Bnd (L2.CX P wl) P wl K mg base (PySem.W.fnOf x qn (defArgs st) (defBody st) (defScope st) dV kV doc pm an cdv ct) args ps A outer s H E fun vs2 H2 => ∃ w2 : Wo, w2.H = H2 ∧ w2.S = w.S ∧ Wd T w2 ∧ Step w w2 ∧ Reps T w2 es vs2)
    (hp : Post T (fun cls dd _ H => E cls dd H) w [] (Rep T) (outR (ex (p.gv (p.run d)) (p.code n) (startD (p.nv n) es) w.S)) Q) : codeAny (model P wl) A (.call (.ref f) args) (CR (L2.CX P wl) outer P wl H s Q E) s := by
  refine StX.run_bnd (k := 2 * d + 3) lk hcd h5 hr e0 bd fun s2 H2 vs2 hG hr2 => ?_
  obtain ⟨w2, rfl, eS, wd2, st2, rs2⟩ := hG
  have cs : CxS Γ T (p.gv (p.run d)) N (defScope st) (2 * d + 2) (cxOf (L2.CX P wl) P wl K mg base N qn (defScope st) f cdv A outer s2 w2.H E) (fun cls dd _ H => E cls dd H) := by
    refine ⟨⟨ih, rfl, h5.nd, rfl, ?_, hgd, fun _ => ⟨rfl, hr2⟩, takes_of rfl rfl rfl rfl, kept0, (fun _ _ _ _ _ z => nomatch z), fun _ _ _ _ _ _ _ z => nomatch z⟩, passes_of rfl, fun _ => rfl, rfl, rfl, h5.kind⟩
    have := hr2.un
    show (A.deeper _).units + 66 < cLine
    omega
  refine ⟨_, (okS Γ T (p.gv (p.run d)) N (2 * d + 2) (p.code n)).b cs h8, startD (p.nv n) es, w2, rfl, wd2, env_start rs2 h7, ?_⟩
  replace hp := Post.stepR st2 hp
  rw [eS]
  cases hx : ex (p.gv (p.run d)) (p.code n) (startD (p.nv n) es) w.S with
  | nx δ1 S1 =>
    rw [hx] at hp
    exact fun w' σ' e wd' st' _ => hp w' .non e wd' st' .non
  | rt r S1 =>
    rw [hx] at hp
    exact fun w' v e wd' st' r' => hp w' v e wd' st' r'
  | ex c v δ1 S1 =>
    rw [hx] at hp
    exact fun w' σ' cls dd e wd' st' _ rx => hp w' cls dd e wd' st' rx
  | bk _ _ => rw [hx] at hp; exact hp.elim
  | ct _ _ => rw [hx] at hp; exact hp.elim
  | stuck => rw [hx] at hp; exact hp.elim
theorem fa_zero {n : Nat} {f : Addr} : FnA P wl K mg base (2 * 0 + 2) f (spEv T ((p.gv (p.run 0)).cal n)) := by
  refine ⟨fun A outer s H us vs Q E _ _ _ _ ⟨ds, w, _, _, _, z⟩ => ?_⟩
  change Post T _ w [] (Rep T) (match p.bind n ds with | some es => p.run 0 n es w.S | none => .stuck) Q at z
  cases hb : p.bind n ds with
  | none => rw [hb] at z; exact z.elim
  | some es => rw [hb] at z; exact z.elim
theorem fk_zero {s : Nat} {ks : List Str} {f : Addr} : FnK P wl K mg base (2 * 0 + 2) f ks (spEvK T ((p.gv (p.run 0)).cak s)) := by
  refine ⟨fun A outer sh H us ws vs zs Q E _ _ _ _ _ ⟨ds, xs, w, _, _, _, _, z⟩ => ?_⟩
  change Post T _ w [] (Rep T) (match p.arr s ds xs with | some es => p.run 0 (p.sfn s) es w.S | none => .stuck) Q at z
  cases hb : p.arr s ds xs with
  | none => rw [hb] at z; exact z.elim
  | some es => rw [hb] at z; exact z.elim
theorem fa_succ {d n : Nat} {st : Stmt} {x qn : Str} {f : Addr} {cdv : Value} {N ps : List Str} {oc dV kV doc pm ct : Value} {od an : Option Addr} {osl : Array (Option Value)} (ih : Md Γ T (p.gv (p.run d)) P wl K mg base (2 * d + 2)) (lk : K.lookup f = some ⟨oc, od, .func (PySem.W.fnOf x qn (defArgs st) (defBody st) (defScope st) dV kV doc pm an cdv ct), osl⟩) (hcd : PySem.W.codeIn K cdv qn = true)
    (tk : Takes3 T p n K (PySem.W.fnOf x qn (defArgs st) (defBody st) (defScope st) dV kV doc pm an cdv ct) ps) (h5 : FnScope N ps (defScope st)) (h7 : N.length = p.nv n) (h8 : ckSs Γ N (defScope st) (p.code n) (defBody st) = true) : FnA P wl K mg base (2 * (d + 1) + 2) f (spEv T ((p.gv (p.run (d + 1))).cal n)) := by
  refine ⟨fun A outer s H us vs Q E hr hgd e0 r hsp => ?_⟩
  obtain ⟨ds, w, hw, wd, rs, hp⟩ := hsp
  change Post T _ w [] (Rep T) (match p.bind n ds with | some es => p.run (d + 1) n es w.S | none => .stuck) Q at hp
  cases hb : p.bind n ds with
  | none => rw [hb] at hp; exact hp.elim
  | some es =>
    rw [hb] at hp
    exact run_body ih lk hcd h5 h7 h8 hr hgd e0 (bnd_of tk e0 r hw wd rs hb) hp
theorem fk_succ {d n : Nat} {ks : List Str} {st : Stmt} {x qn : Str} {f : Addr} {cdv : Value} {N ps : List Str} {oc dV kV doc pm ct : Value} {od an : Option Addr} {osl : Array (Option Value)} (ih : Md Γ T (p.gv (p.run d)) P wl K mg base (2 * d + 2)) (lk : K.lookup f = some ⟨oc, od, .func (PySem.W.fnOf x qn (defArgs st) (defBody st) (defScope st) dV kV doc pm an cdv ct), osl⟩) (hcd : PySem.W.codeIn K cdv qn = true)
    (tk : ShOk T p n K (PySem.W.fnOf x qn (defArgs st) (defBody st) (defScope st) dV kV doc pm an cdv ct) ks ps) (h5 : FnScope N ps (defScope st)) (h7 : N.length = p.nv (p.sfn n)) (h8 : ckSs Γ N (defScope st) (p.code (p.sfn n)) (defBody st) = true) : FnK P wl K mg base (2 * (d + 1) + 2) f ks (spEvK T ((p.gv (p.run (d + 1))).cak n)) := by
  refine ⟨fun A outer sh H us ws vs zs Q E hr hgd e0 r rz hsp => ?_⟩
  obtain ⟨ds, xs, w, hw, wd, rs, rx, hp⟩ := hsp
  change Post T _ w [] (Rep T) (match p.arr n ds xs with | some es => p.run (d + 1) (p.sfn n) es w.S | none => .stuck) Q at hp
  cases hb : p.arr n ds xs with
  | none => rw [hb] at hp; exact hp.elim
  | some es =>
    rw [hb] at hp
    exact run_body ih lk hcd h5 h7 h8 hr hgd e0 (bnd_k tk e0 r rz hw wd rs rx hb) hp
/-- every def keeps its promise, to any depth -/
theorem md_all (h : Hd Γ T p P wl K mg base) : ∀ d : Nat, Md Γ T (p.gv (p.run d)) P wl K mg base (2 * d + 2) := by
  intro d
  induction d with
  | zero =>
    refine ⟨h.hK, fun n x hn => ?_, fun s x ks hs => ?_, h.gls, h.gas, h.blt, h.ncn, h.exc, h.mks, h.tgs, h.sub, h.ef, h.fl, by omega, ⟨h.isf, h.cst, fun c f n e => ?_, fun c m n e => ?_, fun c i e => ?_, h.nam, h.isa, h.isd, fun s x ks c e1 e2 => ?_⟩⟩
    · obtain ⟨f, _, _, _, _, _, _, _, _, _, _, _, _, _, h1, h2, _⟩ := h.fns n x hn
      exact ⟨f, h1, h2, fa_zero⟩
    · obtain ⟨f, _, _, _, _, _, _, _, _, _, _, _, _, _, h1, h2, _⟩ := h.fks s x ks hs
      exact ⟨f, h1, h2, fk_zero⟩
    · obtain ⟨q1, q2, q3, _⟩ := h.prp c f n e
      exact ⟨q1, q2, q3, fa_zero⟩
    · obtain ⟨q1, q2, q3, _⟩ := h.met c m n e
      exact ⟨q1, q2, q3, fa_zero⟩
    · exact ⟨(h.ini c i e).1, fa_zero⟩
    · exact ⟨(h.nks s x ks c e1 e2).1, fk_zero⟩
  | succ d ih =>
    have df : ∀ n, DfOk Γ T p K n → FnA P wl K mg base (2 * (d + 1) + 2) (T.fa n) (spEv T ((p.gv (p.run (d + 1))).cal n)) := fun n hn => by
      obtain ⟨x, q, st, N, ps, oc, dV, kV, doc, pm, cdv, ct, od, an, osl, lk, hcd, tk, h5, h7, h8⟩ := hn
      exact fa_succ ih lk hcd tk h5 h7 h8
    refine ⟨h.hK, fun n x hn => ?_, fun s x ks hs => ?_, h.gls, h.gas, h.blt, h.ncn, h.exc, h.mks, h.tgs, h.sub, h.ef, h.fl, by omega, ⟨h.isf, h.cst, fun c f n e => ?_, fun c m n e => ?_, fun c i e => ?_, h.nam, h.isa, h.isd, fun s x ks c e1 e2 => ?_⟩⟩
    · obtain ⟨f, st, N, ps, oc, dV, kV, doc, pm, cdv, ct, od, an, osl, h1, h2, lk, hcd, tk, h5, h7, h8⟩ := h.fns n x hn
      exact ⟨f, h1, h2, fa_succ ih lk hcd tk h5 h7 h8⟩
    · obtain ⟨f, st, N, ps, oc, dV, kV, doc, pm, cdv, ct, od, an, osl, h1, h2, lk, hcd, tk, h5, h7, h8⟩ := h.fks s x ks hs
      exact ⟨f, h1, h2, fk_succ ih lk hcd tk h5 h7 h8⟩
    · obtain ⟨q1, q2, q3, q4⟩ := h.prp c f n e
      exact ⟨q1, q2, q3, df n q4⟩
    · obtain ⟨q1, q2, q3, q4⟩ := h.met c m n e
      exact ⟨q1, q2, q3, df n q4⟩
    · obtain ⟨q1, q2⟩ := h.ini c i e
      exact ⟨q1, df i q2⟩
    · obtain ⟨q1, x2, q, st, N, ps, oc, dV, kV, doc, pm, cdv, ct, od, an, osl, lk, hcd, tk, h5, h7, h8⟩ := h.nks s x ks c e1 e2
      exact ⟨q1, fk_succ ih lk hcd tk h5 h7 h8⟩
/-- the caller's call of the law, from the promise of its def where no repr is under way -/
theorem end_call {k : Nat} {fa a : Addr} {sp : Sp} {s1 : Shared} {us : List Value} {ns : List Int} {mb : Str → Option Value}
    (kin : K.In s1.heap) (gns : s1.heap.Ns mainGlobals mg) (bns : s1.heap.Ns builtinsNs mb)
    (boot : ∀ x : Str, x ≠ "__name__" → mb x = bootBuiltins x) (nolim : s1.heap.NoLimit) (gens : s1.gens = #[])
    (scr : s1.heap.get? a = some { cls := .type "list", data := .seq us.toArray }) (are : IntsAre us ns)
    (short : ns.length ≤ sizeLine) (room : Room k callerA)
    (prom : ∀ bs : Heap, K.In bs → bs.Ns mainGlobals mg → FnA P wl K mg bs k fa sp)
    (says : ∀ H : Hp, SqL K H a (ns.map V.int) → sp [.ref a] H (fun v _ => v = .bl true) fun _ _ _ => False) :
    codeAny (model P wl) callerA (.call (.ref fa) ⟨[.ref a], []⟩)
      (fun r s2 => r = .ok (.ret (.bool true)) ∧ OldK s1.heap s2.heap ∧ s2.os = s1.os ∧ AllBare s2.gens) s1 := by
  have rels := vals_ints are
  have go : ∀ H : Hp, Only H → SqL K H a (ns.map V.int) → HOk P wl H s1.heap → (∀ b, H b ≠ none → b = a) →
      (H a ≠ none → K.lookup a = none) → codeAny (model P wl) callerA (.call (.ref fa) ⟨[.ref a], []⟩)
        (fun r s2 => r = .ok (.ret (.bool true)) ∧ OldK s1.heap s2.heap ∧ s2.os = s1.os ∧ AllBare s2.gens) s1 := by
    intro H only sq hok here outK
    have isA : ∀ {b : Addr} {u : HO}, H b = some u → b = a := fun q => here _ (by rw [q]; simp)
    have free : ∀ {b : Addr} {o : Obj} {es : Array DictEntry} {ep : Nat}, s1.heap.get? b = some o → o.data = .dict es ep → H b = none := fun {b o es ep} e d => by
      match hq : H b with
      | none => rfl
      | some u =>
        have z := isA hq
        subst z
        rw [scr] at e
        cases e
        exact absurd (show Data.seq us.toArray _ = Data.dict es ep from d) (fun z => nomatch z)
    have nsB : ∀ {b : Addr} {m : Str → Option Value}, s1.heap.Ns b m → (hidT s1.heap H).Ns b m :=
      fun ⟨o, es, ep, e, d, r⟩ => ⟨o, es, ep, hidT_get e (free e d), d, r⟩
    have kB : K.In (hidT s1.heap H) := fun b o e => hidT_get (kin b o e) (by
      match hq : H b with
      | none => rfl
      | some u =>
        have z := isA hq
        subst z
        rw [outK (by rw [hq]; simp)] at e
        cases e)
    have md : Mod K mg (hidT s1.heap H) := ⟨kB, nsB gns, ⟨mb, nsB bns, boot⟩, let ⟨mc, q1, q2⟩ := nolim; ⟨mc, nsB q1, q2⟩⟩
    have e0 : Env0 P wl K mg (hidT s1.heap H) callerA [] s1 H :=
      ⟨rfl, md, fun b o e => of_hidT e, Nat.le_of_eq (hidT_size _ _), trivial, fun b hb => absurd (show b ∈ ([] : List Addr) from hb) List.not_mem_nil, hok, .of_eq gens⟩
    have run := (prom _ kB (nsB gns)).run callerA [] s1 H [.ref a] [.ref a] _ _ room rfl e0 (.cons rfl .nil) (says H sq)
    refine codeAny_mono run fun r s2 hh => ?_
    match r, hh with
    | .error e, hh =>
      exfalso
      obtain ⟨_, _, _, _, _, _, _, _, _, _, _, _, z⟩ := hh
      exact z
    | .ok (.ret u), hh =>
      obtain ⟨v, H2, os, bare, un, hok2, rv, q⟩ := hh
      have q2 : v = .bl true := q
      subst q2
      have hu : u = Value.bool true := rv
      subst hu
      refine ⟨rfl, OldK.of_keep fun b o e => ?_, os, bare⟩
      match hq : H b with
      | none => exact un.keep b o e hq (fun z => nomatch (show b ∈ ([] : List Addr) from z)) (by simp)
      | some u =>
        rcases only b with z | ⟨ob, xs, z⟩
        · rw [hq] at z
          cases z
        · have k1 := (hok b _ z).1
          have k2 := (hok2 b _ (un.frzs b ob _ z)).1
          rw [e] at k1
          cases k1
          exact k2
  match hk : K.lookup a with
  | some o =>
    have e := kin a o hk
    rw [scr] at e
    cases e
    exact go (fun _ => none) (fun _ => .inl rfl) (.inr ⟨_, us.toArray, _, hk, rfl, rfl, rfl, by rw [List.size_toArray, are.length]; exact short, by simpa using rels⟩) (fun b u z => nomatch (show (none : Option HO) = some u from z)) (fun b z => absurd rfl z) fun z => absurd rfl z
  | none =>
    refine go (fun b => if b = a then some (.frz { cls := .type "list", data := .seq us.toArray } (.lst (ns.map V.int))) else none) (fun b => ?_) (.inl (.inr ⟨_, if_pos rfl⟩)) (fun b u z => ?_) (fun b z => ?_) fun _ => hk
    · by_cases hb : b = a
      · exact .inr ⟨_, _, if_pos hb⟩
      · exact .inl (if_neg hb)
    · by_cases hb : b = a
      · have z2 := (if_pos hb).symm.trans z
        cases z2
        rw [hb]
        exact ⟨scr, by rw [List.length_map]; exact short, us, _, rels, scr⟩
      · exact nomatch (if_neg hb).symm.trans z
    · exact Classical.byContradiction fun hb => z (if_neg hb)
end
/-- what k_head leaves, from the facts of the text and the answer of the evaluator -/
theorem walk_pv {l : PySem.W.OpenLaw} {n dep li : Nat} {q : Program} {loose : List Str} {XP : (Str → Option Value) → Heap → Prop} {YP : World → Heap → Prop} {d : DefRec} {K : Params → PySem.W.Frag} {Γ : Sy} {p : Pg}
    (hn : l.most = some n) (hn2 : n ≤ sizeLine) (hdf : d.params.defaults = []) (hr : Room (2 * dep + 2) callerA) (hli : Γ.fn[li]? = some d.name)
    (hY : ∀ (w : World) (h : Heap), YP w h → (K w.params).In h)
    (F : ∀ (w : World) (mg : Str → Option Value) (h : Heap), (K w.params).In h → h.Ns mainGlobals mg → ∃ T : Tb, ∀ base : Heap, (K w.params).In base → base.Ns mainGlobals mg → Hd Γ T p l.prog w (K w.params) mg base)
    (law : ∀ ns : List Int, ns.length ≤ n → ∃ S, p.cal dep li [.scr ns] [] = .ok (.bl true) S) :
    PySem.W.WalkO q loose XP YP l.row.toRowW d [] (fun f vs => PySem.call f vs) := by
  refine Att.attach_call hn hdf fun w s₀ s₁ mg mb fa o pm cd doc a vs ns G Y ho hd hcd hmg hobj hints hlen hg => ?_
  have KX := hY w _ Y
  obtain ⟨T, hF⟩ := F w mg _ KX G.T.g
  refine end_call (sp := spEv T (p.cal dep li)) KX G.T.g G.T.b G.T.builtins G.T.nolimit hg hobj hints (Nat.le_trans hlen hn2) hr (fun bs kb nb => ?_) fun H sq => ?_
  · obtain ⟨f, e1, _, e4⟩ := (md_all (hF bs kb nb) dep).fns li _ hli
    have ef : f = fa := by
      rw [hmg] at e1
      cases e1
      rfl
    subst ef
    exact e4
  · obtain ⟨S, hS⟩ := law ns hlen
    have hK : K w.params = T.K := by
      obtain ⟨bs, kb, nb⟩ : ∃ bs : Heap, (K w.params).In bs ∧ bs.Ns mainGlobals mg := ⟨_, KX, G.T.g⟩
      exact (hF bs kb nb).hK
    have nl : ∀ b, ¬ Lv ⟨[], [], H, []⟩ b := fun b z => by
      rcases z with z | ⟨_, _, z, _⟩
      · cases z
      · simp at z
    refine ⟨[.scr ns], ⟨[], [], H, []⟩, rfl, ⟨rfl, List.nodup_nil, fun n c a z => by simp at z, fun a z => nomatch z⟩, .cons (.scr ?_) .nil, ?_⟩
    · rw [hK] at sq
      rcases sq with z | z
      · exact .inr ⟨z, nl _⟩
      · exact .inl (.inr z)
    · rw [hS]
      intro w' v _ _ _ r
      cases r
      rfl
end PV

namespace PV
open PySem L2
section
variable (G : Gv) (δ : Env) (S : Store)
theorem v_var (i : Nat) : ev G (.var i) δ S = match δ[i]? with | some (some d) => .ok d S | _ => .stuck := rfl
theorem v_con (d : D) : ev G (.con d) δ S = .ok d S := rfl
theorem v_glob (x : Nat) : ev G (.glob x) δ S = .ok (G.gl x) S := rfl
theorem v_bin (o : Op2) (a b : C) : ev G (.bin o a b) δ S = (ev G a δ S).bind fun x S1 => (ev G b δ S1).bind fun y S2 => bin2 o x y S2 := rfl
theorem v_neg (a : C) : ev G (.neg a) δ S = (ev G a δ S).bind fun x S1 => match x with | .int i => .ok (.int (-i)) S1 | _ => .stuck := rfl
theorem v_not (a : C) : ev G (.not a) δ S = (ev G a δ S).bind fun x S1 => match truD S1 x with | some b => .ok (.bl (!b)) S1 | none => .stuck := rfl
theorem v_and (a b : C) : ev G (.and a b) δ S = (ev G a δ S).bind fun x S1 => match truD S1 x with | some true => ev G b δ S1 | some false => .ok x S1 | none => .stuck := rfl
theorem v_or (a b : C) : ev G (.or a b) δ S = (ev G a δ S).bind fun x S1 => match truD S1 x with | some true => .ok x S1 | some false => ev G b δ S1 | none => .stuck := rfl
theorem v_ite (c a b : C) : ev G (.ite c a b) δ S = (evT G c δ S).bind fun x S1 => if x then ev G a δ S1 else ev G b δ S1 := rfl
theorem v_cmp (o : CO) (a b : C) : ev G (.cmp o a b) δ S = (ev G a δ S).bind fun x S1 => (ev G b δ S1).bind fun y S2 => optD (cmpD o x y S2) S2 := rfl
theorem v_chain (o p : CO) (a b c : C) : ev G (.chain o p a b c) δ S = (ev G a δ S).bind fun x S1 => (ev G b δ S1).bind fun y S2 => match cmpD o x y S2 with | some true => (ev G c δ S2).bind fun z S3 => optD (cmpD p y z S3) S3 | some false => .ok (.bl false) S2 | none => .stuck := rfl
theorem v_tup (es : C) : ev G (.tup es) δ S = (evs G es δ S).bind fun ds S1 => if fits ds.length then .ok (.tup ds) S1 else .stuck := rfl
theorem v_lst (m : Bool) (es : C) : ev G (.lst m es) δ S = (evs G es δ S).bind fun ds S1 => newL m ds S1 := rfl
theorem v_dct : ev G (.dct false .nil .nil) δ S = .ok (.dct [] []) S := rfl
theorem v_dct1 : ev G (.dct true .nil .nil) δ S = .ok (.ref S.length) (S ++ [.dtt [] []]) := rfl
theorem v_call (f : Nat) (es : C) : ev G (.call f es) δ S = (evs G es δ S).bind fun ds S1 => G.cal f ds S1 := rfl
theorem v_callk (s : Nat) (es vs : C) : ev G (.callk s es vs) δ S = (evs G es δ S).bind fun ds S1 => (evs G vs δ S1).bind fun zs S2 => G.cak s ds zs S2 := rfl
theorem v_bi (b : Bi) (es : C) : ev G (.bi b es) δ S = (evs G es δ S).bind fun ds S1 => biD b ds S1 := rfl
theorem v_isi (a : C) (t : Ty) : ev G (.isi a t) δ S = (ev G a δ S).bind fun x S1 => optD (isiD S1 x t) S1 := rfl
theorem v_idx (a i : C) : ev G (.idx a i) δ S = (ev G a δ S).bind fun x S1 => (ev G i δ S1).bind fun y S2 => idx2 x y S2 := rfl
theorem v_sl (m : Bool) (a lo hi : C) : ev G (.sl m a lo hi) δ S = (ev G a δ S).bind fun x S1 => (evO G lo δ S1).bind fun l S2 => (evO G hi δ S2).bind fun h S3 => sl2 m x l h S3 := rfl
theorem v_rev (m : Bool) (a : C) : ev G (.rev m a) δ S = (ev G a δ S).bind fun x S1 => match deref S1 x with | .tup ds => .ok (.tup ds.reverse) S1 | .lst ds => newL m ds.reverse S1 | _ => .stuck := rfl
theorem v_comp (m : Bool) (tg : Tg) (src cnd elt : C) : ev G (.comp m tg src cnd elt) δ S = (evI G src δ S).bind fun its S1 => (compI tg (evT G cnd) (ev G elt) δ its S1).bind fun ds S2 => newL m ds S2 := rfl
theorem v_eget (f : Nat) : ev G (.eget f) δ S = match G.cur with | some (c, v) => if G.ef c = some f then .ok v S else .stuck | none => .stuck := rfl
theorem v_eis (c : Nat) : ev G (.eis c) δ S = match G.cur with | some (k, _) => .ok (.bl (G.sub k c)) S | none => .stuck := rfl
theorem v_app (a e : C) : ev G (.app a e) δ S = (ev G a δ S).bind fun x S1 => if (isL (deref S1 x)).isSome then (ev G e δ S1).bind fun y S2 => appD x y S2 else .stuck := rfl
theorem v_comp2 (m : Bool) (tg : Tg) (src cnd : C) (tg2 : Tg) (src2 cnd2 elt : C) : ev G (.comp2 m tg src cnd tg2 src2 cnd2 elt) δ S = (evI G src δ S).bind fun its S1 => (compWI (slots tg ++ slots tg2) tg (evT G cnd) (fun δ1 S2 => comp1I tg2 (evT G cnd2) (ev G elt) δ1 (evI G src2 δ1 S2)) δ its S1).bind fun ds S2 => newL m ds S2 := rfl
theorem v_fld (a : C) (f : Nat) : ev G (.fld a f) δ S = (ev G a δ S).bind fun x S1 => fldD G x f S1 := rfl
theorem v_mcall (a : C) (m : Nat) (es : C) : ev G (.mcall a m es) δ S = (ev G a δ S).bind fun x S1 => match mtD G x m S1 with | some n => (evs G es δ S1).bind fun ds S2 => G.cal n (x :: ds) S2 | none => .stuck := rfl
theorem v_new (m : Bool) (c : Nat) (es : C) : ev G (.new m c es) δ S = match G.ini c with | some i => (evs G es δ S).bind fun ds S1 => newO m S1.length (G.cal i (.ref S1.length :: ds) (S1 ++ [.ins c [] []])) | none => .stuck := rfl
theorem v_newk (m : Bool) (c s : Nat) (es vs : C) : ev G (.newk m c s es vs) δ S = (evs G es δ S).bind fun ds S1 => (evs G vs δ S1).bind fun zs S2 => newO m S2.length (G.cak s (.ref S2.length :: ds) zs (S2 ++ [.ins c [] []])) := rfl
theorem v_iso (a : C) (c : Nat) : ev G (.iso a c) δ S = (ev G a δ S).bind fun x S1 => optD (isoD G S1 x c) S1 := rfl
theorem v_isit (a : C) (t u : Ty) : ev G (.isit a t u) δ S = (ev G a δ S).bind fun x S1 => optD (isitD S1 x t u) S1 := rfl
theorem v_lrng (m : Bool) (a b : C) : ev G (.lrng m a b) δ S = (ev G a δ S).bind fun x S1 => (ev G b δ S1).bind fun y S2 => match x, y with | .int i, .int j => if inR i && inR j then newL m (rangeD i j) S2 else .stuck | _, _ => .stuck := rfl
theorem v_lset (a : C) : ev G (.lset a) δ S = (ev G a δ S).bind fun x S1 => lenSet x S1 := rfl
theorem v_sset (m : Bool) (a : C) : ev G (.sset m a) δ S = (ev G a δ S).bind fun x S1 => sortSet m x S1 := rfl
theorem s_fld (x : C) (f : Nat) (b : C) : evs G (.cons (.fld x f) b) δ S = (ev G (.fld x f) δ S).bind fun x S1 => (evs G b δ S1).bind fun xs S2 => .ok (x :: xs) S2 := rfl
theorem s_mcall (x : C) (m : Nat) (es : C) (b : C) : evs G (.cons (.mcall x m es) b) δ S = (ev G (.mcall x m es) δ S).bind fun x S1 => (evs G b δ S1).bind fun xs S2 => .ok (x :: xs) S2 := rfl
theorem s_new (m : Bool) (c : Nat) (es : C) (b : C) : evs G (.cons (.new m c es) b) δ S = (ev G (.new m c es) δ S).bind fun x S1 => (evs G b δ S1).bind fun xs S2 => .ok (x :: xs) S2 := rfl
theorem s_newk (m : Bool) (c s : Nat) (es vs : C) (b : C) : evs G (.cons (.newk m c s es vs) b) δ S = (ev G (.newk m c s es vs) δ S).bind fun x S1 => (evs G b δ S1).bind fun xs S2 => .ok (x :: xs) S2 := rfl
theorem s_iso (x : C) (c : Nat) (b : C) : evs G (.cons (.iso x c) b) δ S = (ev G (.iso x c) δ S).bind fun x S1 => (evs G b δ S1).bind fun xs S2 => .ok (x :: xs) S2 := rfl
theorem s_isit (x : C) (t u : Ty) (b : C) : evs G (.cons (.isit x t u) b) δ S = (ev G (.isit x t u) δ S).bind fun x S1 => (evs G b δ S1).bind fun xs S2 => .ok (x :: xs) S2 := rfl
theorem s_lrng (m : Bool) (x y : C) (b : C) : evs G (.cons (.lrng m x y) b) δ S = (ev G (.lrng m x y) δ S).bind fun x S1 => (evs G b δ S1).bind fun xs S2 => .ok (x :: xs) S2 := rfl
theorem s_lset (x : C) (b : C) : evs G (.cons (.lset x) b) δ S = (ev G (.lset x) δ S).bind fun x S1 => (evs G b δ S1).bind fun xs S2 => .ok (x :: xs) S2 := rfl
theorem s_sset (m : Bool) (x : C) (b : C) : evs G (.cons (.sset m x) b) δ S = (ev G (.sset m x) δ S).bind fun x S1 => (evs G b δ S1).bind fun xs S2 => .ok (x :: xs) S2 := rfl
theorem s_comp2 (m : Bool) (t : Tg) (x y : C) (t2 : Tg) (x2 y2 z : C) (b : C) : evs G (.cons (.comp2 m t x y t2 x2 y2 z) b) δ S = (ev G (.comp2 m t x y t2 x2 y2 z) δ S).bind fun x S1 => (evs G b δ S1).bind fun xs S2 => .ok (x :: xs) S2 := rfl
theorem t_ch3 (o p q : CO) (a b c d : C) : evT G (.tch3 o p q a b c d) δ S = (ev G a δ S).bind fun x S1 => (ev G b δ S1).bind fun y S2 => match cmpD o x y S2 with | some true => (ev G c δ S2).bind fun z S3 => (match cmpD p y z S3 with | some true => (ev G d δ S3).bind fun u S4 => optB (cmpD q z u S4) S4 | some false => .ok false S3 | none => .stuck) | some false => .ok false S2 | none => .stuck := rfl
theorem c_stA (a : C) (f : Nat) (e : C) (r : C) : ex G (.cons (.stA a f e) r) δ S = match ex G (.stA a f e) δ S with | .nx δ1 S1 => ex G r δ1 S1 | z => z := rfl
theorem c_match (e cs : C) (r : C) : ex G (.cons (.match_ e cs) r) δ S = match ex G (.match_ e cs) δ S with | .nx δ1 S1 => ex G r δ1 S1 | z => z := rfl
theorem x_stA (a : C) (f : Nat) (e : C) : ex G (.stA a f e) δ S = RofS δ (ev G e δ S) fun z S1 => RofS δ (ev G a δ S1) fun x S2 => RofS δ (stAD G x f z S2) fun _ S3 => .nx δ S3 := rfl
theorem x_match (e cs : C) : ex G (.match_ e cs) δ S = RofS δ (ev G e δ S) fun d S1 => exM G cs d δ S1 := rfl
theorem x_frzA (i f : Nat) (b : C) : ex G (.cons (.frzA i f) b) δ S = match δ[i]? with | some (some d) => (match frzAD d f S with | some S1 => ex G b δ S1 | none => .stuck) | _ => .stuck := rfl
theorem m_nil (d : D) : exM G .nil d δ S = .nx δ S := rfl
theorem m_cons (p : Pt) (b r : C) (d : D) : exM G (.cons (.case_ p b) r) d δ S = match matD S p d δ with | some (some δ1) => ex G b δ1 S | some none => exM G r d δ S | none => .stuck := rfl
theorem s_nil : evs G .nil δ S = .ok [] S := rfl
theorem s_var (i : Nat) (b : C) : evs G (.cons (.var i) b) δ S = (ev G (.var i) δ S).bind fun x S1 => (evs G b δ S1).bind fun xs S2 => .ok (x :: xs) S2 := rfl
theorem s_con (d : D) (b : C) : evs G (.cons (.con d) b) δ S = (ev G (.con d) δ S).bind fun x S1 => (evs G b δ S1).bind fun xs S2 => .ok (x :: xs) S2 := rfl
theorem s_glob (x : Nat) (b : C) : evs G (.cons (.glob x) b) δ S = (ev G (.glob x) δ S).bind fun x S1 => (evs G b δ S1).bind fun xs S2 => .ok (x :: xs) S2 := rfl
theorem s_bin (o : Op2) (x y : C) (b : C) : evs G (.cons (.bin o x y) b) δ S = (ev G (.bin o x y) δ S).bind fun x S1 => (evs G b δ S1).bind fun xs S2 => .ok (x :: xs) S2 := rfl
theorem s_neg (x : C) (b : C) : evs G (.cons (.neg x) b) δ S = (ev G (.neg x) δ S).bind fun x S1 => (evs G b δ S1).bind fun xs S2 => .ok (x :: xs) S2 := rfl
theorem s_not (x : C) (b : C) : evs G (.cons (.not x) b) δ S = (ev G (.not x) δ S).bind fun x S1 => (evs G b δ S1).bind fun xs S2 => .ok (x :: xs) S2 := rfl
theorem s_and (x y : C) (b : C) : evs G (.cons (.and x y) b) δ S = (ev G (.and x y) δ S).bind fun x S1 => (evs G b δ S1).bind fun xs S2 => .ok (x :: xs) S2 := rfl
theorem s_or (x y : C) (b : C) : evs G (.cons (.or x y) b) δ S = (ev G (.or x y) δ S).bind fun x S1 => (evs G b δ S1).bind fun xs S2 => .ok (x :: xs) S2 := rfl
theorem s_ite (x y z : C) (b : C) : evs G (.cons (.ite x y z) b) δ S = (ev G (.ite x y z) δ S).bind fun x S1 => (evs G b δ S1).bind fun xs S2 => .ok (x :: xs) S2 := rfl
theorem s_cmp (o : CO) (x y : C) (b : C) : evs G (.cons (.cmp o x y) b) δ S = (ev G (.cmp o x y) δ S).bind fun x S1 => (evs G b δ S1).bind fun xs S2 => .ok (x :: xs) S2 := rfl
theorem s_chain (o p : CO) (x y z : C) (b : C) : evs G (.cons (.chain o p x y z) b) δ S = (ev G (.chain o p x y z) δ S).bind fun x S1 => (evs G b δ S1).bind fun xs S2 => .ok (x :: xs) S2 := rfl
theorem s_tup (x : C) (b : C) : evs G (.cons (.tup x) b) δ S = (ev G (.tup x) δ S).bind fun x S1 => (evs G b δ S1).bind fun xs S2 => .ok (x :: xs) S2 := rfl
theorem s_lst (m : Bool) (x : C) (b : C) : evs G (.cons (.lst m x) b) δ S = (ev G (.lst m x) δ S).bind fun x S1 => (evs G b δ S1).bind fun xs S2 => .ok (x :: xs) S2 := rfl
theorem s_dct (m : Bool) (x y : C) (b : C) : evs G (.cons (.dct m x y) b) δ S = (ev G (.dct m x y) δ S).bind fun x S1 => (evs G b δ S1).bind fun xs S2 => .ok (x :: xs) S2 := rfl
theorem s_call (f : Nat) (x : C) (b : C) : evs G (.cons (.call f x) b) δ S = (ev G (.call f x) δ S).bind fun x S1 => (evs G b δ S1).bind fun xs S2 => .ok (x :: xs) S2 := rfl
theorem s_callk (s : Nat) (es vs b : C) : evs G (.cons (.callk s es vs) b) δ S = (ev G (.callk s es vs) δ S).bind fun x S1 => (evs G b δ S1).bind fun xs S2 => .ok (x :: xs) S2 := rfl
theorem s_bi (o : Bi) (x : C) (b : C) : evs G (.cons (.bi o x) b) δ S = (ev G (.bi o x) δ S).bind fun x S1 => (evs G b δ S1).bind fun xs S2 => .ok (x :: xs) S2 := rfl
theorem s_isi (x : C) (t : Ty) (b : C) : evs G (.cons (.isi x t) b) δ S = (ev G (.isi x t) δ S).bind fun x S1 => (evs G b δ S1).bind fun xs S2 => .ok (x :: xs) S2 := rfl
theorem s_idx (x y : C) (b : C) : evs G (.cons (.idx x y) b) δ S = (ev G (.idx x y) δ S).bind fun x S1 => (evs G b δ S1).bind fun xs S2 => .ok (x :: xs) S2 := rfl
theorem s_sl (m : Bool) (x y z : C) (b : C) : evs G (.cons (.sl m x y z) b) δ S = (ev G (.sl m x y z) δ S).bind fun x S1 => (evs G b δ S1).bind fun xs S2 => .ok (x :: xs) S2 := rfl
theorem s_rev (m : Bool) (x : C) (b : C) : evs G (.cons (.rev m x) b) δ S = (ev G (.rev m x) δ S).bind fun x S1 => (evs G b δ S1).bind fun xs S2 => .ok (x :: xs) S2 := rfl
theorem s_comp (m : Bool) (t : Tg) (x y z : C) (b : C) : evs G (.cons (.comp m t x y z) b) δ S = (ev G (.comp m t x y z) δ S).bind fun x S1 => (evs G b δ S1).bind fun xs S2 => .ok (x :: xs) S2 := rfl
theorem s_eget (f : Nat) (b : C) : evs G (.cons (.eget f) b) δ S = (ev G (.eget f) δ S).bind fun x S1 => (evs G b δ S1).bind fun xs S2 => .ok (x :: xs) S2 := rfl
theorem s_eis (f : Nat) (b : C) : evs G (.cons (.eis f) b) δ S = (ev G (.eis f) δ S).bind fun x S1 => (evs G b δ S1).bind fun xs S2 => .ok (x :: xs) S2 := rfl
theorem s_frz (x : C) (b : C) : evs G (.cons (.frz x) b) δ S = (ev G (.frz x) δ S).bind fun x S1 => (evs G b δ S1).bind fun xs S2 => .ok (x :: xs) S2 := rfl
theorem s_star (a b : C) : evs G (.cons (.star a) b) δ S = (ev G a δ S).bind fun x S1 => match seqD S1 x with | some xs => (evs G b δ S1).bind fun ys S2 => .ok (xs ++ ys) S2 | none => .stuck := rfl
theorem o_nil : evO G .nil δ S = .ok none S := rfl
theorem o_cons (a b : C) : evO G (.cons a b) δ S = (ev G a δ S).bind fun x S1 => match x with | .int i => .ok (some i) S1 | _ => .stuck := rfl
theorem t_nil : evT G .nil δ S = .ok true S := rfl
theorem t_not (a : C) : evT G (.not a) δ S = (evT G a δ S).bind fun b S1 => .ok (!b) S1 := rfl
theorem t_and (a b : C) : evT G (.and a b) δ S = (evT G a δ S).bind fun x S1 => if x then evT G b δ S1 else .ok false S1 := rfl
theorem t_or (a b : C) : evT G (.or a b) δ S = (evT G a δ S).bind fun x S1 => if x then .ok true S1 else evT G b δ S1 := rfl
theorem t_tst (e : C) : evT G (.tst e) δ S = (ev G e δ S).bind fun x S1 => optB (truD S1 x) S1 := rfl
theorem t_cmp (o : CO) (a b : C) : evT G (.tcmp o a b) δ S = (ev G a δ S).bind fun x S1 => (ev G b δ S1).bind fun y S2 => optB (cmpD o x y S2) S2 := rfl
theorem t_chain (o p : CO) (a b c : C) : evT G (.tchain o p a b c) δ S = (ev G a δ S).bind fun x S1 => (ev G b δ S1).bind fun y S2 => match cmpD o x y S2 with | some true => (ev G c δ S2).bind fun z S3 => optB (cmpD p y z S3) S3 | some false => .ok false S2 | none => .stuck := rfl
theorem i_rng (a b : C) : evI G (.rng a b) δ S = (ev G a δ S).bind fun x S1 => (ev G b δ S1).bind fun y S2 => match x, y with | .int i, .int j => if inR i && inR j then .ok (.fix (rangeD i j)) S2 else .stuck | _, _ => .stuck := rfl
theorem i_enum (a : C) : evI G (.enum a) δ S = (ev G a δ S).bind fun x S1 => match x with | .lst ds => .ok (.fix (enumD ds)) S1 | _ => .stuck := rfl
theorem i_zip (a b : C) : evI G (.zip a b) δ S = (ev G a δ S).bind fun x S1 => (ev G b δ S1).bind fun y S2 => match zipD x y with | some ds => .ok (.fix ds) S2 | none => .stuck := rfl
theorem i_tst (a : C) : evI G (.tst a) δ S = (ev G a δ S).bind fun x S1 => itD S1 x := rfl
theorem x_nil : ex G .nil δ S = .nx δ S := rfl
theorem x_cons (a b : C) (h : isFrz a = false) : ex G (.cons a b) δ S = match ex G a δ S with | .nx δ1 S1 => ex G b δ1 S1 | r => r := by
  cases a <;> first | rfl | cases h
theorem c_set (t : Tg) (e : C) (r : C) : ex G (.cons (.set t e) r) δ S = match ex G (.set t e) δ S with | .nx δ1 S1 => ex G r δ1 S1 | z => z := rfl
theorem c_stI (a i e : C) (r : C) : ex G (.cons (.stI a i e) r) δ S = match ex G (.stI a i e) δ S with | .nx δ1 S1 => ex G r δ1 S1 | z => z := rfl
theorem c_expr (e : C) (r : C) : ex G (.cons (.expr e) r) δ S = match ex G (.expr e) δ S with | .nx δ1 S1 => ex G r δ1 S1 | z => z := rfl
theorem c_ret (e : C) (r : C) : ex G (.cons (.ret e) r) δ S = match ex G (.ret e) δ S with | .nx δ1 S1 => ex G r δ1 S1 | z => z := rfl
theorem c_ifs (c a b : C) (r : C) : ex G (.cons (.ifs c a b) r) δ S = match ex G (.ifs c a b) δ S with | .nx δ1 S1 => ex G r δ1 S1 | z => z := rfl
theorem c_for (t : Tg) (s b : C) (r : C) : ex G (.cons (.for_ t s b) r) δ S = match ex G (.for_ t s b) δ S with | .nx δ1 S1 => ex G r δ1 S1 | z => z := rfl
theorem c_raise (x : Nat) (e : C) (r : C) : ex G (.cons (.raise_ x e) r) δ S = match ex G (.raise_ x e) δ S with | .nx δ1 S1 => ex G r δ1 S1 | z => z := rfl
theorem c_try (b h : C) (r : C) : ex G (.cons (.try_ b h) r) δ S = match ex G (.try_ b h) δ S with | .nx δ1 S1 => ex G r δ1 S1 | z => z := rfl
theorem c_while (c b : C) (r : C) : ex G (.cons (.while_ c b) r) δ S = match ex G (.while_ c b) δ S with | .nx δ1 S1 => ex G r δ1 S1 | z => z := rfl
theorem x_frz (i : Nat) (b : C) : ex G (.cons (.frzV i) b) δ S = match δ[i]? with | some (some d) => (match frzD d S with | .ok e S1 => ex G b (δ.set i (some e)) S1 | _ => .stuck) | _ => .stuck := rfl
theorem x_set (tg : Tg) (e : C) : ex G (.set tg e) δ S = RofS δ (ev G e δ S) fun d S1 => match bindT tg d δ with | some δ1 => .nx δ1 S1 | none => .stuck := rfl
theorem x_stI (a i e : C) : ex G (.stI a i e) δ S = RofS δ (ev G e δ S) fun z S1 => RofS δ (ev G a δ S1) fun x S2 => RofS δ (ev G i δ S2) fun y S3 => RofS δ (setI x y z S3) fun _ S4 => .nx δ S4 := rfl
theorem x_expr (e : C) : ex G (.expr e) δ S = RofS δ (ev G e δ S) fun _ S1 => .nx δ S1 := rfl
theorem x_ret (e : C) : ex G (.ret e) δ S = RofS δ (ev G e δ S) fun d S1 => .rt d S1 := rfl
theorem x_ifs (c a b : C) : ex G (.ifs c a b) δ S = match evT G c δ S with | .ok true S1 => ex G a δ S1 | .ok false S1 => ex G b δ S1 | .ex c v S1 => .ex c v δ S1 | .stuck => .stuck := rfl
theorem x_for (tg : Tg) (src b : C) : ex G (.for_ tg src b) δ S = match evI G src δ S with | .ok its S1 => forI tg (ex G b) its δ S1 | .ex c v S1 => .ex c v δ S1 | .stuck => .stuck := rfl
theorem x_raise (x : Nat) (e : C) : ex G (.raise_ x e) δ S = RofS δ (ev G e δ S) fun d S1 => .ex x (xval G x d) δ S1 := rfl
theorem x_try (b h : C) : ex G (.try_ b h) δ S = match ex G b δ S with | .ex c v δ1 S1 => exH G h c v δ1 S1 | r => r := rfl
theorem h_nil (c : Nat) (v : D) : exH G .nil c v δ S = .ex c v δ S := rfl
theorem h_nam (x i : Nat) (h r : C) (c : Nat) (v : D) : exH G (.cons (.hnd x i h) r) c v δ S = if G.sub c x then (match (if i < δ.length then ev { G with cur := some (c, v) } h (δ.set i none) S else .stuck) with | .ok d S2 => .rt d S2 | _ => .stuck) else exH G r c v δ S := rfl
theorem h_bar (x : Nat) (h r : C) (c : Nat) (v : D) : exH G (.cons (.hndN x h) r) c v δ S = if G.sub c x then (match ev { G with cur := some (c, v) } h δ S with | .ok d S2 => .rt d S2 | _ => .stuck) else exH G r c v δ S := rfl
theorem b_ok {α β : Type} (a : α) (S : Store) (f : α → Store → R β) : (R.ok a S).bind f = f a S := rfl
theorem r_ok (d : D) (f : D → Store → RS) : RofS δ (.ok d S) f = f d S := rfl
end
theorem comp_map {tg : Tg} {cnd : Env → Store → R Bool} {elt : F} {δ : Env} {f : D → D} {S : Store} : ∀ (its : List D), (∀ x, x ∈ its → ∃ δ1, bindT tg x (wipeD δ (slots tg)) = some δ1 ∧ cnd δ1 S = .ok true S ∧ elt δ1 S = .ok (f x) S) → compL tg cnd elt δ its S = .ok (its.map f) S
  | [], _ => rfl
  | x :: xs, h => by
    obtain ⟨δ1, h1, h2, h3⟩ := h x List.mem_cons_self
    have ih := comp_map (f := f) (S := S) xs fun y hy => h y (List.mem_cons_of_mem _ hy)
    unfold compL
    simp only [h1, h2, h3, ih]
    rfl
theorem comp_filter {tg : Tg} {cnd : Env → Store → R Bool} {elt : F} {δ : Env} {p : D → Bool} {f : D → D} {S : Store} : ∀ (its : List D), (∀ x, x ∈ its → ∃ δ1, bindT tg x (wipeD δ (slots tg)) = some δ1 ∧ cnd δ1 S = .ok (p x) S ∧ (p x = true → elt δ1 S = .ok (f x) S)) → compL tg cnd elt δ its S = .ok ((its.filter p).map f) S
  | [], _ => rfl
  | x :: xs, h => by
    obtain ⟨δ1, h1, h2, h3⟩ := h x List.mem_cons_self
    have ih := comp_filter (p := p) (f := f) (S := S) xs fun y hy => h y (List.mem_cons_of_mem _ hy)
    unfold compL
    cases hp : p x with
    | true => simp only [h1, h2, hp, h3 hp, ih, List.filter_cons, if_true]; rfl
    | false => simp [h1, h2, hp, ih, List.filter_cons]
/-- a loop whose body goes on, its state kept in P -/
theorem for_inv {tg : Tg} {body : FS} (P : Nat → Env → Store → Prop) (its : List D) (step : ∀ (i : Nat) (x : D) (δ : Env) (S : Store), its[i]? = some x → P i δ S → ∃ δ1, bindT tg x δ = some δ1 ∧ ∃ δ2 S2, body δ1 S = .nx δ2 S2 ∧ P (i + 1) δ2 S2) :
    ∀ (δ : Env) (S : Store), P 0 δ S → ∃ δ2 S2, forL tg body its δ S = .nx δ2 S2 ∧ P its.length δ2 S2 := by
  have key : ∀ (l : List D) (k : Nat), its.drop k = l → ∀ (δ : Env) (S : Store), P k δ S → k ≤ its.length → ∃ δ2 S2, forL tg body l δ S = .nx δ2 S2 ∧ P its.length δ2 S2 := by
    intro l
    induction l with
    | nil =>
      intro k hk δ S hp hle
      have : its.length ≤ k := List.drop_eq_nil_iff.mp hk
      have e : k = its.length := by omega
      subst e
      exact ⟨δ, S, rfl, hp⟩
    | cons x l ih =>
      intro k hk δ S hp hle
      have hx : its[k]? = some x := by
        have : (its.drop k)[0]? = some x := by rw [hk]; rfl
        rw [List.getElem?_drop] at this
        simpa using this
      have hlt : k < its.length := (List.getElem?_eq_some_iff.mp hx).1
      obtain ⟨δ1, h1, δ2, S2, h2, hp2⟩ := step k x δ S hx hp
      have hd : its.drop (k + 1) = l := by
        rw [← List.tail_drop, hk]
        rfl
      obtain ⟨δ3, S3, h3, hp3⟩ := ih (k + 1) hd δ2 S2 hp2 hlt
      refine ⟨δ3, S3, ?_, hp3⟩
      unfold forL
      simp only [h1, h2, h3]
  intro δ S hp
  exact key its 0 (by simp) δ S hp (Nat.zero_le _)
end PV

namespace PV
open PySem

def sumL : List Nat → Nat
  | [] => 0
  | x :: xs => x + 2 + sumL xs
theorem piled_sum : ∀ ts : List Str, piled ts = sumL (ts.map (·.length))
  | [] => by simp [piled, sumL]
  | t :: ts => by
    have := piled_sum ts
    simp [piled, sumL] at this ⊢
    omega
theorem from_le : ∀ (ts : List Str) (k : Nat) (acc : Str), (textFrom k acc ts).length ≤ acc.length + sumL (ts.map (·.length))
  | [], k, acc => Nat.le_refl _
  | t :: r, k, acc => by
    have ih := from_le r (k + 1) (acc ++ (if k > 0 then ", " else "" : String) ++ t)
    have sep : (acc ++ (if k > 0 then ", " else "" : String) ++ t).length = acc.length + (if k > 0 then 2 else 0) + t.length := by
      rw [strLen_append, strLen_append]; split <;> rfl
    rw [sep] at ih
    show (textFrom (k + 1) _ r).length ≤ acc.length + (t.length + 2 + sumL (r.map (·.length)))
    refine Nat.le_trans ih ?_
    split <;> omega
theorem listText_le (ts : List Str) : (listText ts).length ≤ sumL (ts.map (·.length)) + 3 := by
  have h := from_le ts 0 "["
  unfold listText
  rw [strLen_append]
  have e1 : (("[" : String) : Str).length = 1 := rfl
  have e2 : (("]" : String) : Str).length = 1 := rfl
  rw [e1] at h
  rw [e2]
  omega
theorem tupleText_le (ts : List Str) : (tupleText ts).length ≤ sumL (ts.map (·.length)) + 3 := by
  unfold tupleText
  rw [strLen_append, strLen_append]
  have e1 : (("(" : String) : Str).length = 1 := rfl
  rw [e1]
  by_cases hn : ts = []
  · subst hn
    decide +kernel
  · have h := join_length_add ts hn
    rw [piled_sum] at h
    have e2 : ((if ts.length == 1 then ",)" else ")" : String) : Str).length ≤ 2 := by
      split
      · decide +kernel
      · decide +kernel
    omega
/-- small data: at most n items a sequence, k levels -/
def okD (n : Nat) : Nat → D → Bool
  | _, .non => true
  | _, .bl _ => true
  | _, .int i => decide (i.natAbs.log2 < 1920)
  | _, .str x => decide ((reprText x).length ≤ 1921)
  | k + 1, .tup ds => decide (ds.length ≤ n) && ds.all (okD n k)
  | k + 1, .lst ds => decide (ds.length ≤ n) && ds.all (okD n k)
  | _, _ => false
def wMax (n : Nat) : Nat → Nat
  | 0 => 1921
  | k + 1 => n * (wMax n k + 2) + 1924
theorem wMax_ge (n : Nat) : ∀ k, 1921 ≤ wMax n k
  | 0 => Nat.le_refl _
  | k + 1 => by show 1921 ≤ n * (wMax n k + 2) + 1924; omega
structure OkP (S : Store) (d : D) (m k : Nat) (p : PyData) : Prop where
  at_ : toP S d = some p
  sh : p.showable = true
  nd : p.hasDict = false
  dp : p.depth ≤ k
  len : p.shown.length ≤ m
theorem okP_all {S : Store} {n k : Nat} : ∀ {ds : List D}, (∀ d ∈ ds, ∃ p, OkP S d (wMax n k) k p) → ∃ ps, toPs S ds = some ps ∧ PyData.showableAll ps = true ∧ PyData.hasDictAll ps = false ∧ PyData.depthAll ps ≤ k ∧ sumL ((PyData.shownAll ps).map (·.length)) ≤ ds.length * (wMax n k + 2)
  | [], _ => ⟨[], rfl, rfl, rfl, Nat.zero_le _, Nat.zero_le _⟩
  | d :: ds, h => by
    obtain ⟨p, hp⟩ := h d List.mem_cons_self
    obtain ⟨ps, h1, h2, h3, h4, h5⟩ := okP_all (ds := ds) fun e he => h e (List.mem_cons_of_mem _ he)
    refine ⟨p :: ps, ?_, ?_, ?_, ?_, ?_⟩
    · simp only [toPs, hp.at_, h1]
    · simp only [PyData.showableAll, hp.sh, h2, Bool.and_self]
    · simp only [PyData.hasDictAll, hp.nd, h3, Bool.or_self]
    · have := hp.dp
      simp only [PyData.depthAll]
      omega
    · have := hp.len
      simp only [PyData.shownAll, List.map_cons, sumL, List.length_cons, Nat.add_mul]
      omega
theorem okD_P {S : Store} {n : Nat} : ∀ (k : Nat) (d : D), okD n k d = true → ∃ p, OkP S d (wMax n k) k p := by
  intro k
  have leaf : ∀ (k : Nat) (d : D), okD n k d = true → (∀ ds, d ≠ .tup ds) → (∀ ds, d ≠ .lst ds) → ∃ p, OkP S d (wMax n k) k p := by
    intro k d h h1 h2
    have hw := wMax_ge n k
    cases d with
    | non => exact ⟨.none, by simp only [toP], rfl, rfl, Nat.zero_le _, Nat.le_trans (by decide +kernel) hw⟩
    | bl b => exact ⟨.bool b, by simp only [toP], rfl, rfl, Nat.zero_le _, Nat.le_trans (by cases b <;> decide +kernel) hw⟩
    | int i =>
      have hi : i.natAbs.log2 < 1920 := by
        cases k <;> exact of_decide_eq_true h
      exact ⟨.int i, by simp only [toP], decide_eq_true hi, rfl, Nat.zero_le _, Nat.le_trans (PyProof.Rows.int_text_len_1921 hi) hw⟩
    | str x =>
      have hi : (reprText x).length ≤ 1921 := by
        cases k <;> exact of_decide_eq_true h
      exact ⟨.str x, by simp only [toP], rfl, rfl, Nat.zero_le _, Nat.le_trans hi hw⟩
    | tup ds => exact absurd rfl (h1 ds)
    | lst ds => exact absurd rfl (h2 ds)
    | _ => cases k <;> cases h
  induction k with
  | zero =>
    intro d h
    exact leaf 0 d h (fun ds z => by subst z; cases h) (fun ds z => by subst z; cases h)
  | succ k ih =>
    intro d h
    cases d with
    | tup ds =>
      have h' : (decide (ds.length ≤ n) && ds.all (okD n k)) = true := h
      rw [Bool.and_eq_true] at h'
      have hl := of_decide_eq_true h'.1
      obtain ⟨ps, h1, h2, h3, h4, h5⟩ := okP_all (n := n) (k := k) fun e he => ih e (List.all_eq_true.mp h'.2 e he)
      have hm : ds.length * (wMax n k + 2) ≤ n * (wMax n k + 2) := Nat.mul_le_mul_right _ hl
      refine ⟨.tuple ps, by simp only [toP, h1, Option.map_some], by simp only [PyData.showable, h2], by simp only [PyData.hasDict, h3], by simp only [PyData.depth]; omega, ?_⟩
      simp only [PyData.shown]
      have := tupleText_le (PyData.shownAll ps)
      show _ ≤ n * (wMax n k + 2) + 1924
      omega
    | lst ds =>
      have h' : (decide (ds.length ≤ n) && ds.all (okD n k)) = true := h
      rw [Bool.and_eq_true] at h'
      have hl := of_decide_eq_true h'.1
      obtain ⟨ps, h1, h2, h3, h4, h5⟩ := okP_all (n := n) (k := k) fun e he => ih e (List.all_eq_true.mp h'.2 e he)
      have hm : ds.length * (wMax n k + 2) ≤ n * (wMax n k + 2) := Nat.mul_le_mul_right _ hl
      refine ⟨.list ps, by simp only [toP, h1, Option.map_some], by simp only [PyData.showable, h2], by simp only [PyData.hasDict, h3], by simp only [PyData.depth]; omega, ?_⟩
      simp only [PyData.shown]
      have := listText_le (PyData.shownAll ps)
      show _ ≤ n * (wMax n k + 2) + 1924
      omega
    | _ => exact leaf (k + 1) _ h (fun ds z => nomatch z) (fun ds z => nomatch z)
theorem deref_ok {S : Store} {n k : Nat} {d : D} (h : okD n k d = true) : deref S d = d := by
  cases d <;> first | rfl | (cases k <;> cases h)
/-- small data has a repr -/
theorem repr_ok {S : Store} {n k : Nat} {d : D} (h : okD n k d = true) (hk : k ≤ 60) (hw : wMax n k ≤ 16777216) : ∃ t, reprD S d = some t := by
  obtain ⟨p, hp⟩ := okD_P (S := S) k d h
  refine ⟨p.shown, ?_⟩
  unfold reprD
  rw [deref_ok h, hp.at_]
  have f : fits p.shown.length = true := decide_eq_true (Nat.le_trans hp.len hw)
  have g : decide (p.depth ≤ 60) = true := decide_eq_true (Nat.le_trans hp.dp hk)
  simp only [hp.sh, f, hp.nd, g, Bool.not_false, Bool.true_or, Bool.and_self, if_true]
end PV

namespace PV
open PySem L2

/-! the evaluator step by step: each step's tail stands in a function that simp does not enter -/
def seqR (r : RS) (k : Env → Store → RS) : RS := match r with | .nx δ S => k δ S | z => z
def ifR (r : R Bool) (δ : Env) (f g : Store → RS) : RS := match r with | .ok true S => f S | .ok false S => g S | .ex c v S => .ex c v δ S | .stuck => .stuck
def itR (r : R PV.It) (δ : Env) (f : PV.It → Store → RS) : RS := match r with | .ok l S => f l S | .ex c v S => .ex c v δ S | .stuck => .stuck
def tryR (r : RS) (h : Nat → D → Env → Store → RS) : RS := match r with | .ex c v δ S => h c v δ S | z => z
def optR {α β : Type} (o : Option α) (k : α → R β) : R β := match o with | some a => k a | none => .stuck
def bndR (o : Option Env) (k : Env → RS) : RS := match o with | some δ => k δ | none => .stuck
def getV (o : Option (Option D)) (S : Store) : R D := match o with | some (some d) => .ok d S | _ => .stuck
def loopR (r : RS) (k : Env → Store → RS) : RS := match r with | .nx δ S => k δ S | .ct δ S => k δ S | .bk δ S => .nx δ S | z => z
def retR (r : R D) : RS := match r with | .ok d S => .rt d S | _ => .stuck
section
variable {α β : Type} (δ : Env) (S : Store)
theorem k_bind (a : α) (f : α → Store → R β) : (R.ok a S).bind f = f a S := rfl
theorem k_bindX (c : Nat) (v : D) (f : α → Store → R β) : (R.ex c v S).bind f = .ex c v S := rfl
theorem k_RofS (d : D) (f : D → Store → RS) : RofS δ (.ok d S) f = f d S := rfl
theorem k_RofX (c : Nat) (v : D) (f : D → Store → RS) : RofS δ (.ex c v S) f = .ex c v δ S := rfl
theorem k_seq (k : Env → Store → RS) : seqR (.nx δ S) k = k δ S := rfl
theorem k_seqRt (d : D) (k : Env → Store → RS) : seqR (.rt d S) k = .rt d S := rfl
theorem k_seqX (c : Nat) (v : D) (k : Env → Store → RS) : seqR (.ex c v δ S) k = .ex c v δ S := rfl
theorem k_seqB (k : Env → Store → RS) : seqR (.bk δ S) k = .bk δ S := rfl
theorem k_seqC (k : Env → Store → RS) : seqR (.ct δ S) k = .ct δ S := rfl
theorem k_ifT (f g : Store → RS) : ifR (.ok true S) δ f g = f S := rfl
theorem k_ifF (f g : Store → RS) : ifR (.ok false S) δ f g = g S := rfl
theorem k_ifX (c : Nat) (v : D) (f g : Store → RS) : ifR (.ex c v S) δ f g = .ex c v δ S := rfl
theorem k_it (l : PV.It) (f : PV.It → Store → RS) : itR (.ok l S) δ f = f l S := rfl
theorem k_try (d : D) (k : Nat → D → Env → Store → RS) : tryR (.rt d S) k = .rt d S := rfl
theorem k_tryN (k : Nat → D → Env → Store → RS) : tryR (.nx δ S) k = .nx δ S := rfl
theorem k_tryX (c : Nat) (v : D) (k : Nat → D → Env → Store → RS) : tryR (.ex c v δ S) k = k c v δ S := rfl
theorem k_opt (a : α) (k : α → R β) : optR (some a) k = k a := rfl
theorem k_bnd (k : Env → RS) : bndR (some δ) k = k δ := rfl
theorem k_get (d : D) : getV (some (some d)) S = .ok d S := rfl
theorem k_loop (k : Env → Store → RS) : loopR (.nx δ S) k = k δ S := rfl
theorem k_loopC (k : Env → Store → RS) : loopR (.ct δ S) k = k δ S := rfl
theorem k_loopB (k : Env → Store → RS) : loopR (.bk δ S) k = .nx δ S := rfl
theorem k_loopR (d : D) (k : Env → Store → RS) : loopR (.rt d S) k = .rt d S := rfl
theorem k_loopX (c : Nat) (v : D) (k : Env → Store → RS) : loopR (.ex c v δ S) k = .ex c v δ S := rfl
theorem k_ret (d : D) : retR (.ok d S) = .rt d S := rfl
theorem k_outN : outR (.nx δ S) = .ok .non S := rfl
theorem k_outR (d : D) : outR (.rt d S) = .ok d S := rfl
theorem k_outX (c : Nat) (v : D) : outR (.ex c v δ S) = .ex c v S := rfl
end
section
variable (G : Gv) (δ : Env) (S : Store)
theorem w_var (i : Nat) : ev G (.var i) δ S = getV δ[i]? S := by
  show (match δ[i]? with | some (some d) => R.ok d S | _ => .stuck) = _
  unfold getV
  split <;> rfl
theorem w_not (a : C) : ev G (.not a) δ S = (ev G a δ S).bind fun x S1 => optR (truD S1 x) fun b => .ok (.bl (!b)) S1 := by
  rw [v_not]; congr; funext x S1; cases truD S1 x <;> rfl
theorem w_and (a b : C) : ev G (.and a b) δ S = (ev G a δ S).bind fun x S1 => optR (truD S1 x) fun t => if t = true then ev G b δ S1 else .ok x S1 := by
  rw [v_and]; congr; funext x S1; cases truD S1 x with | none => rfl | some t => cases t <;> rfl
theorem w_or (a b : C) : ev G (.or a b) δ S = (ev G a δ S).bind fun x S1 => optR (truD S1 x) fun t => if t = true then .ok x S1 else ev G b δ S1 := by
  rw [v_or]; congr; funext x S1; cases truD S1 x with | none => rfl | some t => cases t <;> rfl
theorem w_chain (o p : CO) (a b c : C) : ev G (.chain o p a b c) δ S = (ev G a δ S).bind fun x S1 => (ev G b δ S1).bind fun y S2 => optR (cmpD o x y S2) fun t => if t = true then (ev G c δ S2).bind fun z S3 => optD (cmpD p y z S3) S3 else .ok (.bl false) S2 := by
  rw [v_chain]; congr; funext x S1; congr; funext y S2; cases cmpD o x y S2 with | none => rfl | some t => cases t <;> rfl
theorem w_tchain (o p : CO) (a b c : C) : evT G (.tchain o p a b c) δ S = (ev G a δ S).bind fun x S1 => (ev G b δ S1).bind fun y S2 => optR (cmpD o x y S2) fun t => if t = true then (ev G c δ S2).bind fun z S3 => optB (cmpD p y z S3) S3 else .ok false S2 := by
  rw [t_chain]; congr; funext x S1; congr; funext y S2; cases cmpD o x y S2 with | none => rfl | some t => cases t <;> rfl
def negD (x : D) (S : Store) : R D := match x with | .int i => .ok (.int (-i)) S | _ => .stuck
theorem w_neg (a : C) : ev G (.neg a) δ S = (ev G a δ S).bind negD := by
  rw [v_neg]; first | rfl | (congr; funext x S1; cases x <;> rfl)
theorem n_int (i : Int) : negD (.int i) S = .ok (.int (-i)) S := rfl
def revD (m : Bool) (x : D) (S : Store) : R D := match deref S x with | .tup ds => .ok (.tup ds.reverse) S | .lst ds => newL m ds.reverse S | _ => .stuck
theorem w_rev (m : Bool) (a : C) : ev G (.rev m a) δ S = (ev G a δ S).bind (revD m) := by
  rw [v_rev]; first | rfl | (congr; funext x S1; unfold revD; cases deref S1 x <;> rfl)
theorem w_mcall (a : C) (m : Nat) (es : C) : ev G (.mcall a m es) δ S = (ev G a δ S).bind fun x S1 => optR (mtD G x m S1) fun n => (evs G es δ S1).bind fun ds S2 => G.cal n (x :: ds) S2 := by
  rw [v_mcall]; congr; funext x S1; cases mtD G x m S1 <;> rfl
theorem w_new (m : Bool) (c : Nat) (es : C) : ev G (.new m c es) δ S = optR (G.ini c) fun i => (evs G es δ S).bind fun ds S1 => newO m S1.length (G.cal i (.ref S1.length :: ds) (S1 ++ [.ins c [] []])) := by
  rw [v_new]; cases G.ini c <;> rfl
def lrnD (m : Bool) (x y : D) (S : Store) : R D := match x, y with | .int i, .int j => if inR i && inR j then newL m (rangeD i j) S else .stuck | _, _ => .stuck
theorem w_lrng (m : Bool) (a b : C) : ev G (.lrng m a b) δ S = (ev G a δ S).bind fun x S1 => (ev G b δ S1).bind fun y S2 => lrnD m x y S2 := by
  rw [v_lrng]; first | rfl | (congr; funext x S1; congr; funext y S2; cases x <;> first | rfl | (cases y <;> rfl))
theorem n_lrng (m : Bool) (i j : Int) : lrnD m (.int i) (.int j) S = if (inR i && inR j) = true then newL m (rangeD i j) S else .stuck := rfl
theorem w_tch3 (o p q : CO) (a b c d : C) : evT G (.tch3 o p q a b c d) δ S = (ev G a δ S).bind fun x S1 => (ev G b δ S1).bind fun y S2 => optR (cmpD o x y S2) fun t => if t = true then (ev G c δ S2).bind fun z S3 => optR (cmpD p y z S3) fun t => if t = true then (ev G d δ S3).bind fun u S4 => optB (cmpD q z u S4) S4 else .ok false S3 else .ok false S2 := by
  rw [t_ch3]; congr; funext x S1; congr; funext y S2
  cases cmpD o x y S2 with
  | none => rfl
  | some t =>
    cases t with
    | false => rfl
    | true =>
      show (ev G c δ S2).bind _ = (ev G c δ S2).bind _
      congr; funext z S3
      cases cmpD p y z S3 with
      | none => rfl
      | some t => cases t <;> rfl
def matR (o : Option (Option Env)) (f : Env → RS) (g : RS) : RS := match o with | some (some δ) => f δ | some none => g | none => .stuck
theorem km_some (δ : Env) (f : Env → RS) (g : RS) : matR (some (some δ)) f g = f δ := rfl
theorem km_none (f : Env → RS) (g : RS) : matR (some none) f g = g := rfl
theorem km_ite (p : Prop) [Decidable p] (a b : Option Env) (f : Env → RS) (g : RS) : matR (some (if p then a else b)) f g = if p then matR (some a) f g else matR (some b) f g := by by_cases h : p <;> simp [h]
theorem w_case (p : Pt) (b r : C) (d : D) : exM G (.cons (.case_ p b) r) d δ S = matR (matD S p d δ) (fun δ1 => ex G b δ1 S) (exM G r d δ S) := by
  rw [m_cons]; unfold matR; rfl
def frzAR (o : Option (Option D)) (f : Nat) (S : Store) (k : Store → RS) : RS := match o with | some (some d) => (match frzAD d f S with | some S1 => k S1 | none => .stuck) | _ => .stuck
theorem q_frzA (i f : Nat) (b : C) : ex G (.cons (.frzA i f) b) δ S = frzAR δ[i]? f S fun S1 => ex G b δ S1 := rfl
def msR (o : Option (Option Env)) (f : Env → Option (Option Env)) : Option (Option Env) := match o with | some (some δ) => f δ | r => r
theorem ms_c (q : Pq) (qs : List Pq) (d : D) (ds : List D) : matS S (q :: qs) (d :: ds) δ = msR (matQ S q d δ) fun δ1 => matS S qs ds δ1 := by
  rw [show matS S (q :: qs) (d :: ds) δ = (match matQ S q d δ with | some (some δ1) => matS S qs ds δ1 | r => r) from rfl]; unfold msR; cases matQ S q d δ with
  | none => rfl
  | some o => cases o <;> rfl
theorem msr_s (δ : Env) (f : Env → Option (Option Env)) : msR (some (some δ)) f = f δ := rfl
theorem msr_n (f : Env → Option (Option Env)) : msR (some none) f = some none := rfl
theorem msr_i (p : Prop) [Decidable p] (a b : Option Env) (f : Env → Option (Option Env)) : msR (some (if p then a else b)) f = if p then msR (some a) f else msR (some b) f := by by_cases h : p <;> simp [h]
theorem w_app (a e : C) : ev G (.app a e) δ S = (ev G a δ S).bind fun x S1 => if (isL (deref S1 x)).isSome = true then (ev G e δ S1).bind fun y S2 => appD x y S2 else .stuck := rfl
theorem w_star (a b : C) : evs G (.cons (.star a) b) δ S = (ev G a δ S).bind fun x S1 => optR (seqD S1 x) fun xs => (evs G b δ S1).bind fun ys S2 => .ok (xs ++ ys) S2 := by
  show (ev G a δ S).bind _ = _
  congr; funext x S1; cases seqD S1 x <;> rfl
theorem w_eget (f : Nat) : ev G (.eget f) δ S = optR G.cur fun p => if G.ef p.1 = some f then .ok p.2 S else .stuck := by
  rw [v_eget]; cases G.cur <;> rfl
theorem w_eis (c : Nat) : ev G (.eis c) δ S = optR G.cur fun p => .ok (.bl (G.sub p.1 c)) S := by
  rw [v_eis]; cases G.cur <;> rfl
def rngD (x y : D) (S : Store) : R PV.It := match x, y with | .int i, .int j => if inR i && inR j then .ok (.fix (rangeD i j)) S else .stuck | _, _ => .stuck
theorem w_rng (a b : C) : evI G (.rng a b) δ S = (ev G a δ S).bind fun x S1 => (ev G b δ S1).bind fun y S2 => rngD x y S2 := by
  rw [i_rng]; first | rfl | (congr; funext x S1; congr; funext y S2; cases x <;> first | rfl | (cases y <;> rfl))
theorem n_rng (i j : Int) : rngD (.int i) (.int j) S = if (inR i && inR j) = true then .ok (.fix (rangeD i j)) S else .stuck := rfl
def enuD (x : D) (S : Store) : R PV.It := match x with | .lst ds => .ok (.fix (enumD ds)) S | _ => .stuck
theorem w_enum (a : C) : evI G (.enum a) δ S = (ev G a δ S).bind enuD := by
  rw [i_enum]; first | rfl | (congr; funext x S1; cases x <;> rfl)
theorem n_enum (ds : List D) : enuD (.lst ds) S = .ok (.fix (enumD ds)) S := rfl
theorem w_zip (a b : C) : evI G (.zip a b) δ S = (ev G a δ S).bind fun x S1 => (ev G b δ S1).bind fun y S2 => optR (zipD x y) fun ds => .ok (.fix ds) S2 := by
  rw [i_zip]; congr; funext x S1; congr; funext y S2; cases zipD x y <;> rfl
theorem w_ifs (c a b : C) : ex G (.ifs c a b) δ S = ifR (evT G c δ S) δ (fun S1 => ex G a δ S1) (fun S1 => ex G b δ S1) := by
  rw [x_ifs]; cases evT G c δ S with | ok t S1 => cases t <;> rfl | ex c v S1 => rfl | stuck => rfl
theorem w_for (tg : Tg) (src b : C) : ex G (.for_ tg src b) δ S = itR (evI G src δ S) δ fun its S1 => forI tg (ex G b) its δ S1 := by
  rw [x_for]; cases evI G src δ S <;> rfl
theorem w_try (b h : C) : ex G (.try_ b h) δ S = tryR (ex G b δ S) fun c v δ1 S1 => exH G h c v δ1 S1 := by
  rw [x_try]; cases ex G b δ S <;> rfl
theorem w_set (tg : Tg) (e : C) : ex G (.set tg e) δ S = RofS δ (ev G e δ S) fun d S1 => bndR (bindT tg d δ) fun δ1 => .nx δ1 S1 := by
  rw [x_set]; first | rfl | (congr; funext d S1; cases bindT tg d δ <;> rfl)
theorem w_hnam (x i : Nat) (h r : C) (c : Nat) (v : D) : exH G (.cons (.hnd x i h) r) c v δ S = if G.sub c x = true then retR (if i < δ.length then ev { G with cur := some (c, v) } h (δ.set i none) S else .stuck) else exH G r c v δ S := rfl
theorem w_hbar (x : Nat) (h r : C) (c : Nat) (v : D) : exH G (.cons (.hndN x h) r) c v δ S = if G.sub c x = true then retR (ev { G with cur := some (c, v) } h δ S) else exH G r c v δ S := rfl
theorem w_while (c b : C) : ex G (.while_ c b) δ S = whileF (evT G c) (ex G b) G.fu δ S := rfl
theorem q_set (t : Tg) (e : C) (r : C) : ex G (.cons (.set t e) r) δ S = seqR (ex G (.set t e) δ S) fun δ1 S1 => ex G r δ1 S1 := by rw [c_set]; cases ex G (.set t e) δ S <;> rfl
theorem q_stI (a i e : C) (r : C) : ex G (.cons (.stI a i e) r) δ S = seqR (ex G (.stI a i e) δ S) fun δ1 S1 => ex G r δ1 S1 := by rw [c_stI]; cases ex G (.stI a i e) δ S <;> rfl
theorem q_expr (e : C) (r : C) : ex G (.cons (.expr e) r) δ S = seqR (ex G (.expr e) δ S) fun δ1 S1 => ex G r δ1 S1 := by rw [c_expr]; cases ex G (.expr e) δ S <;> rfl
theorem q_ret (e : C) (r : C) : ex G (.cons (.ret e) r) δ S = ex G (.ret e) δ S := by
  rw [c_ret, x_ret]; cases ev G e δ S <;> rfl
theorem q_ifs (c a b : C) (r : C) : ex G (.cons (.ifs c a b) r) δ S = seqR (ex G (.ifs c a b) δ S) fun δ1 S1 => ex G r δ1 S1 := by rw [c_ifs]; cases ex G (.ifs c a b) δ S <;> rfl
theorem q_for (t : Tg) (s b : C) (r : C) : ex G (.cons (.for_ t s b) r) δ S = seqR (ex G (.for_ t s b) δ S) fun δ1 S1 => ex G r δ1 S1 := by rw [c_for]; cases ex G (.for_ t s b) δ S <;> rfl
theorem q_while (c b : C) (r : C) : ex G (.cons (.while_ c b) r) δ S = seqR (ex G (.while_ c b) δ S) fun δ1 S1 => ex G r δ1 S1 := by rw [c_while]; cases ex G (.while_ c b) δ S <;> rfl
theorem q_stA (a : C) (f : Nat) (e : C) (r : C) : ex G (.cons (.stA a f e) r) δ S = seqR (ex G (.stA a f e) δ S) fun δ1 S1 => ex G r δ1 S1 := by rw [c_stA]; cases ex G (.stA a f e) δ S <;> rfl
theorem q_match (e cs : C) (r : C) : ex G (.cons (.match_ e cs) r) δ S = seqR (ex G (.match_ e cs) δ S) fun δ1 S1 => ex G r δ1 S1 := by rw [c_match]; cases ex G (.match_ e cs) δ S <;> rfl
theorem q_raise (x : Nat) (e : C) (r : C) : ex G (.cons (.raise_ x e) r) δ S = ex G (.raise_ x e) δ S := by
  rw [c_raise, x_raise]; cases ev G e δ S <;> rfl
theorem q_try (b h : C) (r : C) : ex G (.cons (.try_ b h) r) δ S = seqR (ex G (.try_ b h) δ S) fun δ1 S1 => ex G r δ1 S1 := by rw [c_try]; cases ex G (.try_ b h) δ S <;> rfl
def frzR (o : Option (Option D)) (i : Nat) (δ : Env) (S : Store) (k : Env → Store → RS) : RS := match o with | some (some d) => (match frzD d S with | .ok e S1 => k (δ.set i (some e)) S1 | _ => .stuck) | _ => .stuck
theorem q_frz (i : Nat) (b : C) : ex G (.cons (.frzV i) b) δ S = frzR δ[i]? i δ S fun δ1 S1 => ex G b δ1 S1 := rfl
theorem f_nil (tg : Tg) (body : FS) : forL tg body [] δ S = .nx δ S := rfl
theorem f_cons (tg : Tg) (body : FS) (d : D) (ds : List D) : forL tg body (d :: ds) δ S = bndR (bindT tg d δ) fun δ1 => loopR (body δ1 S) fun δ2 S2 => forL tg body ds δ2 S2 := by
  have e : forL tg body (d :: ds) δ S = (match bindT tg d δ with | none => .stuck | some δ1 => match body δ1 S with | .nx δ2 S2 => forL tg body ds δ2 S2 | .ct δ2 S2 => forL tg body ds δ2 S2 | .bk δ2 S2 => .nx δ2 S2 | r => r) := rfl
  rw [e]
  cases bindT tg d δ with
  | none => rfl
  | some δ1 =>
    show (match body δ1 S with | .nx δ2 S2 => forL tg body ds δ2 S2 | .ct δ2 S2 => forL tg body ds δ2 S2 | .bk δ2 S2 => .nx δ2 S2 | r => r) = loopR (body δ1 S) _
    cases body δ1 S <;> rfl
theorem g_one (i : Nat) (d : D) : bindT (.one i) d δ = some (δ.set i (some d)) := rfl
theorem g_two (i j : Nat) (a b : D) : bindT (.tup [i, j]) (.tup [a, b]) δ = some ((δ.set i (some a)).set j (some b)) := rfl
theorem g_three (i j k : Nat) (a b c : D) : bindT (.tup [i, j, k]) (.tup [a, b, c]) δ = some (((δ.set i (some a)).set j (some b)).set k (some c)) := rfl
theorem g_deep (ts : List Tq) (ds : List D) : bindT (.deep ts) (.tup ds) δ = bindP ts ds δ := rfl
theorem p_nil : bindP [] [] δ = some δ := rfl
theorem p_one (i : Nat) (r : List Tq) (d : D) (ds : List D) : bindP (.one i :: r) (d :: ds) δ = bindP r ds (δ.set i (some d)) := rfl
theorem p_two (i j : Nat) (r : List Tq) (a b : D) (ds : List D) : bindP (.tup [i, j] :: r) (.tup [a, b] :: ds) δ = bindP r ds ((δ.set i (some a)).set j (some b)) := rfl
theorem g_four (i j k l : Nat) (a b c d : D) : bindT (.tup [i, j, k, l]) (.tup [a, b, c, d]) δ = some ((((δ.set i (some a)).set j (some b)).set k (some c)).set l (some d)) := rfl
end
def ocD (x : D) (S : Store) : R (Option Int) := match x with | .int i => .ok (some i) S | _ => .stuck
theorem w_oc (G : Gv) (δ : Env) (S : Store) (a b : C) : evO G (.cons a b) δ S = (ev G a δ S).bind ocD := by
  rw [o_cons]; first | rfl | (congr; funext x S1; cases x <;> rfl)
def pkS {α : Type} (z : α) (g : D × V × Value → α) (us : List α) : Sum Nat (D × V × Value) → α
  | .inl j => us.getD j z
  | .inr q => g q
theorem vals_get {vs : List V} {us : List Value} (h : Vals vs us) (j : Nat) : RelV (vs.getD j .non) (us.getD j .none) := by
  induction h generalizing j with
  | nil => simp; rfl
  | cons r _ ih => cases j with | zero => exact r | succ j => simpa using ih j
theorem reps_get {T : Tb} {w : Wo} : ∀ {ds : List D} {vs : List V}, Reps T w ds vs → ∀ j : Nat, Rep T w (ds.getD j .non) (vs.getD j .non)
  | _, _, .nil, j => by simpa using Rep.non
  | _, _, .cons r _, 0 => r
  | _, _, .cons _ t, j + 1 => by simpa using reps_get t j
/-- a call with names, from how its arguments are put in the parameters' order -/
theorem sh_mk {T : Tb} {p : Pg} {sh : Nat} {K : PySem.W.Frag} {fd : FuncData} {ks ps : List Str} (src : List (Sum Nat (D × V × Value))) (hsrc : (p.shp sh).2.2 = src.map fun q => match q with | .inl j => .inl j | .inr q => .inr q.1) (hlen : src.length = ps.length) (hk : ks.length = (p.shp sh).2.1)
    (hd : ∀ q, Sum.inr q ∈ src → RelV q.2.1 q.2.2 ∧ ∀ w, Rep T w q.1 q.2.1) (to : ∀ (s : Shared) (us ws : List Value), K.In s.heap → us.length = (p.shp sh).1 → ws.length = ks.length → BindsTo s fd ⟨us, ks.zip ws⟩ (ps.zip (src.map (pkS .none (·.2.2) (us ++ ws))))) : ShOk T p sh K fd ks ps := by
  refine ⟨⟨fun us ws => src.map (pkS .none (·.2.2) (us ++ ws)), fun vs zs => src.map (pkS .non (·.2.1) (vs ++ zs)), ⟨to, fun r rz => ?_⟩, hk, fun us ws => by rw [List.length_map, hlen], fun w ds xs vs zs rs rx _ _ => ?_⟩⟩
  · have ra := r.append rz
    clear hsrc hlen to
    induction src with
    | nil => exact .nil
    | cons q src ih =>
      refine .cons ?_ (ih fun q hq => hd q (List.mem_cons_of_mem _ hq))
      cases q with
      | inl j => exact vals_get ra j
      | inr q => exact (hd q List.mem_cons_self).1
  · have ra := rs.append rx
    rw [hsrc]
    clear hsrc hlen to
    induction src with
    | nil => exact .nil
    | cons q src ih =>
      refine .cons ?_ (ih fun q hq => hd q (List.mem_cons_of_mem _ hq))
      cases q with
      | inl j => exact reps_get ra j
      | inr q => exact (hd q List.mem_cons_self).2 w
theorem cal_star (p : Pg) (d f : Nat) (ds : List D) (S : Store) (hk : p.ko f = false) (hv : p.vr f = true) (hn : p.np f ≤ ds.length) (hf : fits ds.length = true) : p.cal (d + 1) f ds S = outR (ex (p.gv (p.run d)) (p.code f) (startD (p.nv f) (ds.take (p.np f) ++ [.tup (ds.drop (p.np f))])) S) := by
  have e : p.bind f ds = some (ds.take (p.np f) ++ [.tup (ds.drop (p.np f))]) := by
    unfold Pg.bind
    rw [hk, hv, hf, decide_eq_true hn]
    rfl
  show (match p.bind f ds with | some es => outR (ex (p.gv (p.run d)) (p.code f) (startD (p.nv f) es) S) | none => .stuck) = _
  rw [e]
theorem cal_plain (p : Pg) (d f : Nat) (ds : List D) (S : Store) (hk : p.ko f = false) (hv : p.vr f = false) (hn : p.np f = ds.length) (hd : p.df f = []) : p.cal (d + 1) f ds S = outR (ex (p.gv (p.run d)) (p.code f) (startD (p.nv f) ds) S) := by
  have e : p.bind f ds = some ds := by
    unfold Pg.bind
    rw [hk, hv, hd, hn]
    simp
  show (match p.bind f ds with | some es => outR (ex (p.gv (p.run d)) (p.code f) (startD (p.nv f) es) S) | none => .stuck) = _
  rw [e]
theorem gv_cal (p : Pg) (d f : Nat) (ds : List D) (S : Store) : (p.gv (p.run d)).cal f ds S = p.cal d f ds S := rfl
inductive Fr where
  | bin1 (G : Gv) (o : Op2) (b : C) (δ : Env)
  | bin2 (o : Op2) (x : D)
  | neg 
  | not 
  | and1 (G : Gv) (b : C) (δ : Env)
  | or1 (G : Gv) (b : C) (δ : Env)
  | cmp1 (G : Gv) (o : CO) (b : C) (δ : Env)
  | cmp2 (o : CO) (x : D)
  | ch1 (G : Gv) (o p : CO) (b c : C) (δ : Env)
  | ch2 (G : Gv) (o p : CO) (x : D) (c : C) (δ : Env)
  | idx1 (G : Gv) (i : C) (δ : Env)
  | ix2 (x : D)
  | sl1 (m : Bool) (G : Gv) (lo hi : C) (δ : Env)
  | sl2 (m : Bool) (G : Gv) (x : D) (hi : C) (δ : Env)
  | sl3 (m : Bool) (x : D) (l : Option Int)
  | rev (m : Bool)
  | isi (t : Ty)
  | app1 (G : Gv) (e : C) (δ : Env)
  | app2 (x : D)
  | frz 
  | con1 (G : Gv) (b : C) (δ : Env)
  | con2 (x : D)
  | star1 (G : Gv) (b : C) (δ : Env)
  | star2 (xs : List D)
  | tup 
  | lst (m : Bool)
  | call (G : Gv) (f : Nat)
  | ck1 (G : Gv) (s : Nat) (vs : C) (δ : Env)
  | ck2 (G : Gv) (s : Nat) (ds : List D)
  | bi (b : Bi)
  | comp1 (m : Bool) (G : Gv) (tg : Tg) (cnd elt : C) (δ : Env)
  | rng1 (G : Gv) (b : C) (δ : Env)
  | rng2 (x : D)
  | enum 
  | zip1 (G : Gv) (b : C) (δ : Env)
  | zip2 (x : D)
  | itst 
  | tst 
  | tcmp1 (G : Gv) (o : CO) (b : C) (δ : Env)
  | tcmp2 (o : CO) (x : D)
  | tch1 (G : Gv) (o p : CO) (b c : C) (δ : Env)
  | tch2 (G : Gv) (o p : CO) (x : D) (c : C) (δ : Env)
  | tnot 
  | tand (G : Gv) (b : C) (δ : Env)
  | tor (G : Gv) (b : C) (δ : Env)
  | ite (G : Gv) (a b : C) (δ : Env)
  | oc 
  | set (tg : Tg) (δ : Env)
  | stI1 (G : Gv) (a i : C) (δ : Env)
  | stI2 (G : Gv) (i : C) (δ : Env) (z : D)
  | stI3 (δ : Env) (z x : D)
  | expr (δ : Env)
  | ret (δ : Env)
  | ifs (G : Gv) (a b : C) (δ : Env)
  | for_ (G : Gv) (tg : Tg) (b : C) (δ : Env)
  | seq (G : Gv) (b : C)
  | raise (G : Gv) (e : Nat) (δ : Env)
  | try_ (G : Gv) (h : C)
  | hret 
  | loop (tg : Tg) (G : Gv) (b : C) (ds : List D)
  | comp21 (m : Bool) (G : Gv) (tg : Tg) (cnd : C) (tg2 : Tg) (src2 cnd2 elt : C) (δ : Env)
  | fld (G : Gv) (f : Nat)
  | mc1 (G : Gv) (m : Nat) (es : C) (δ : Env)
  | mc2 (G : Gv) (n : Nat) (x : D)
  | new (G : Gv) (m : Bool) (c i : Nat)
  | nk1 (G : Gv) (m : Bool) (c s : Nat) (vs : C) (δ : Env)
  | nk2 (G : Gv) (m : Bool) (c s : Nat) (ds : List D)
  | newO (m : Bool) (n : Nat)
  | iso (G : Gv) (c : Nat)
  | isit (t u : Ty)
  | lrng1 (m : Bool) (G : Gv) (b : C) (δ : Env)
  | lrng2 (m : Bool) (x : D)
  | lset 
  | sset (m : Bool)
  | mkx (G : Gv) (a : Nat)
  | isx (G : Gv) (j : Nat)
  | isxt (G : Gv) (js : List Nat)
  | popl 
  | dc1 (m : Bool) (n : Nat) (G : Gv) (v : C) (δ : Env)
  | dc2 (m : Bool) (n : Nat) (x : D)
  | eqo1 (m : Nat) (neg : Bool) (G : Gv) (b : C) (δ : Env)
  | eqo2 (m : Nat) (neg : Bool) (G : Gv) (x : D)
  | t31 (G : Gv) (o p q : CO) (b c d : C) (δ : Env)
  | t32 (G : Gv) (o p q : CO) (x : D) (c d : C) (δ : Env)
  | t33 (G : Gv) (p q : CO) (y : D) (d : C) (δ : Env)
  | stA1 (G : Gv) (a : C) (f : Nat) (δ : Env)
  | stA2 (G : Gv) (f : Nat) (δ : Env) (z : D)
  | mat (G : Gv) (cs : C) (δ : Env)
  | out 
inductive Rz where | d (r : R D) | l (r : R (List D)) | b (r : R Bool) | o (r : R (Option Int)) | i (r : R PV.It) | s (r : RS)
def fr1 : Fr → Rz → Rz
  | .bin1 G o b δ, .d r => .d (r.bind fun x S => (ev G b δ S).bind fun y S2 => bin2 o x y S2)
  | .bin2 o x, .d r => .d (r.bind fun y S => PV.bin2 o x y S)
  | .neg, .d r => .d (r.bind negD)
  | .not, .d r => .d (r.bind fun x S => optR (truD S x) fun b => .ok (.bl (!b)) S)
  | .and1 G b δ, .d r => .d (r.bind fun x S => optR (truD S x) fun t => if t = true then ev G b δ S else .ok x S)
  | .or1 G b δ, .d r => .d (r.bind fun x S => optR (truD S x) fun t => if t = true then .ok x S else ev G b δ S)
  | .cmp1 G o b δ, .d r => .d (r.bind fun x S => (ev G b δ S).bind fun y S2 => optD (cmpD o x y S2) S2)
  | .cmp2 o x, .d r => .d (r.bind fun y S => optD (cmpD o x y S) S)
  | .ch1 G o p b c δ, .d r => .d (r.bind fun x S => (ev G b δ S).bind fun y S2 => optR (cmpD o x y S2) fun t => if t = true then (ev G c δ S2).bind fun z S3 => optD (cmpD p y z S3) S3 else .ok (.bl false) S2)
  | .ch2 G o p x c δ, .d r => .d (r.bind fun y S2 => optR (cmpD o x y S2) fun t => if t = true then (ev G c δ S2).bind fun z S3 => optD (cmpD p y z S3) S3 else .ok (.bl false) S2)
  | .idx1 G i δ, .d r => .d (r.bind fun x S => (ev G i δ S).bind fun y S2 => idx2 x y S2)
  | .ix2 x, .d r => .d (r.bind fun y S => idx2 x y S)
  | .sl1 m G lo hi δ, .d r => .d (r.bind fun x S => (evO G lo δ S).bind fun l S2 => (evO G hi δ S2).bind fun h S3 => PV.sl2 m x l h S3)
  | .sl2 m G x hi δ, .o r => .d (r.bind fun l S2 => (evO G hi δ S2).bind fun h S3 => PV.sl2 m x l h S3)
  | .sl3 m x l, .o r => .d (r.bind fun h S => PV.sl2 m x l h S)
  | .rev m, .d r => .d (r.bind (revD m))
  | .isi t, .d r => .d (r.bind fun x S => optD (isiD S x t) S)
  | .app1 G e δ, .d r => .d (r.bind fun x S => if (isL (deref S x)).isSome = true then (ev G e δ S).bind fun y S2 => appD x y S2 else .stuck)
  | .app2 x, .d r => .d (r.bind fun y S => appD x y S)
  | .frz, .d r => .d (r.bind fun x S => frzD x S)
  | .con1 G b δ, .d r => .l (r.bind fun x S => (evs G b δ S).bind fun xs S2 => .ok (x :: xs) S2)
  | .con2 x, .l r => .l (r.bind fun xs S => .ok (x :: xs) S)
  | .star1 G b δ, .d r => .l (r.bind fun x S => optR (seqD S x) fun xs => (evs G b δ S).bind fun ys S2 => .ok (xs ++ ys) S2)
  | .star2 xs, .l r => .l (r.bind fun ys S => .ok (xs ++ ys) S)
  | .tup, .l r => .d (r.bind fun ds S => if fits ds.length = true then .ok (.tup ds) S else .stuck)
  | .lst m, .l r => .d (r.bind fun ds S => newL m ds S)
  | .call G f, .l r => .d (r.bind fun ds S => G.cal f ds S)
  | .ck1 G s vs δ, .l r => .d (r.bind fun ds S => (evs G vs δ S).bind fun zs S2 => G.cak s ds zs S2)
  | .ck2 G s ds, .l r => .d (r.bind fun zs S => G.cak s ds zs S)
  | .bi b, .l r => .d (r.bind fun ds S => biD b ds S)
  | .comp1 m G tg cnd elt δ, .i r => .d (r.bind fun its S => (compI tg (evT G cnd) (ev G elt) δ its S).bind fun ds S2 => newL m ds S2)
  | .rng1 G b δ, .d r => .i (r.bind fun x S => (ev G b δ S).bind fun y S2 => rngD x y S2)
  | .rng2 x, .d r => .i (r.bind fun y S => rngD x y S)
  | .enum, .d r => .i (r.bind enuD)
  | .zip1 G b δ, .d r => .i (r.bind fun x S => (ev G b δ S).bind fun y S2 => optR (zipD x y) fun ds => .ok (.fix ds) S2)
  | .zip2 x, .d r => .i (r.bind fun y S => optR (zipD x y) fun ds => .ok (.fix ds) S)
  | .itst, .d r => .i (r.bind fun x S => itD S x)
  | .tst, .d r => .b (r.bind fun x S => optB (truD S x) S)
  | .tcmp1 G o b δ, .d r => .b (r.bind fun x S => (ev G b δ S).bind fun y S2 => optB (cmpD o x y S2) S2)
  | .tcmp2 o x, .d r => .b (r.bind fun y S => optB (cmpD o x y S) S)
  | .tch1 G o p b c δ, .d r => .b (r.bind fun x S => (ev G b δ S).bind fun y S2 => optR (cmpD o x y S2) fun t => if t = true then (ev G c δ S2).bind fun z S3 => optB (cmpD p y z S3) S3 else .ok false S2)
  | .tch2 G o p x c δ, .d r => .b (r.bind fun y S2 => optR (cmpD o x y S2) fun t => if t = true then (ev G c δ S2).bind fun z S3 => optB (cmpD p y z S3) S3 else .ok false S2)
  | .tnot, .b r => .b (r.bind fun b S => .ok (!b) S)
  | .tand G b δ, .b r => .b (r.bind fun x S => if x = true then evT G b δ S else .ok false S)
  | .tor G b δ, .b r => .b (r.bind fun x S => if x = true then .ok true S else evT G b δ S)
  | .ite G a b δ, .b r => .d (r.bind fun x S => if x = true then ev G a δ S else ev G b δ S)
  | .oc, .d r => .o (r.bind ocD)
  | .set tg δ, .d r => .s (RofS δ r fun d S => bndR (bindT tg d δ) fun δ1 => .nx δ1 S)
  | .stI1 G a i δ, .d r => .s (RofS δ r fun z S => RofS δ (ev G a δ S) fun x S2 => RofS δ (ev G i δ S2) fun y S3 => RofS δ (setI x y z S3) fun _ S4 => .nx δ S4)
  | .stI2 G i δ z, .d r => .s (RofS δ r fun x S2 => RofS δ (ev G i δ S2) fun y S3 => RofS δ (setI x y z S3) fun _ S4 => .nx δ S4)
  | .stI3 δ z x, .d r => .s (RofS δ r fun y S3 => RofS δ (setI x y z S3) fun _ S4 => .nx δ S4)
  | .expr δ, .d r => .s (RofS δ r fun _ S => .nx δ S)
  | .ret δ, .d r => .s (RofS δ r fun d S => .rt d S)
  | .ifs G a b δ, .b r => .s (ifR r δ (fun S => ex G a δ S) (fun S => ex G b δ S))
  | .for_ G tg b δ, .i r => .s (itR r δ fun its S => forI tg (ex G b) its δ S)
  | .seq G b, .s r => .s (seqR r fun δ S => ex G b δ S)
  | .raise G e δ, .d r => .s (RofS δ r fun d S => .ex e (xval G e d) δ S)
  | .try_ G h, .s r => .s (tryR r fun c v δ S => exH G h c v δ S)
  | .hret, .d r => .s (retR r)
  | .loop tg G b ds, .s r => .s (loopR r fun δ S => forL tg (ex G b) ds δ S)
  | .comp21 m G tg cnd tg2 src2 cnd2 elt δ, .i r => .d (r.bind fun its S => (compWI (slots tg ++ slots tg2) tg (evT G cnd) (fun δ1 S2 => comp1I tg2 (evT G cnd2) (ev G elt) δ1 (evI G src2 δ1 S2)) δ its S).bind fun ds S2 => newL m ds S2)
  | .fld G f, .d r => .d (r.bind fun x S => fldD G x f S)
  | .mc1 G m es δ, .d r => .d (r.bind fun x S => optR (mtD G x m S) fun n => (evs G es δ S).bind fun ds S2 => G.cal n (x :: ds) S2)
  | .mc2 G n x, .l r => .d (r.bind fun ds S => G.cal n (x :: ds) S)
  | .new G m c i, .l r => .d (r.bind fun ds S => newO m S.length (G.cal i (.ref S.length :: ds) (S ++ [.ins c [] []])))
  | .nk1 G m c s vs δ, .l r => .d (r.bind fun ds S => (evs G vs δ S).bind fun zs S2 => newO m S2.length (G.cak s (.ref S2.length :: ds) zs (S2 ++ [.ins c [] []])))
  | .nk2 G m c s ds, .l r => .d (r.bind fun zs S => newO m S.length (G.cak s (.ref S.length :: ds) zs (S ++ [.ins c [] []])))
  | .newO m n, .d r => .d (newO m n r)
  | .iso G c, .d r => .d (r.bind fun x S => optD (isoD G S x c) S)
  | .isit t u, .d r => .d (r.bind fun x S => optD (isitD S x t u) S)
  | .lrng1 m G b δ, .d r => .d (r.bind fun x S => (ev G b δ S).bind fun y S2 => lrnD m x y S2)
  | .lrng2 m x, .d r => .d (r.bind fun y S => lrnD m x y S)
  | .lset, .d r => .d (r.bind fun x S => lenSet x S)
  | .sset m, .d r => .d (r.bind fun x S => sortSet m x S)
  | .mkx G a, .d r => .d (r.bind fun x S => .ok (.err a (xval G a x)) S)
  | .isx G j, .d r => .d (r.bind fun x S => optD (isxD G S x j) S)
  | .isxt G js, .d r => .d (r.bind fun x S => optD (isxtD G S x js) S)
  | .popl, .d r => .d (r.bind fun x S => popD x S)
  | .dc1 m n G v δ, .d r => .d (r.bind fun x S => (ev G v δ S).bind fun y S2 => dctD m n x y S2)
  | .dc2 m n x, .d r => .d (r.bind fun y S => dctD m n x y S)
  | .eqo1 m neg G b δ, .d r => .d (r.bind fun x S => (ev G b δ S).bind fun y S2 => eqoD G m neg x y S2)
  | .eqo2 m neg G x, .d r => .d (r.bind fun y S => eqoD G m neg x y S)
  | .t31 G o p q b c d δ, .d r => .b (r.bind fun x S => (ev G b δ S).bind fun y S2 => optR (cmpD o x y S2) fun t => if t = true then (ev G c δ S2).bind fun z S3 => optR (cmpD p y z S3) fun t => if t = true then (ev G d δ S3).bind fun u S4 => optB (cmpD q z u S4) S4 else .ok false S3 else .ok false S2)
  | .t32 G o p q x c d δ, .d r => .b (r.bind fun y S2 => optR (cmpD o x y S2) fun t => if t = true then (ev G c δ S2).bind fun z S3 => optR (cmpD p y z S3) fun t => if t = true then (ev G d δ S3).bind fun u S4 => optB (cmpD q z u S4) S4 else .ok false S3 else .ok false S2)
  | .t33 G p q y d δ, .d r => .b (r.bind fun z S3 => optR (cmpD p y z S3) fun t => if t = true then (ev G d δ S3).bind fun u S4 => optB (cmpD q z u S4) S4 else .ok false S3)
  | .stA1 G a f δ, .d r => .s (RofS δ r fun z S => RofS δ (ev G a δ S) fun x S2 => RofS δ (stAD G x f z S2) fun _ S3 => .nx δ S3)
  | .stA2 G f δ z, .d r => .s (RofS δ r fun x S2 => RofS δ (stAD G x f z S2) fun _ S3 => .nx δ S3)
  | .mat G cs δ, .d r => .s (RofS δ r fun d S1 => exM G cs d δ S1)
  | .out, .s r => .d (outR r)
  | _, z => z
def ap : List Fr → Rz → Rz
  | [], z => z
  | f :: k, z => ap k (fr1 f z)
def unD : Rz → R D | .d r => r | _ => .stuck
theorem ap_app (k l : List Fr) (z : Rz) : ap (k ++ l) z = ap l (ap k z) := by
  induction k generalizing z with
  | nil => rfl
  | cons f k ih => exact ih _
theorem E_bin (k : List Fr) (G : Gv) (δ : Env) (S : Store) (o : Op2) (a b : C) : ap k (.d (ev G (.bin o a b) δ S)) = ap (.bin1 G o b δ :: k) (.d (ev G a δ S)) := rfl
theorem E_neg (k : List Fr) (G : Gv) (δ : Env) (S : Store) (a : C) : ap k (.d (ev G (.neg a) δ S)) = ap (.neg :: k) (.d (ev G a δ S)) := congrArg (ap k) (congrArg Rz.d (w_neg G δ S a))
theorem E_not (k : List Fr) (G : Gv) (δ : Env) (S : Store) (a : C) : ap k (.d (ev G (.not a) δ S)) = ap (.not :: k) (.d (ev G a δ S)) := congrArg (ap k) (congrArg Rz.d (w_not G δ S a))
theorem E_and (k : List Fr) (G : Gv) (δ : Env) (S : Store) (a b : C) : ap k (.d (ev G (.and a b) δ S)) = ap (.and1 G b δ :: k) (.d (ev G a δ S)) := congrArg (ap k) (congrArg Rz.d (w_and G δ S a b))
theorem E_or (k : List Fr) (G : Gv) (δ : Env) (S : Store) (a b : C) : ap k (.d (ev G (.or a b) δ S)) = ap (.or1 G b δ :: k) (.d (ev G a δ S)) := congrArg (ap k) (congrArg Rz.d (w_or G δ S a b))
theorem E_ite (k : List Fr) (G : Gv) (δ : Env) (S : Store) (c a b : C) : ap k (.d (ev G (.ite c a b) δ S)) = ap (.ite G a b δ :: k) (.b (evT G c δ S)) := rfl
theorem E_cmp (k : List Fr) (G : Gv) (δ : Env) (S : Store) (o : CO) (a b : C) : ap k (.d (ev G (.cmp o a b) δ S)) = ap (.cmp1 G o b δ :: k) (.d (ev G a δ S)) := rfl
theorem E_chain (k : List Fr) (G : Gv) (δ : Env) (S : Store) (o p : CO) (a b c : C) : ap k (.d (ev G (.chain o p a b c) δ S)) = ap (.ch1 G o p b c δ :: k) (.d (ev G a δ S)) := congrArg (ap k) (congrArg Rz.d (w_chain G δ S o p a b c))
theorem E_tup (k : List Fr) (G : Gv) (δ : Env) (S : Store) (es : C) : ap k (.d (ev G (.tup es) δ S)) = ap (.tup :: k) (.l (evs G es δ S)) := rfl
theorem E_lst (k : List Fr) (G : Gv) (δ : Env) (S : Store) (m : Bool) (es : C) : ap k (.d (ev G (.lst m es) δ S)) = ap (.lst m :: k) (.l (evs G es δ S)) := rfl
theorem E_call (k : List Fr) (G : Gv) (δ : Env) (S : Store) (f : Nat) (es : C) : ap k (.d (ev G (.call f es) δ S)) = ap (.call G f :: k) (.l (evs G es δ S)) := rfl
theorem E_callk (k : List Fr) (G : Gv) (δ : Env) (S : Store) (s : Nat) (es vs : C) : ap k (.d (ev G (.callk s es vs) δ S)) = ap (.ck1 G s vs δ :: k) (.l (evs G es δ S)) := rfl
theorem E_bi (k : List Fr) (G : Gv) (δ : Env) (S : Store) (b : Bi) (es : C) : ap k (.d (ev G (.bi b es) δ S)) = ap (.bi b :: k) (.l (evs G es δ S)) := rfl
theorem E_isi (k : List Fr) (G : Gv) (δ : Env) (S : Store) (a : C) (t : Ty) : ap k (.d (ev G (.isi a t) δ S)) = ap (.isi t :: k) (.d (ev G a δ S)) := rfl
theorem E_idx (k : List Fr) (G : Gv) (δ : Env) (S : Store) (a i : C) : ap k (.d (ev G (.idx a i) δ S)) = ap (.idx1 G i δ :: k) (.d (ev G a δ S)) := rfl
theorem E_sl (k : List Fr) (G : Gv) (δ : Env) (S : Store) (m : Bool) (a lo hi : C) : ap k (.d (ev G (.sl m a lo hi) δ S)) = ap (.sl1 m G lo hi δ :: k) (.d (ev G a δ S)) := rfl
theorem E_rev (k : List Fr) (G : Gv) (δ : Env) (S : Store) (m : Bool) (a : C) : ap k (.d (ev G (.rev m a) δ S)) = ap (.rev m :: k) (.d (ev G a δ S)) := congrArg (ap k) (congrArg Rz.d (w_rev G δ S m a))
theorem E_comp (k : List Fr) (G : Gv) (δ : Env) (S : Store) (m : Bool) (tg : Tg) (src cnd elt : C) : ap k (.d (ev G (.comp m tg src cnd elt) δ S)) = ap (.comp1 m G tg cnd elt δ :: k) (.i (evI G src δ S)) := rfl
theorem E_comp2 (k : List Fr) (G : Gv) (δ : Env) (S : Store) (m : Bool) (tg : Tg) (src cnd : C) (tg2 : Tg) (src2 cnd2 elt : C) : ap k (.d (ev G (.comp2 m tg src cnd tg2 src2 cnd2 elt) δ S)) = ap (.comp21 m G tg cnd tg2 src2 cnd2 elt δ :: k) (.i (evI G src δ S)) := rfl
theorem E_fld (k : List Fr) (G : Gv) (δ : Env) (S : Store) (a : C) (f : Nat) : ap k (.d (ev G (.fld a f) δ S)) = ap (.fld G f :: k) (.d (ev G a δ S)) := rfl
theorem E_mcall (k : List Fr) (G : Gv) (δ : Env) (S : Store) (a : C) (m : Nat) (es : C) : ap k (.d (ev G (.mcall a m es) δ S)) = ap (.mc1 G m es δ :: k) (.d (ev G a δ S)) := congrArg (ap k) (congrArg Rz.d (w_mcall G δ S a m es))
theorem E_newk (k : List Fr) (G : Gv) (δ : Env) (S : Store) (m : Bool) (c s : Nat) (es vs : C) : ap k (.d (ev G (.newk m c s es vs) δ S)) = ap (.nk1 G m c s vs δ :: k) (.l (evs G es δ S)) := rfl
theorem E_iso (k : List Fr) (G : Gv) (δ : Env) (S : Store) (a : C) (c : Nat) : ap k (.d (ev G (.iso a c) δ S)) = ap (.iso G c :: k) (.d (ev G a δ S)) := rfl
theorem E_isit (k : List Fr) (G : Gv) (δ : Env) (S : Store) (a : C) (t u : Ty) : ap k (.d (ev G (.isit a t u) δ S)) = ap (.isit t u :: k) (.d (ev G a δ S)) := rfl
theorem E_lrng (k : List Fr) (G : Gv) (δ : Env) (S : Store) (m : Bool) (a b : C) : ap k (.d (ev G (.lrng m a b) δ S)) = ap (.lrng1 m G b δ :: k) (.d (ev G a δ S)) := congrArg (ap k) (congrArg Rz.d (w_lrng G δ S m a b))
theorem E_lset (k : List Fr) (G : Gv) (δ : Env) (S : Store) (a : C) : ap k (.d (ev G (.lset a) δ S)) = ap (.lset :: k) (.d (ev G a δ S)) := rfl
theorem E_sset (k : List Fr) (G : Gv) (δ : Env) (S : Store) (m : Bool) (a : C) : ap k (.d (ev G (.sset m a) δ S)) = ap (.sset m :: k) (.d (ev G a δ S)) := rfl
theorem E_mkx (k : List Fr) (G : Gv) (δ : Env) (S : Store) (a : Nat) (e : C) : ap k (.d (ev G (.mkx a e) δ S)) = ap (.mkx G a :: k) (.d (ev G e δ S)) := rfl
theorem E_mkxk (k : List Fr) (G : Gv) (δ : Env) (S : Store) (a : Nat) (e : C) : ap k (.d (ev G (.mkxk a e) δ S)) = ap (.mkx G a :: k) (.d (ev G e δ S)) := rfl
theorem E_isx (k : List Fr) (G : Gv) (δ : Env) (S : Store) (a : C) (j : Nat) : ap k (.d (ev G (.isx a j) δ S)) = ap (.isx G j :: k) (.d (ev G a δ S)) := rfl
theorem E_isxt (k : List Fr) (G : Gv) (δ : Env) (S : Store) (a : C) (js : List Nat) : ap k (.d (ev G (.isxt a js) δ S)) = ap (.isxt G js :: k) (.d (ev G a δ S)) := rfl
theorem E_popl (k : List Fr) (G : Gv) (δ : Env) (S : Store) (a : C) : ap k (.d (ev G (.popl a) δ S)) = ap (.popl :: k) (.d (ev G a δ S)) := rfl
theorem E_dct1 (k : List Fr) (G : Gv) (δ : Env) (S : Store) (m : Bool) (a b : C) : ap k (.d (ev G (.dct1 m a b) δ S)) = ap (.dc1 m S.length G b δ :: k) (.d (ev G a δ (S ++ [.dct [] []]))) := rfl
theorem E_eqo (k : List Fr) (G : Gv) (δ : Env) (S : Store) (m : Nat) (neg : Bool) (a b : C) : ap k (.d (ev G (.eqo m neg a b) δ S)) = ap (.eqo1 m neg G b δ :: k) (.d (ev G a δ S)) := rfl
theorem E_app (k : List Fr) (G : Gv) (δ : Env) (S : Store) (a e : C) : ap k (.d (ev G (.app a e) δ S)) = ap (.app1 G e δ :: k) (.d (ev G a δ S)) := rfl
theorem E_frz (k : List Fr) (G : Gv) (δ : Env) (S : Store) (a : C) : ap k (.d (ev G (.frz a) δ S)) = ap (.frz :: k) (.d (ev G a δ S)) := rfl
theorem S_mkx (k : List Fr) (G : Gv) (δ : Env) (S : Store) (b : C) (a : Nat) (e : C) : ap k (.l (evs G (.cons (.mkx a e) b) δ S)) = ap (.con1 G b δ :: k) (.d (ev G (.mkx a e) δ S)) := rfl
theorem S_mkxk (k : List Fr) (G : Gv) (δ : Env) (S : Store) (b : C) (a : Nat) (e : C) : ap k (.l (evs G (.cons (.mkxk a e) b) δ S)) = ap (.con1 G b δ :: k) (.d (ev G (.mkxk a e) δ S)) := rfl
theorem S_isx (k : List Fr) (G : Gv) (δ : Env) (S : Store) (b : C) (a : C) (j : Nat) : ap k (.l (evs G (.cons (.isx a j) b) δ S)) = ap (.con1 G b δ :: k) (.d (ev G (.isx a j) δ S)) := rfl
theorem S_isxt (k : List Fr) (G : Gv) (δ : Env) (S : Store) (b : C) (a : C) (js : List Nat) : ap k (.l (evs G (.cons (.isxt a js) b) δ S)) = ap (.con1 G b δ :: k) (.d (ev G (.isxt a js) δ S)) := rfl
theorem S_popl (k : List Fr) (G : Gv) (δ : Env) (S : Store) (b : C) (a : C) : ap k (.l (evs G (.cons (.popl a) b) δ S)) = ap (.con1 G b δ :: k) (.d (ev G (.popl a) δ S)) := rfl
theorem S_dct1 (k : List Fr) (G : Gv) (δ : Env) (S : Store) (b : C) (m : Bool) (a c : C) : ap k (.l (evs G (.cons (.dct1 m a c) b) δ S)) = ap (.con1 G b δ :: k) (.d (ev G (.dct1 m a c) δ S)) := rfl
theorem S_eqo (k : List Fr) (G : Gv) (δ : Env) (S : Store) (b : C) (m : Nat) (neg : Bool) (a c : C) : ap k (.l (evs G (.cons (.eqo m neg a c) b) δ S)) = ap (.con1 G b δ :: k) (.d (ev G (.eqo m neg a c) δ S)) := rfl
theorem S_var (k : List Fr) (G : Gv) (δ : Env) (S : Store) (b : C) (i : Nat) : ap k (.l (evs G (.cons (.var i) b) δ S)) = ap (.con1 G b δ :: k) (.d (ev G (.var i) δ S)) := rfl
theorem S_con (k : List Fr) (G : Gv) (δ : Env) (S : Store) (b : C) (d : D) : ap k (.l (evs G (.cons (.con d) b) δ S)) = ap (.con1 G b δ :: k) (.d (ev G (.con d) δ S)) := rfl
theorem S_glob (k : List Fr) (G : Gv) (δ : Env) (S : Store) (b : C) (x : Nat) : ap k (.l (evs G (.cons (.glob x) b) δ S)) = ap (.con1 G b δ :: k) (.d (ev G (.glob x) δ S)) := rfl
theorem S_bin (k : List Fr) (G : Gv) (δ : Env) (S : Store) (b : C) (o : Op2) (a c : C) : ap k (.l (evs G (.cons (.bin o a c) b) δ S)) = ap (.con1 G b δ :: k) (.d (ev G (.bin o a c) δ S)) := rfl
theorem S_neg (k : List Fr) (G : Gv) (δ : Env) (S : Store) (b : C) (a : C) : ap k (.l (evs G (.cons (.neg a) b) δ S)) = ap (.con1 G b δ :: k) (.d (ev G (.neg a) δ S)) := rfl
theorem S_not (k : List Fr) (G : Gv) (δ : Env) (S : Store) (b : C) (a : C) : ap k (.l (evs G (.cons (.not a) b) δ S)) = ap (.con1 G b δ :: k) (.d (ev G (.not a) δ S)) := rfl
theorem S_and (k : List Fr) (G : Gv) (δ : Env) (S : Store) (b : C) (a c : C) : ap k (.l (evs G (.cons (.and a c) b) δ S)) = ap (.con1 G b δ :: k) (.d (ev G (.and a c) δ S)) := rfl
theorem S_or (k : List Fr) (G : Gv) (δ : Env) (S : Store) (b : C) (a c : C) : ap k (.l (evs G (.cons (.or a c) b) δ S)) = ap (.con1 G b δ :: k) (.d (ev G (.or a c) δ S)) := rfl
theorem S_ite (k : List Fr) (G : Gv) (δ : Env) (S : Store) (b : C) (x a c : C) : ap k (.l (evs G (.cons (.ite x a c) b) δ S)) = ap (.con1 G b δ :: k) (.d (ev G (.ite x a c) δ S)) := rfl
theorem S_cmp (k : List Fr) (G : Gv) (δ : Env) (S : Store) (b : C) (o : CO) (a c : C) : ap k (.l (evs G (.cons (.cmp o a c) b) δ S)) = ap (.con1 G b δ :: k) (.d (ev G (.cmp o a c) δ S)) := rfl
theorem S_chain (k : List Fr) (G : Gv) (δ : Env) (S : Store) (b : C) (o p : CO) (a c e : C) : ap k (.l (evs G (.cons (.chain o p a c e) b) δ S)) = ap (.con1 G b δ :: k) (.d (ev G (.chain o p a c e) δ S)) := rfl
theorem S_tup (k : List Fr) (G : Gv) (δ : Env) (S : Store) (b : C) (es : C) : ap k (.l (evs G (.cons (.tup es) b) δ S)) = ap (.con1 G b δ :: k) (.d (ev G (.tup es) δ S)) := rfl
theorem S_lst (k : List Fr) (G : Gv) (δ : Env) (S : Store) (b : C) (m : Bool) (es : C) : ap k (.l (evs G (.cons (.lst m es) b) δ S)) = ap (.con1 G b δ :: k) (.d (ev G (.lst m es) δ S)) := rfl
theorem S_dct (k : List Fr) (G : Gv) (δ : Env) (S : Store) (b : C) (m : Bool) (es fs : C) : ap k (.l (evs G (.cons (.dct m es fs) b) δ S)) = ap (.con1 G b δ :: k) (.d (ev G (.dct m es fs) δ S)) := rfl
theorem S_call (k : List Fr) (G : Gv) (δ : Env) (S : Store) (b : C) (f : Nat) (es : C) : ap k (.l (evs G (.cons (.call f es) b) δ S)) = ap (.con1 G b δ :: k) (.d (ev G (.call f es) δ S)) := rfl
theorem S_callk (k : List Fr) (G : Gv) (δ : Env) (S : Store) (b : C) (f : Nat) (es vs : C) : ap k (.l (evs G (.cons (.callk f es vs) b) δ S)) = ap (.con1 G b δ :: k) (.d (ev G (.callk f es vs) δ S)) := rfl
theorem S_bi (k : List Fr) (G : Gv) (δ : Env) (S : Store) (b : C) (q : Bi) (es : C) : ap k (.l (evs G (.cons (.bi q es) b) δ S)) = ap (.con1 G b δ :: k) (.d (ev G (.bi q es) δ S)) := rfl
theorem S_isi (k : List Fr) (G : Gv) (δ : Env) (S : Store) (b : C) (a : C) (t : Ty) : ap k (.l (evs G (.cons (.isi a t) b) δ S)) = ap (.con1 G b δ :: k) (.d (ev G (.isi a t) δ S)) := rfl
theorem S_idx (k : List Fr) (G : Gv) (δ : Env) (S : Store) (b : C) (a i : C) : ap k (.l (evs G (.cons (.idx a i) b) δ S)) = ap (.con1 G b δ :: k) (.d (ev G (.idx a i) δ S)) := rfl
theorem S_sl (k : List Fr) (G : Gv) (δ : Env) (S : Store) (b : C) (m : Bool) (a lo hi : C) : ap k (.l (evs G (.cons (.sl m a lo hi) b) δ S)) = ap (.con1 G b δ :: k) (.d (ev G (.sl m a lo hi) δ S)) := rfl
theorem S_rev (k : List Fr) (G : Gv) (δ : Env) (S : Store) (b : C) (m : Bool) (a : C) : ap k (.l (evs G (.cons (.rev m a) b) δ S)) = ap (.con1 G b δ :: k) (.d (ev G (.rev m a) δ S)) := rfl
theorem S_comp (k : List Fr) (G : Gv) (δ : Env) (S : Store) (b : C) (m : Bool) (tg : Tg) (src cnd elt : C) : ap k (.l (evs G (.cons (.comp m tg src cnd elt) b) δ S)) = ap (.con1 G b δ :: k) (.d (ev G (.comp m tg src cnd elt) δ S)) := rfl
theorem S_eget (k : List Fr) (G : Gv) (δ : Env) (S : Store) (b : C) (f : Nat) : ap k (.l (evs G (.cons (.eget f) b) δ S)) = ap (.con1 G b δ :: k) (.d (ev G (.eget f) δ S)) := rfl
theorem S_eis (k : List Fr) (G : Gv) (δ : Env) (S : Store) (b : C) (f : Nat) : ap k (.l (evs G (.cons (.eis f) b) δ S)) = ap (.con1 G b δ :: k) (.d (ev G (.eis f) δ S)) := rfl
theorem S_app (k : List Fr) (G : Gv) (δ : Env) (S : Store) (b : C) (a e : C) : ap k (.l (evs G (.cons (.app a e) b) δ S)) = ap (.con1 G b δ :: k) (.d (ev G (.app a e) δ S)) := rfl
theorem S_frz (k : List Fr) (G : Gv) (δ : Env) (S : Store) (b : C) (a : C) : ap k (.l (evs G (.cons (.frz a) b) δ S)) = ap (.con1 G b δ :: k) (.d (ev G (.frz a) δ S)) := rfl
theorem S_fld (k : List Fr) (G : Gv) (δ : Env) (S : Store) (b : C) (x : C) (f : Nat) : ap k (.l (evs G (.cons (.fld x f) b) δ S)) = ap (.con1 G b δ :: k) (.d (ev G (.fld x f) δ S)) := rfl
theorem S_mcall (k : List Fr) (G : Gv) (δ : Env) (S : Store) (b : C) (x : C) (m : Nat) (es : C) : ap k (.l (evs G (.cons (.mcall x m es) b) δ S)) = ap (.con1 G b δ :: k) (.d (ev G (.mcall x m es) δ S)) := rfl
theorem S_new (k : List Fr) (G : Gv) (δ : Env) (S : Store) (b : C) (m : Bool) (c : Nat) (es : C) : ap k (.l (evs G (.cons (.new m c es) b) δ S)) = ap (.con1 G b δ :: k) (.d (ev G (.new m c es) δ S)) := rfl
theorem S_newk (k : List Fr) (G : Gv) (δ : Env) (S : Store) (b : C) (m : Bool) (c s : Nat) (es vs : C) : ap k (.l (evs G (.cons (.newk m c s es vs) b) δ S)) = ap (.con1 G b δ :: k) (.d (ev G (.newk m c s es vs) δ S)) := rfl
theorem S_iso (k : List Fr) (G : Gv) (δ : Env) (S : Store) (b : C) (x : C) (c : Nat) : ap k (.l (evs G (.cons (.iso x c) b) δ S)) = ap (.con1 G b δ :: k) (.d (ev G (.iso x c) δ S)) := rfl
theorem S_isit (k : List Fr) (G : Gv) (δ : Env) (S : Store) (b : C) (x : C) (t u : Ty) : ap k (.l (evs G (.cons (.isit x t u) b) δ S)) = ap (.con1 G b δ :: k) (.d (ev G (.isit x t u) δ S)) := rfl
theorem S_lrng (k : List Fr) (G : Gv) (δ : Env) (S : Store) (b : C) (m : Bool) (x y : C) : ap k (.l (evs G (.cons (.lrng m x y) b) δ S)) = ap (.con1 G b δ :: k) (.d (ev G (.lrng m x y) δ S)) := rfl
theorem S_lset (k : List Fr) (G : Gv) (δ : Env) (S : Store) (b : C) (x : C) : ap k (.l (evs G (.cons (.lset x) b) δ S)) = ap (.con1 G b δ :: k) (.d (ev G (.lset x) δ S)) := rfl
theorem S_sset (k : List Fr) (G : Gv) (δ : Env) (S : Store) (b : C) (m : Bool) (x : C) : ap k (.l (evs G (.cons (.sset m x) b) δ S)) = ap (.con1 G b δ :: k) (.d (ev G (.sset m x) δ S)) := rfl
theorem S_comp2 (k : List Fr) (G : Gv) (δ : Env) (S : Store) (b : C) (m : Bool) (t : Tg) (x y : C) (t2 : Tg) (x2 y2 z : C) : ap k (.l (evs G (.cons (.comp2 m t x y t2 x2 y2 z) b) δ S)) = ap (.con1 G b δ :: k) (.d (ev G (.comp2 m t x y t2 x2 y2 z) δ S)) := rfl
theorem S_star (k : List Fr) (G : Gv) (δ : Env) (S : Store) (a b : C) : ap k (.l (evs G (.cons (.star a) b) δ S)) = ap (.star1 G b δ :: k) (.d (ev G a δ S)) := congrArg (ap k) (congrArg Rz.l (w_star G δ S a b))
theorem O_cons (k : List Fr) (G : Gv) (δ : Env) (S : Store) (a b : C) : ap k (.o (evO G (.cons a b) δ S)) = ap (.oc :: k) (.d (ev G a δ S)) := congrArg (ap k) (congrArg Rz.o (w_oc G δ S a b))
theorem T_not (k : List Fr) (G : Gv) (δ : Env) (S : Store) (a : C) : ap k (.b (evT G (.not a) δ S)) = ap (.tnot :: k) (.b (evT G a δ S)) := rfl
theorem T_and (k : List Fr) (G : Gv) (δ : Env) (S : Store) (a b : C) : ap k (.b (evT G (.and a b) δ S)) = ap (.tand G b δ :: k) (.b (evT G a δ S)) := rfl
theorem T_or (k : List Fr) (G : Gv) (δ : Env) (S : Store) (a b : C) : ap k (.b (evT G (.or a b) δ S)) = ap (.tor G b δ :: k) (.b (evT G a δ S)) := rfl
theorem T_tst (k : List Fr) (G : Gv) (δ : Env) (S : Store) (a : C) : ap k (.b (evT G (.tst a) δ S)) = ap (.tst :: k) (.d (ev G a δ S)) := rfl
theorem T_cmp (k : List Fr) (G : Gv) (δ : Env) (S : Store) (o : CO) (a b : C) : ap k (.b (evT G (.tcmp o a b) δ S)) = ap (.tcmp1 G o b δ :: k) (.d (ev G a δ S)) := rfl
theorem T_chain (k : List Fr) (G : Gv) (δ : Env) (S : Store) (o p : CO) (a b c : C) : ap k (.b (evT G (.tchain o p a b c) δ S)) = ap (.tch1 G o p b c δ :: k) (.d (ev G a δ S)) := congrArg (ap k) (congrArg Rz.b (w_tchain G δ S o p a b c))
theorem T_ch3 (k : List Fr) (G : Gv) (δ : Env) (S : Store) (o p q : CO) (a b c d : C) : ap k (.b (evT G (.tch3 o p q a b c d) δ S)) = ap (.t31 G o p q b c d δ :: k) (.d (ev G a δ S)) := congrArg (ap k) (congrArg Rz.b (w_tch3 G δ S o p q a b c d))
theorem I_rng (k : List Fr) (G : Gv) (δ : Env) (S : Store) (a b : C) : ap k (.i (evI G (.rng a b) δ S)) = ap (.rng1 G b δ :: k) (.d (ev G a δ S)) := congrArg (ap k) (congrArg Rz.i (w_rng G δ S a b))
theorem I_enum (k : List Fr) (G : Gv) (δ : Env) (S : Store) (a : C) : ap k (.i (evI G (.enum a) δ S)) = ap (.enum :: k) (.d (ev G a δ S)) := congrArg (ap k) (congrArg Rz.i (w_enum G δ S a))
theorem I_zip (k : List Fr) (G : Gv) (δ : Env) (S : Store) (a b : C) : ap k (.i (evI G (.zip a b) δ S)) = ap (.zip1 G b δ :: k) (.d (ev G a δ S)) := congrArg (ap k) (congrArg Rz.i (w_zip G δ S a b))
theorem I_tst (k : List Fr) (G : Gv) (δ : Env) (S : Store) (a : C) : ap k (.i (evI G (.tst a) δ S)) = ap (.itst :: k) (.d (ev G a δ S)) := rfl
theorem X_set (k : List Fr) (G : Gv) (δ : Env) (S : Store) (tg : Tg) (e : C) : ap k (.s (ex G (.set tg e) δ S)) = ap (.set tg δ :: k) (.d (ev G e δ S)) := congrArg (ap k) (congrArg Rz.s (w_set G δ S tg e))
theorem X_stI (k : List Fr) (G : Gv) (δ : Env) (S : Store) (a i e : C) : ap k (.s (ex G (.stI a i e) δ S)) = ap (.stI1 G a i δ :: k) (.d (ev G e δ S)) := rfl
theorem X_stA (k : List Fr) (G : Gv) (δ : Env) (S : Store) (a : C) (f : Nat) (e : C) : ap k (.s (ex G (.stA a f e) δ S)) = ap (.stA1 G a f δ :: k) (.d (ev G e δ S)) := rfl
theorem X_match (k : List Fr) (G : Gv) (δ : Env) (S : Store) (e cs : C) : ap k (.s (ex G (.match_ e cs) δ S)) = ap (.mat G cs δ :: k) (.d (ev G e δ S)) := rfl
theorem X_expr (k : List Fr) (G : Gv) (δ : Env) (S : Store) (e : C) : ap k (.s (ex G (.expr e) δ S)) = ap (.expr δ :: k) (.d (ev G e δ S)) := rfl
theorem X_ret (k : List Fr) (G : Gv) (δ : Env) (S : Store) (e : C) : ap k (.s (ex G (.ret e) δ S)) = ap (.ret δ :: k) (.d (ev G e δ S)) := rfl
theorem X_ifs (k : List Fr) (G : Gv) (δ : Env) (S : Store) (c a b : C) : ap k (.s (ex G (.ifs c a b) δ S)) = ap (.ifs G a b δ :: k) (.b (evT G c δ S)) := congrArg (ap k) (congrArg Rz.s (w_ifs G δ S c a b))
theorem X_for (k : List Fr) (G : Gv) (δ : Env) (S : Store) (tg : Tg) (src b : C) : ap k (.s (ex G (.for_ tg src b) δ S)) = ap (.for_ G tg b δ :: k) (.i (evI G src δ S)) := congrArg (ap k) (congrArg Rz.s (w_for G δ S tg src b))
theorem X_raise (k : List Fr) (G : Gv) (δ : Env) (S : Store) (x : Nat) (e : C) : ap k (.s (ex G (.raise_ x e) δ S)) = ap (.raise G x δ :: k) (.d (ev G e δ S)) := rfl
theorem X_try (k : List Fr) (G : Gv) (δ : Env) (S : Store) (b h : C) : ap k (.s (ex G (.try_ b h) δ S)) = ap (.try_ G h :: k) (.s (ex G b δ S)) := congrArg (ap k) (congrArg Rz.s (w_try G δ S b h))
theorem Q_set (k : List Fr) (G : Gv) (δ : Env) (S : Store) (r : C) (t : Tg) (e : C) : ap k (.s (ex G (.cons (.set t e) r) δ S)) = ap (.seq G r :: k) (.s (ex G (.set t e) δ S)) := congrArg (ap k) (congrArg Rz.s (q_set G δ S t e r))
theorem Q_stI (k : List Fr) (G : Gv) (δ : Env) (S : Store) (r : C) (a i e : C) : ap k (.s (ex G (.cons (.stI a i e) r) δ S)) = ap (.seq G r :: k) (.s (ex G (.stI a i e) δ S)) := congrArg (ap k) (congrArg Rz.s (q_stI G δ S a i e r))
theorem Q_expr (k : List Fr) (G : Gv) (δ : Env) (S : Store) (r : C) (e : C) : ap k (.s (ex G (.cons (.expr e) r) δ S)) = ap (.seq G r :: k) (.s (ex G (.expr e) δ S)) := congrArg (ap k) (congrArg Rz.s (q_expr G δ S e r))
theorem Q_ifs (k : List Fr) (G : Gv) (δ : Env) (S : Store) (r : C) (c a b : C) : ap k (.s (ex G (.cons (.ifs c a b) r) δ S)) = ap (.seq G r :: k) (.s (ex G (.ifs c a b) δ S)) := congrArg (ap k) (congrArg Rz.s (q_ifs G δ S c a b r))
theorem Q_for (k : List Fr) (G : Gv) (δ : Env) (S : Store) (r : C) (t : Tg) (s b : C) : ap k (.s (ex G (.cons (.for_ t s b) r) δ S)) = ap (.seq G r :: k) (.s (ex G (.for_ t s b) δ S)) := congrArg (ap k) (congrArg Rz.s (q_for G δ S t s b r))
theorem Q_while (k : List Fr) (G : Gv) (δ : Env) (S : Store) (r : C) (c b : C) : ap k (.s (ex G (.cons (.while_ c b) r) δ S)) = ap (.seq G r :: k) (.s (ex G (.while_ c b) δ S)) := congrArg (ap k) (congrArg Rz.s (q_while G δ S c b r))
theorem Q_try (k : List Fr) (G : Gv) (δ : Env) (S : Store) (r : C) (b h : C) : ap k (.s (ex G (.cons (.try_ b h) r) δ S)) = ap (.seq G r :: k) (.s (ex G (.try_ b h) δ S)) := congrArg (ap k) (congrArg Rz.s (q_try G δ S b h r))
theorem Q_stA (k : List Fr) (G : Gv) (δ : Env) (S : Store) (r : C) (a : C) (f : Nat) (e : C) : ap k (.s (ex G (.cons (.stA a f e) r) δ S)) = ap (.seq G r :: k) (.s (ex G (.stA a f e) δ S)) := congrArg (ap k) (congrArg Rz.s (q_stA G δ S a f e r))
theorem Q_match (k : List Fr) (G : Gv) (δ : Env) (S : Store) (r : C) (e cs : C) : ap k (.s (ex G (.cons (.match_ e cs) r) δ S)) = ap (.seq G r :: k) (.s (ex G (.match_ e cs) δ S)) := congrArg (ap k) (congrArg Rz.s (q_match G δ S e cs r))
theorem Q_ret (k : List Fr) (G : Gv) (δ : Env) (S : Store) (r e : C) : ap k (.s (ex G (.cons (.ret e) r) δ S)) = ap k (.s (ex G (.ret e) δ S)) := congrArg (ap k) (congrArg Rz.s (q_ret G δ S e r))
theorem Q_raise (k : List Fr) (G : Gv) (δ : Env) (S : Store) (r : C) (x : Nat) (e : C) : ap k (.s (ex G (.cons (.raise_ x e) r) δ S)) = ap k (.s (ex G (.raise_ x e) δ S)) := congrArg (ap k) (congrArg Rz.s (q_raise G δ S x e r))
theorem K_bin1 (k : List Fr) (S : Store) (G : Gv) (δ : Env) (o : Op2) (b : C) (x : D) : ap (.bin1 G o b δ :: k) (.d (.ok x S)) = ap (.bin2 o x :: k) (.d (ev G b δ S)) := rfl
theorem K_bin2 (k : List Fr) (S : Store) (o : Op2) (x y : D) : ap (.bin2 o x :: k) (.d (.ok y S)) = ap k (.d (bin2 o x y S)) := rfl
theorem K_neg (k : List Fr) (S : Store) (x : D) : ap (.neg :: k) (.d (.ok x S)) = ap k (.d (negD x S)) := rfl
theorem K_not (k : List Fr) (S : Store) (x : D) : ap (.not :: k) (.d (.ok x S)) = ap k (.d (optR (truD S x) fun b => .ok (.bl (!b)) S)) := rfl
theorem K_cmp1 (k : List Fr) (S : Store) (G : Gv) (δ : Env) (o : CO) (b : C) (x : D) : ap (.cmp1 G o b δ :: k) (.d (.ok x S)) = ap (.cmp2 o x :: k) (.d (ev G b δ S)) := rfl
theorem K_cmp2 (k : List Fr) (S : Store) (o : CO) (x y : D) : ap (.cmp2 o x :: k) (.d (.ok y S)) = ap k (.d (optD (cmpD o x y S) S)) := rfl
theorem K_ch1 (k : List Fr) (S : Store) (G : Gv) (δ : Env) (o p : CO) (b c : C) (x : D) : ap (.ch1 G o p b c δ :: k) (.d (.ok x S)) = ap (.ch2 G o p x c δ :: k) (.d (ev G b δ S)) := rfl
theorem K_idx1 (k : List Fr) (S : Store) (G : Gv) (δ : Env) (i : C) (x : D) : ap (.idx1 G i δ :: k) (.d (.ok x S)) = ap (.ix2 x :: k) (.d (ev G i δ S)) := rfl
theorem K_ix2 (k : List Fr) (S : Store) (x y : D) : ap (.ix2 x :: k) (.d (.ok y S)) = ap k (.d (idx2 x y S)) := rfl
theorem K_sl1 (k : List Fr) (S : Store) (G : Gv) (δ : Env) (m : Bool) (lo hi : C) (x : D) : ap (.sl1 m G lo hi δ :: k) (.d (.ok x S)) = ap (.sl2 m G x hi δ :: k) (.o (evO G lo δ S)) := rfl
theorem K_sl2 (k : List Fr) (S : Store) (G : Gv) (δ : Env) (m : Bool) (hi : C) (x : D) (l : Option Int) : ap (.sl2 m G x hi δ :: k) (.o (.ok l S)) = ap (.sl3 m x l :: k) (.o (evO G hi δ S)) := rfl
theorem K_sl3 (k : List Fr) (S : Store) (m : Bool) (x : D) (l h : Option Int) : ap (.sl3 m x l :: k) (.o (.ok h S)) = ap k (.d (sl2 m x l h S)) := rfl
theorem K_rev (k : List Fr) (S : Store) (m : Bool) (x : D) : ap (.rev m :: k) (.d (.ok x S)) = ap k (.d (revD m x S)) := rfl
theorem K_isi (k : List Fr) (S : Store) (t : Ty) (x : D) : ap (.isi t :: k) (.d (.ok x S)) = ap k (.d (optD (isiD S x t) S)) := rfl
theorem K_app2 (k : List Fr) (S : Store) (x y : D) : ap (.app2 x :: k) (.d (.ok y S)) = ap k (.d (appD x y S)) := rfl
theorem K_frz (k : List Fr) (S : Store) (x : D) : ap (.frz :: k) (.d (.ok x S)) = ap k (.d (frzD x S)) := rfl
theorem K_con1 (k : List Fr) (S : Store) (G : Gv) (δ : Env) (b : C) (x : D) : ap (.con1 G b δ :: k) (.d (.ok x S)) = ap (.con2 x :: k) (.l (evs G b δ S)) := rfl
theorem K_con2 (k : List Fr) (S : Store) (x : D) (xs : List D) : ap (.con2 x :: k) (.l (.ok xs S)) = ap k (.l (.ok (x :: xs) S)) := rfl
theorem K_star2 (k : List Fr) (S : Store) (x xs : List D) : ap (.star2 x :: k) (.l (.ok xs S)) = ap k (.l (.ok (x ++ xs) S)) := rfl
theorem K_tup (k : List Fr) (S : Store) (ds : List D) : ap (.tup :: k) (.l (.ok ds S)) = ap k (.d (if fits ds.length = true then .ok (.tup ds) S else .stuck)) := rfl
theorem K_lst (k : List Fr) (S : Store) (m : Bool) (ds : List D) : ap (.lst m :: k) (.l (.ok ds S)) = ap k (.d (newL m ds S)) := rfl
theorem K_call (k : List Fr) (S : Store) (G : Gv) (f : Nat) (ds : List D) : ap (.call G f :: k) (.l (.ok ds S)) = ap k (.d (G.cal f ds S)) := rfl
theorem K_ck1 (k : List Fr) (S : Store) (G : Gv) (δ : Env) (s : Nat) (vs : C) (ds : List D) : ap (.ck1 G s vs δ :: k) (.l (.ok ds S)) = ap (.ck2 G s ds :: k) (.l (evs G vs δ S)) := rfl
theorem K_ck2 (k : List Fr) (S : Store) (G : Gv) (s : Nat) (ds zs : List D) : ap (.ck2 G s ds :: k) (.l (.ok zs S)) = ap k (.d (G.cak s ds zs S)) := rfl
theorem K_bi (k : List Fr) (S : Store) (b : Bi) (ds : List D) : ap (.bi b :: k) (.l (.ok ds S)) = ap k (.d (biD b ds S)) := rfl
theorem K_comp1 (k : List Fr) (S : Store) (G : Gv) (δ : Env) (m : Bool) (tg : Tg) (cnd elt : C) (its : PV.It) : ap (.comp1 m G tg cnd elt δ :: k) (.i (.ok its S)) = ap (.lst m :: k) (.l (compI tg (evT G cnd) (ev G elt) δ its S)) := rfl
theorem K_rng1 (k : List Fr) (S : Store) (G : Gv) (δ : Env) (b : C) (x : D) : ap (.rng1 G b δ :: k) (.d (.ok x S)) = ap (.rng2 x :: k) (.d (ev G b δ S)) := rfl
theorem K_rng2 (k : List Fr) (S : Store) (x y : D) : ap (.rng2 x :: k) (.d (.ok y S)) = ap k (.i (rngD x y S)) := rfl
theorem K_enum (k : List Fr) (S : Store) (x : D) : ap (.enum :: k) (.d (.ok x S)) = ap k (.i (enuD x S)) := rfl
theorem K_zip1 (k : List Fr) (S : Store) (G : Gv) (δ : Env) (b : C) (x : D) : ap (.zip1 G b δ :: k) (.d (.ok x S)) = ap (.zip2 x :: k) (.d (ev G b δ S)) := rfl
theorem K_zip2 (k : List Fr) (S : Store) (x y : D) : ap (.zip2 x :: k) (.d (.ok y S)) = ap k (.i (optR (zipD x y) fun ds => .ok (.fix ds) S)) := rfl
theorem K_itst (k : List Fr) (S : Store) (x : D) : ap (.itst :: k) (.d (.ok x S)) = ap k (.i (itD S x)) := rfl
theorem K_tst (k : List Fr) (S : Store) (x : D) : ap (.tst :: k) (.d (.ok x S)) = ap k (.b (optB (truD S x) S)) := rfl
theorem K_tcmp1 (k : List Fr) (S : Store) (G : Gv) (δ : Env) (o : CO) (b : C) (x : D) : ap (.tcmp1 G o b δ :: k) (.d (.ok x S)) = ap (.tcmp2 o x :: k) (.d (ev G b δ S)) := rfl
theorem K_tcmp2 (k : List Fr) (S : Store) (o : CO) (x y : D) : ap (.tcmp2 o x :: k) (.d (.ok y S)) = ap k (.b (optB (cmpD o x y S) S)) := rfl
theorem K_tch1 (k : List Fr) (S : Store) (G : Gv) (δ : Env) (o p : CO) (b c : C) (x : D) : ap (.tch1 G o p b c δ :: k) (.d (.ok x S)) = ap (.tch2 G o p x c δ :: k) (.d (ev G b δ S)) := rfl
theorem K_tnot (k : List Fr) (S : Store) (b : Bool) : ap (.tnot :: k) (.b (.ok b S)) = ap k (.b (.ok (!b) S)) := rfl
theorem K_oc (k : List Fr) (S : Store) (i : Int) : ap (.oc :: k) (.d (.ok (.int i) S)) = ap k (.o (.ok (some i) S)) := rfl
theorem K_set (k : List Fr) (S : Store) (tg : Tg) (δ : Env) (d : D) : ap (.set tg δ :: k) (.d (.ok d S)) = ap k (.s (bndR (bindT tg d δ) fun δ1 => .nx δ1 S)) := rfl
theorem K_stI1 (k : List Fr) (S : Store) (G : Gv) (δ : Env) (a i : C) (z : D) : ap (.stI1 G a i δ :: k) (.d (.ok z S)) = ap (.stI2 G i δ z :: k) (.d (ev G a δ S)) := rfl
theorem K_stI2 (k : List Fr) (S : Store) (G : Gv) (δ : Env) (i : C) (z x : D) : ap (.stI2 G i δ z :: k) (.d (.ok x S)) = ap (.stI3 δ z x :: k) (.d (ev G i δ S)) := rfl
theorem K_stI3 (k : List Fr) (S : Store) (δ : Env) (z x y : D) : ap (.stI3 δ z x :: k) (.d (.ok y S)) = ap (.expr δ :: k) (.d (setI x y z S)) := rfl
theorem K_expr (k : List Fr) (S : Store) (δ : Env) (d : D) : ap (.expr δ :: k) (.d (.ok d S)) = ap k (.s (.nx δ S)) := rfl
theorem K_ret (k : List Fr) (S : Store) (δ : Env) (d : D) : ap (.ret δ :: k) (.d (.ok d S)) = ap k (.s (.rt d S)) := rfl
theorem K_for (k : List Fr) (S : Store) (G : Gv) (δ : Env) (tg : Tg) (b : C) (its : PV.It) : ap (.for_ G tg b δ :: k) (.i (.ok its S)) = ap k (.s (forI tg (ex G b) its δ S)) := rfl
theorem K_comp21 (k : List Fr) (S : Store) (G : Gv) (δ : Env) (m : Bool) (tg : Tg) (cnd : C) (tg2 : Tg) (src2 cnd2 elt : C) (its : PV.It) : ap (.comp21 m G tg cnd tg2 src2 cnd2 elt δ :: k) (.i (.ok its S)) = ap (.lst m :: k) (.l (compWI (slots tg ++ slots tg2) tg (evT G cnd) (fun δ1 S2 => comp1I tg2 (evT G cnd2) (ev G elt) δ1 (evI G src2 δ1 S2)) δ its S)) := rfl
theorem K_fld (k : List Fr) (S : Store) (G : Gv) (f : Nat) (x : D) : ap (.fld G f :: k) (.d (.ok x S)) = ap k (.d (fldD G x f S)) := rfl
theorem K_mc1 (k : List Fr) (S : Store) (G : Gv) (δ : Env) (m : Nat) (es : C) (x : D) : ap (.mc1 G m es δ :: k) (.d (.ok x S)) = ap k (.d (optR (mtD G x m S) fun n => (evs G es δ S).bind fun ds S2 => G.cal n (x :: ds) S2)) := rfl
theorem K_mc2 (k : List Fr) (S : Store) (G : Gv) (n : Nat) (x : D) (ds : List D) : ap (.mc2 G n x :: k) (.l (.ok ds S)) = ap k (.d (G.cal n (x :: ds) S)) := rfl
theorem K_new (k : List Fr) (S : Store) (G : Gv) (m : Bool) (c i : Nat) (ds : List D) : ap (.new G m c i :: k) (.l (.ok ds S)) = ap (.newO m S.length :: k) (.d (G.cal i (.ref S.length :: ds) (S ++ [.ins c [] []]))) := rfl
theorem K_nk1 (k : List Fr) (S : Store) (G : Gv) (δ : Env) (m : Bool) (c s : Nat) (vs : C) (ds : List D) : ap (.nk1 G m c s vs δ :: k) (.l (.ok ds S)) = ap (.nk2 G m c s ds :: k) (.l (evs G vs δ S)) := rfl
theorem K_nk2 (k : List Fr) (S : Store) (G : Gv) (m : Bool) (c s : Nat) (ds zs : List D) : ap (.nk2 G m c s ds :: k) (.l (.ok zs S)) = ap (.newO m S.length :: k) (.d (G.cak s (.ref S.length :: ds) zs (S ++ [.ins c [] []]))) := rfl
theorem K_newF (k : List Fr) (S : Store) (n : Nat) : ap (.newO false n :: k) (.d (.ok .non S)) = ap k (.d (frzD (.ref n) S)) := rfl
theorem K_newT (k : List Fr) (S : Store) (n : Nat) : ap (.newO true n :: k) (.d (.ok .non S)) = ap k (.d (.ok (.ref n) S)) := rfl
theorem K_newX (k : List Fr) (S : Store) (m : Bool) (n : Nat) (c : Nat) (v : D) : ap (.newO m n :: k) (.d (.ex c v S)) = ap k (.d (.ex c v S)) := rfl
theorem K_iso (k : List Fr) (S : Store) (G : Gv) (c : Nat) (x : D) : ap (.iso G c :: k) (.d (.ok x S)) = ap k (.d (optD (isoD G S x c) S)) := rfl
theorem K_isit (k : List Fr) (S : Store) (t u : Ty) (x : D) : ap (.isit t u :: k) (.d (.ok x S)) = ap k (.d (optD (isitD S x t u) S)) := rfl
theorem K_lrng1 (k : List Fr) (S : Store) (G : Gv) (δ : Env) (m : Bool) (b : C) (x : D) : ap (.lrng1 m G b δ :: k) (.d (.ok x S)) = ap (.lrng2 m x :: k) (.d (ev G b δ S)) := rfl
theorem K_lrng2 (k : List Fr) (S : Store) (m : Bool) (x y : D) : ap (.lrng2 m x :: k) (.d (.ok y S)) = ap k (.d (lrnD m x y S)) := rfl
theorem K_mkx (k : List Fr) (S : Store) (G : Gv) (a : Nat) (x : D) : ap (.mkx G a :: k) (.d (.ok x S)) = ap k (.d (.ok (.err a (xval G a x)) S)) := rfl
theorem K_isx (k : List Fr) (S : Store) (G : Gv) (j : Nat) (x : D) : ap (.isx G j :: k) (.d (.ok x S)) = ap k (.d (optD (isxD G S x j) S)) := rfl
theorem K_isxt (k : List Fr) (S : Store) (G : Gv) (js : List Nat) (x : D) : ap (.isxt G js :: k) (.d (.ok x S)) = ap k (.d (optD (isxtD G S x js) S)) := rfl
theorem K_popl (k : List Fr) (S : Store) (x : D) : ap (.popl :: k) (.d (.ok x S)) = ap k (.d (popD x S)) := rfl
theorem K_dc1 (k : List Fr) (S : Store) (m : Bool) (n : Nat) (G : Gv) (v : C) (δ : Env) (x : D) : ap (.dc1 m n G v δ :: k) (.d (.ok x S)) = ap (.dc2 m n x :: k) (.d (ev G v δ S)) := rfl
theorem K_dc2 (k : List Fr) (S : Store) (m : Bool) (n : Nat) (x y : D) : ap (.dc2 m n x :: k) (.d (.ok y S)) = ap k (.d (dctD m n x y S)) := rfl
theorem K_eqo1 (k : List Fr) (S : Store) (m : Nat) (neg : Bool) (G : Gv) (b : C) (δ : Env) (x : D) : ap (.eqo1 m neg G b δ :: k) (.d (.ok x S)) = ap (.eqo2 m neg G x :: k) (.d (ev G b δ S)) := rfl
theorem K_eqo2 (k : List Fr) (S : Store) (m : Nat) (neg : Bool) (G : Gv) (x y : D) : ap (.eqo2 m neg G x :: k) (.d (.ok y S)) = ap k (.d (eqoD G m neg x y S)) := rfl
theorem K_lset (k : List Fr) (S : Store) (x : D) : ap (.lset :: k) (.d (.ok x S)) = ap k (.d (lenSet x S)) := rfl
theorem K_sset (k : List Fr) (S : Store) (m : Bool) (x : D) : ap (.sset m :: k) (.d (.ok x S)) = ap k (.d (sortSet m x S)) := rfl
theorem K_t31 (k : List Fr) (S : Store) (G : Gv) (δ : Env) (o p q : CO) (b c d : C) (x : D) : ap (.t31 G o p q b c d δ :: k) (.d (.ok x S)) = ap (.t32 G o p q x c d δ :: k) (.d (ev G b δ S)) := rfl
theorem K_t32 (k : List Fr) (S : Store) (G : Gv) (δ : Env) (o p q : CO) (c d : C) (x y : D) : ap (.t32 G o p q x c d δ :: k) (.d (.ok y S)) = ap k (.b (optR (cmpD o x y S) fun t => if t = true then (ev G c δ S).bind fun z S3 => optR (cmpD p y z S3) fun t => if t = true then (ev G d δ S3).bind fun u S4 => optB (cmpD q z u S4) S4 else .ok false S3 else .ok false S)) := rfl
theorem K_t33 (k : List Fr) (S : Store) (G : Gv) (δ : Env) (p q : CO) (d : C) (y z : D) : ap (.t33 G p q y d δ :: k) (.d (.ok z S)) = ap k (.b (optR (cmpD p y z S) fun t => if t = true then (ev G d δ S).bind fun u S4 => optB (cmpD q z u S4) S4 else .ok false S)) := rfl
theorem K_stA1 (k : List Fr) (S : Store) (G : Gv) (δ : Env) (a : C) (f : Nat) (z : D) : ap (.stA1 G a f δ :: k) (.d (.ok z S)) = ap (.stA2 G f δ z :: k) (.d (ev G a δ S)) := rfl
theorem K_stA2 (k : List Fr) (S : Store) (G : Gv) (δ : Env) (f : Nat) (z x : D) : ap (.stA2 G f δ z :: k) (.d (.ok x S)) = ap (.expr δ :: k) (.d (stAD G x f z S)) := rfl
theorem K_mat (k : List Fr) (S : Store) (G : Gv) (δ : Env) (cs : C) (d : D) : ap (.mat G cs δ :: k) (.d (.ok d S)) = ap k (.s (exM G cs d δ S)) := rfl
theorem K_seq (k : List Fr) (S : Store) (G : Gv) (b : C) (δ : Env) : ap (.seq G b :: k) (.s (.nx δ S)) = ap k (.s (ex G b δ S)) := rfl
theorem K_seqRt (k : List Fr) (S : Store) (G : Gv) (b : C) (d : D) : ap (.seq G b :: k) (.s (.rt d S)) = ap k (.s (.rt d S)) := rfl
theorem K_seqX (k : List Fr) (S : Store) (G : Gv) (b : C) (c : Nat) (v : D) (δ : Env) : ap (.seq G b :: k) (.s (.ex c v δ S)) = ap k (.s (.ex c v δ S)) := rfl
theorem K_seqB (k : List Fr) (S : Store) (G : Gv) (b : C) (δ : Env) : ap (.seq G b :: k) (.s (.bk δ S)) = ap k (.s (.bk δ S)) := rfl
theorem K_seqC (k : List Fr) (S : Store) (G : Gv) (b : C) (δ : Env) : ap (.seq G b :: k) (.s (.ct δ S)) = ap k (.s (.ct δ S)) := rfl
theorem K_raise (k : List Fr) (S : Store) (G : Gv) (x : Nat) (δ : Env) (d : D) : ap (.raise G x δ :: k) (.d (.ok d S)) = ap k (.s (.ex x (xval G x d) δ S)) := rfl
theorem K_try (k : List Fr) (S : Store) (G : Gv) (h : C) (d : D) : ap (.try_ G h :: k) (.s (.rt d S)) = ap k (.s (.rt d S)) := rfl
theorem K_tryN (k : List Fr) (S : Store) (G : Gv) (h : C) (δ : Env) : ap (.try_ G h :: k) (.s (.nx δ S)) = ap k (.s (.nx δ S)) := rfl
theorem K_tryX (k : List Fr) (S : Store) (G : Gv) (h : C) (c : Nat) (v : D) (δ : Env) : ap (.try_ G h :: k) (.s (.ex c v δ S)) = ap k (.s (exH G h c v δ S)) := rfl
theorem K_hret (k : List Fr) (S : Store) (d : D) : ap (.hret :: k) (.d (.ok d S)) = ap k (.s (.rt d S)) := rfl
theorem K_loop (k : List Fr) (S : Store) (tg : Tg) (G : Gv) (b : C) (ds : List D) (δ : Env) : ap (.loop tg G b ds :: k) (.s (.nx δ S)) = ap k (.s (forL tg (ex G b) ds δ S)) := rfl
theorem K_loopC (k : List Fr) (S : Store) (tg : Tg) (G : Gv) (b : C) (ds : List D) (δ : Env) : ap (.loop tg G b ds :: k) (.s (.ct δ S)) = ap k (.s (forL tg (ex G b) ds δ S)) := rfl
theorem K_loopB (k : List Fr) (S : Store) (tg : Tg) (G : Gv) (b : C) (ds : List D) (δ : Env) : ap (.loop tg G b ds :: k) (.s (.bk δ S)) = ap k (.s (.nx δ S)) := rfl
theorem K_loopR (k : List Fr) (S : Store) (tg : Tg) (G : Gv) (b : C) (ds : List D) (d : D) : ap (.loop tg G b ds :: k) (.s (.rt d S)) = ap k (.s (.rt d S)) := rfl
theorem K_loopX (k : List Fr) (S : Store) (tg : Tg) (G : Gv) (b : C) (ds : List D) (c : Nat) (v : D) (δ : Env) : ap (.loop tg G b ds :: k) (.s (.ex c v δ S)) = ap k (.s (.ex c v δ S)) := rfl
theorem K_outN (k : List Fr) (S : Store) (δ : Env) : ap (.out :: k) (.s (.nx δ S)) = ap k (.d (.ok .non S)) := rfl
theorem K_outR (k : List Fr) (S : Store) (d : D) : ap (.out :: k) (.s (.rt d S)) = ap k (.d (.ok d S)) := rfl
theorem K_outX (k : List Fr) (S : Store) (c : Nat) (v : D) (δ : Env) : ap (.out :: k) (.s (.ex c v δ S)) = ap k (.d (.ex c v S)) := rfl
theorem X_bin1X (k : List Fr) (S : Store) (G : Gv) (o : Op2) (b : C) (δ : Env) (e9 : Nat) (v9 : D) : ap (.bin1 G o b δ :: k) (.d (.ex e9 v9 S)) = ap k (.d (.ex e9 v9 S)) := rfl
theorem X_bin2X (k : List Fr) (S : Store) (o : Op2) (x : D) (e9 : Nat) (v9 : D) : ap (.bin2 o x :: k) (.d (.ex e9 v9 S)) = ap k (.d (.ex e9 v9 S)) := rfl
theorem X_negX (k : List Fr) (S : Store)  (e9 : Nat) (v9 : D) : ap (.neg :: k) (.d (.ex e9 v9 S)) = ap k (.d (.ex e9 v9 S)) := rfl
theorem X_notX (k : List Fr) (S : Store)  (e9 : Nat) (v9 : D) : ap (.not :: k) (.d (.ex e9 v9 S)) = ap k (.d (.ex e9 v9 S)) := rfl
theorem X_and1X (k : List Fr) (S : Store) (G : Gv) (b : C) (δ : Env) (e9 : Nat) (v9 : D) : ap (.and1 G b δ :: k) (.d (.ex e9 v9 S)) = ap k (.d (.ex e9 v9 S)) := rfl
theorem X_or1X (k : List Fr) (S : Store) (G : Gv) (b : C) (δ : Env) (e9 : Nat) (v9 : D) : ap (.or1 G b δ :: k) (.d (.ex e9 v9 S)) = ap k (.d (.ex e9 v9 S)) := rfl
theorem X_cmp1X (k : List Fr) (S : Store) (G : Gv) (o : CO) (b : C) (δ : Env) (e9 : Nat) (v9 : D) : ap (.cmp1 G o b δ :: k) (.d (.ex e9 v9 S)) = ap k (.d (.ex e9 v9 S)) := rfl
theorem X_cmp2X (k : List Fr) (S : Store) (o : CO) (x : D) (e9 : Nat) (v9 : D) : ap (.cmp2 o x :: k) (.d (.ex e9 v9 S)) = ap k (.d (.ex e9 v9 S)) := rfl
theorem X_ch1X (k : List Fr) (S : Store) (G : Gv) (o p : CO) (b c : C) (δ : Env) (e9 : Nat) (v9 : D) : ap (.ch1 G o p b c δ :: k) (.d (.ex e9 v9 S)) = ap k (.d (.ex e9 v9 S)) := rfl
theorem X_ch2X (k : List Fr) (S : Store) (G : Gv) (o p : CO) (x : D) (c : C) (δ : Env) (e9 : Nat) (v9 : D) : ap (.ch2 G o p x c δ :: k) (.d (.ex e9 v9 S)) = ap k (.d (.ex e9 v9 S)) := rfl
theorem X_idx1X (k : List Fr) (S : Store) (G : Gv) (i : C) (δ : Env) (e9 : Nat) (v9 : D) : ap (.idx1 G i δ :: k) (.d (.ex e9 v9 S)) = ap k (.d (.ex e9 v9 S)) := rfl
theorem X_ix2X (k : List Fr) (S : Store) (x : D) (e9 : Nat) (v9 : D) : ap (.ix2 x :: k) (.d (.ex e9 v9 S)) = ap k (.d (.ex e9 v9 S)) := rfl
theorem X_sl1X (k : List Fr) (S : Store) (m : Bool) (G : Gv) (lo hi : C) (δ : Env) (e9 : Nat) (v9 : D) : ap (.sl1 m G lo hi δ :: k) (.d (.ex e9 v9 S)) = ap k (.d (.ex e9 v9 S)) := rfl
theorem X_sl2X (k : List Fr) (S : Store) (m : Bool) (G : Gv) (x : D) (hi : C) (δ : Env) (e9 : Nat) (v9 : D) : ap (.sl2 m G x hi δ :: k) (.o (.ex e9 v9 S)) = ap k (.d (.ex e9 v9 S)) := rfl
theorem X_sl3X (k : List Fr) (S : Store) (m : Bool) (x : D) (l : Option Int) (e9 : Nat) (v9 : D) : ap (.sl3 m x l :: k) (.o (.ex e9 v9 S)) = ap k (.d (.ex e9 v9 S)) := rfl
theorem X_revX (k : List Fr) (S : Store) (m : Bool) (e9 : Nat) (v9 : D) : ap (.rev m :: k) (.d (.ex e9 v9 S)) = ap k (.d (.ex e9 v9 S)) := rfl
theorem X_isiX (k : List Fr) (S : Store) (t : Ty) (e9 : Nat) (v9 : D) : ap (.isi t :: k) (.d (.ex e9 v9 S)) = ap k (.d (.ex e9 v9 S)) := rfl
theorem X_app1X (k : List Fr) (S : Store) (G : Gv) (e : C) (δ : Env) (e9 : Nat) (v9 : D) : ap (.app1 G e δ :: k) (.d (.ex e9 v9 S)) = ap k (.d (.ex e9 v9 S)) := rfl
theorem X_app2X (k : List Fr) (S : Store) (x : D) (e9 : Nat) (v9 : D) : ap (.app2 x :: k) (.d (.ex e9 v9 S)) = ap k (.d (.ex e9 v9 S)) := rfl
theorem X_frzX (k : List Fr) (S : Store)  (e9 : Nat) (v9 : D) : ap (.frz :: k) (.d (.ex e9 v9 S)) = ap k (.d (.ex e9 v9 S)) := rfl
theorem X_con1X (k : List Fr) (S : Store) (G : Gv) (b : C) (δ : Env) (e9 : Nat) (v9 : D) : ap (.con1 G b δ :: k) (.d (.ex e9 v9 S)) = ap k (.l (.ex e9 v9 S)) := rfl
theorem X_con2X (k : List Fr) (S : Store) (x : D) (e9 : Nat) (v9 : D) : ap (.con2 x :: k) (.l (.ex e9 v9 S)) = ap k (.l (.ex e9 v9 S)) := rfl
theorem X_star1X (k : List Fr) (S : Store) (G : Gv) (b : C) (δ : Env) (e9 : Nat) (v9 : D) : ap (.star1 G b δ :: k) (.d (.ex e9 v9 S)) = ap k (.l (.ex e9 v9 S)) := rfl
theorem X_star2X (k : List Fr) (S : Store) (xs : List D) (e9 : Nat) (v9 : D) : ap (.star2 xs :: k) (.l (.ex e9 v9 S)) = ap k (.l (.ex e9 v9 S)) := rfl
theorem X_tupX (k : List Fr) (S : Store)  (e9 : Nat) (v9 : D) : ap (.tup :: k) (.l (.ex e9 v9 S)) = ap k (.d (.ex e9 v9 S)) := rfl
theorem X_lstX (k : List Fr) (S : Store) (m : Bool) (e9 : Nat) (v9 : D) : ap (.lst m :: k) (.l (.ex e9 v9 S)) = ap k (.d (.ex e9 v9 S)) := rfl
theorem X_callX (k : List Fr) (S : Store) (G : Gv) (f : Nat) (e9 : Nat) (v9 : D) : ap (.call G f :: k) (.l (.ex e9 v9 S)) = ap k (.d (.ex e9 v9 S)) := rfl
theorem X_ck1X (k : List Fr) (S : Store) (G : Gv) (s : Nat) (vs : C) (δ : Env) (e9 : Nat) (v9 : D) : ap (.ck1 G s vs δ :: k) (.l (.ex e9 v9 S)) = ap k (.d (.ex e9 v9 S)) := rfl
theorem X_ck2X (k : List Fr) (S : Store) (G : Gv) (s : Nat) (ds : List D) (e9 : Nat) (v9 : D) : ap (.ck2 G s ds :: k) (.l (.ex e9 v9 S)) = ap k (.d (.ex e9 v9 S)) := rfl
theorem X_biX (k : List Fr) (S : Store) (b : Bi) (e9 : Nat) (v9 : D) : ap (.bi b :: k) (.l (.ex e9 v9 S)) = ap k (.d (.ex e9 v9 S)) := rfl
theorem X_comp1X (k : List Fr) (S : Store) (m : Bool) (G : Gv) (tg : Tg) (cnd elt : C) (δ : Env) (e9 : Nat) (v9 : D) : ap (.comp1 m G tg cnd elt δ :: k) (.i (.ex e9 v9 S)) = ap k (.d (.ex e9 v9 S)) := rfl
theorem X_rng1X (k : List Fr) (S : Store) (G : Gv) (b : C) (δ : Env) (e9 : Nat) (v9 : D) : ap (.rng1 G b δ :: k) (.d (.ex e9 v9 S)) = ap k (.i (.ex e9 v9 S)) := rfl
theorem X_rng2X (k : List Fr) (S : Store) (x : D) (e9 : Nat) (v9 : D) : ap (.rng2 x :: k) (.d (.ex e9 v9 S)) = ap k (.i (.ex e9 v9 S)) := rfl
theorem X_enumX (k : List Fr) (S : Store)  (e9 : Nat) (v9 : D) : ap (.enum :: k) (.d (.ex e9 v9 S)) = ap k (.i (.ex e9 v9 S)) := rfl
theorem X_zip1X (k : List Fr) (S : Store) (G : Gv) (b : C) (δ : Env) (e9 : Nat) (v9 : D) : ap (.zip1 G b δ :: k) (.d (.ex e9 v9 S)) = ap k (.i (.ex e9 v9 S)) := rfl
theorem X_zip2X (k : List Fr) (S : Store) (x : D) (e9 : Nat) (v9 : D) : ap (.zip2 x :: k) (.d (.ex e9 v9 S)) = ap k (.i (.ex e9 v9 S)) := rfl
theorem X_itstX (k : List Fr) (S : Store)  (e9 : Nat) (v9 : D) : ap (.itst :: k) (.d (.ex e9 v9 S)) = ap k (.i (.ex e9 v9 S)) := rfl
theorem X_tcmp1X (k : List Fr) (S : Store) (G : Gv) (o : CO) (b : C) (δ : Env) (e9 : Nat) (v9 : D) : ap (.tcmp1 G o b δ :: k) (.d (.ex e9 v9 S)) = ap k (.b (.ex e9 v9 S)) := rfl
theorem X_tcmp2X (k : List Fr) (S : Store) (o : CO) (x : D) (e9 : Nat) (v9 : D) : ap (.tcmp2 o x :: k) (.d (.ex e9 v9 S)) = ap k (.b (.ex e9 v9 S)) := rfl
theorem X_tch1X (k : List Fr) (S : Store) (G : Gv) (o p : CO) (b c : C) (δ : Env) (e9 : Nat) (v9 : D) : ap (.tch1 G o p b c δ :: k) (.d (.ex e9 v9 S)) = ap k (.b (.ex e9 v9 S)) := rfl
theorem X_tch2X (k : List Fr) (S : Store) (G : Gv) (o p : CO) (x : D) (c : C) (δ : Env) (e9 : Nat) (v9 : D) : ap (.tch2 G o p x c δ :: k) (.d (.ex e9 v9 S)) = ap k (.b (.ex e9 v9 S)) := rfl
theorem X_tnotX (k : List Fr) (S : Store)  (e9 : Nat) (v9 : D) : ap (.tnot :: k) (.b (.ex e9 v9 S)) = ap k (.b (.ex e9 v9 S)) := rfl
theorem X_tandX (k : List Fr) (S : Store) (G : Gv) (b : C) (δ : Env) (e9 : Nat) (v9 : D) : ap (.tand G b δ :: k) (.b (.ex e9 v9 S)) = ap k (.b (.ex e9 v9 S)) := rfl
theorem X_torX (k : List Fr) (S : Store) (G : Gv) (b : C) (δ : Env) (e9 : Nat) (v9 : D) : ap (.tor G b δ :: k) (.b (.ex e9 v9 S)) = ap k (.b (.ex e9 v9 S)) := rfl
theorem X_iteX (k : List Fr) (S : Store) (G : Gv) (a b : C) (δ : Env) (e9 : Nat) (v9 : D) : ap (.ite G a b δ :: k) (.b (.ex e9 v9 S)) = ap k (.d (.ex e9 v9 S)) := rfl
theorem X_ocX (k : List Fr) (S : Store)  (e9 : Nat) (v9 : D) : ap (.oc :: k) (.d (.ex e9 v9 S)) = ap k (.o (.ex e9 v9 S)) := rfl
theorem X_setX (k : List Fr) (S : Store) (tg : Tg) (δ : Env) (e9 : Nat) (v9 : D) : ap (.set tg δ :: k) (.d (.ex e9 v9 S)) = ap k (.s (.ex e9 v9 δ S)) := rfl
theorem X_stI1X (k : List Fr) (S : Store) (G : Gv) (a i : C) (δ : Env) (e9 : Nat) (v9 : D) : ap (.stI1 G a i δ :: k) (.d (.ex e9 v9 S)) = ap k (.s (.ex e9 v9 δ S)) := rfl
theorem X_stI2X (k : List Fr) (S : Store) (G : Gv) (i : C) (δ : Env) (z : D) (e9 : Nat) (v9 : D) : ap (.stI2 G i δ z :: k) (.d (.ex e9 v9 S)) = ap k (.s (.ex e9 v9 δ S)) := rfl
theorem X_stI3X (k : List Fr) (S : Store) (δ : Env) (z x : D) (e9 : Nat) (v9 : D) : ap (.stI3 δ z x :: k) (.d (.ex e9 v9 S)) = ap k (.s (.ex e9 v9 δ S)) := rfl
theorem X_exprX (k : List Fr) (S : Store) (δ : Env) (e9 : Nat) (v9 : D) : ap (.expr δ :: k) (.d (.ex e9 v9 S)) = ap k (.s (.ex e9 v9 δ S)) := rfl
theorem X_retX (k : List Fr) (S : Store) (δ : Env) (e9 : Nat) (v9 : D) : ap (.ret δ :: k) (.d (.ex e9 v9 S)) = ap k (.s (.ex e9 v9 δ S)) := rfl
theorem X_ifsX (k : List Fr) (S : Store) (G : Gv) (a b : C) (δ : Env) (e9 : Nat) (v9 : D) : ap (.ifs G a b δ :: k) (.b (.ex e9 v9 S)) = ap k (.s (.ex e9 v9 δ S)) := rfl
theorem X_for_X (k : List Fr) (S : Store) (G : Gv) (tg : Tg) (b : C) (δ : Env) (e9 : Nat) (v9 : D) : ap (.for_ G tg b δ :: k) (.i (.ex e9 v9 S)) = ap k (.s (.ex e9 v9 δ S)) := rfl
theorem X_raiseX (k : List Fr) (S : Store) (G : Gv) (e : Nat) (δ : Env) (e9 : Nat) (v9 : D) : ap (.raise G e δ :: k) (.d (.ex e9 v9 S)) = ap k (.s (.ex e9 v9 δ S)) := rfl
theorem X_comp21X (k : List Fr) (S : Store) (m : Bool) (G : Gv) (tg : Tg) (cnd : C) (tg2 : Tg) (src2 cnd2 elt : C) (δ : Env) (e9 : Nat) (v9 : D) : ap (.comp21 m G tg cnd tg2 src2 cnd2 elt δ :: k) (.i (.ex e9 v9 S)) = ap k (.d (.ex e9 v9 S)) := rfl
theorem X_fldX (k : List Fr) (S : Store) (G : Gv) (f : Nat) (e9 : Nat) (v9 : D) : ap (.fld G f :: k) (.d (.ex e9 v9 S)) = ap k (.d (.ex e9 v9 S)) := rfl
theorem X_mc1X (k : List Fr) (S : Store) (G : Gv) (m : Nat) (es : C) (δ : Env) (e9 : Nat) (v9 : D) : ap (.mc1 G m es δ :: k) (.d (.ex e9 v9 S)) = ap k (.d (.ex e9 v9 S)) := rfl
theorem X_mc2X (k : List Fr) (S : Store) (G : Gv) (n : Nat) (x : D) (e9 : Nat) (v9 : D) : ap (.mc2 G n x :: k) (.l (.ex e9 v9 S)) = ap k (.d (.ex e9 v9 S)) := rfl
theorem X_newX (k : List Fr) (S : Store) (G : Gv) (m : Bool) (c i : Nat) (e9 : Nat) (v9 : D) : ap (.new G m c i :: k) (.l (.ex e9 v9 S)) = ap k (.d (.ex e9 v9 S)) := rfl
theorem X_nk1X (k : List Fr) (S : Store) (G : Gv) (m : Bool) (c s : Nat) (vs : C) (δ : Env) (e9 : Nat) (v9 : D) : ap (.nk1 G m c s vs δ :: k) (.l (.ex e9 v9 S)) = ap k (.d (.ex e9 v9 S)) := rfl
theorem X_nk2X (k : List Fr) (S : Store) (G : Gv) (m : Bool) (c s : Nat) (ds : List D) (e9 : Nat) (v9 : D) : ap (.nk2 G m c s ds :: k) (.l (.ex e9 v9 S)) = ap k (.d (.ex e9 v9 S)) := rfl
theorem X_isoX (k : List Fr) (S : Store) (G : Gv) (c : Nat) (e9 : Nat) (v9 : D) : ap (.iso G c :: k) (.d (.ex e9 v9 S)) = ap k (.d (.ex e9 v9 S)) := rfl
theorem X_isitX (k : List Fr) (S : Store) (t u : Ty) (e9 : Nat) (v9 : D) : ap (.isit t u :: k) (.d (.ex e9 v9 S)) = ap k (.d (.ex e9 v9 S)) := rfl
theorem X_lrng1X (k : List Fr) (S : Store) (m : Bool) (G : Gv) (b : C) (δ : Env) (e9 : Nat) (v9 : D) : ap (.lrng1 m G b δ :: k) (.d (.ex e9 v9 S)) = ap k (.d (.ex e9 v9 S)) := rfl
theorem X_lrng2X (k : List Fr) (S : Store) (m : Bool) (x : D) (e9 : Nat) (v9 : D) : ap (.lrng2 m x :: k) (.d (.ex e9 v9 S)) = ap k (.d (.ex e9 v9 S)) := rfl
theorem X_lsetX (k : List Fr) (S : Store)  (e9 : Nat) (v9 : D) : ap (.lset :: k) (.d (.ex e9 v9 S)) = ap k (.d (.ex e9 v9 S)) := rfl
theorem X_ssetX (k : List Fr) (S : Store) (m : Bool) (e9 : Nat) (v9 : D) : ap (.sset m :: k) (.d (.ex e9 v9 S)) = ap k (.d (.ex e9 v9 S)) := rfl
theorem X_mkxX (k : List Fr) (S : Store) (G : Gv) (a : Nat) (e9 : Nat) (v9 : D) : ap (.mkx G a :: k) (.d (.ex e9 v9 S)) = ap k (.d (.ex e9 v9 S)) := rfl
theorem X_isxX (k : List Fr) (S : Store) (G : Gv) (j : Nat) (e9 : Nat) (v9 : D) : ap (.isx G j :: k) (.d (.ex e9 v9 S)) = ap k (.d (.ex e9 v9 S)) := rfl
theorem X_isxtX (k : List Fr) (S : Store) (G : Gv) (js : List Nat) (e9 : Nat) (v9 : D) : ap (.isxt G js :: k) (.d (.ex e9 v9 S)) = ap k (.d (.ex e9 v9 S)) := rfl
theorem X_poplX (k : List Fr) (S : Store)  (e9 : Nat) (v9 : D) : ap (.popl :: k) (.d (.ex e9 v9 S)) = ap k (.d (.ex e9 v9 S)) := rfl
theorem X_dc1X (k : List Fr) (S : Store) (m : Bool) (n : Nat) (G : Gv) (v : C) (δ : Env) (e9 : Nat) (v9 : D) : ap (.dc1 m n G v δ :: k) (.d (.ex e9 v9 S)) = ap k (.d (.ex e9 v9 S)) := rfl
theorem X_dc2X (k : List Fr) (S : Store) (m : Bool) (n : Nat) (x : D) (e9 : Nat) (v9 : D) : ap (.dc2 m n x :: k) (.d (.ex e9 v9 S)) = ap k (.d (.ex e9 v9 S)) := rfl
theorem X_eqo1X (k : List Fr) (S : Store) (m : Nat) (neg : Bool) (G : Gv) (b : C) (δ : Env) (e9 : Nat) (v9 : D) : ap (.eqo1 m neg G b δ :: k) (.d (.ex e9 v9 S)) = ap k (.d (.ex e9 v9 S)) := rfl
theorem X_eqo2X (k : List Fr) (S : Store) (m : Nat) (neg : Bool) (G : Gv) (x : D) (e9 : Nat) (v9 : D) : ap (.eqo2 m neg G x :: k) (.d (.ex e9 v9 S)) = ap k (.d (.ex e9 v9 S)) := rfl
theorem X_t31X (k : List Fr) (S : Store) (G : Gv) (o p q : CO) (b c d : C) (δ : Env) (e9 : Nat) (v9 : D) : ap (.t31 G o p q b c d δ :: k) (.d (.ex e9 v9 S)) = ap k (.b (.ex e9 v9 S)) := rfl
theorem X_t32X (k : List Fr) (S : Store) (G : Gv) (o p q : CO) (x : D) (c d : C) (δ : Env) (e9 : Nat) (v9 : D) : ap (.t32 G o p q x c d δ :: k) (.d (.ex e9 v9 S)) = ap k (.b (.ex e9 v9 S)) := rfl
theorem X_t33X (k : List Fr) (S : Store) (G : Gv) (p q : CO) (y : D) (d : C) (δ : Env) (e9 : Nat) (v9 : D) : ap (.t33 G p q y d δ :: k) (.d (.ex e9 v9 S)) = ap k (.b (.ex e9 v9 S)) := rfl
theorem X_stA1X (k : List Fr) (S : Store) (G : Gv) (a : C) (f : Nat) (δ : Env) (e9 : Nat) (v9 : D) : ap (.stA1 G a f δ :: k) (.d (.ex e9 v9 S)) = ap k (.s (.ex e9 v9 δ S)) := rfl
theorem X_stA2X (k : List Fr) (S : Store) (G : Gv) (f : Nat) (δ : Env) (z : D) (e9 : Nat) (v9 : D) : ap (.stA2 G f δ z :: k) (.d (.ex e9 v9 S)) = ap k (.s (.ex e9 v9 δ S)) := rfl
theorem X_matX (k : List Fr) (S : Store) (G : Gv) (cs : C) (δ : Env) (e9 : Nat) (v9 : D) : ap (.mat G cs δ :: k) (.d (.ex e9 v9 S)) = ap k (.s (.ex e9 v9 δ S)) := rfl
theorem X_tstX (k : List Fr) (S : Store) (c : Nat) (v : D) : ap (.tst :: k) (.d (.ex c v S)) = ap k (.b (.ex c v S)) := rfl
theorem K_tand (k : List Fr) (S : Store) (G : Gv) (δ : Env) (b : C) (t : Bool) : ap (.tand G b δ :: k) (.b (.ok t S)) = if t = true then ap k (.b (evT G b δ S)) else ap k (.b (.ok false S)) := by cases t <;> rfl
theorem K_tor (k : List Fr) (S : Store) (G : Gv) (δ : Env) (b : C) (t : Bool) : ap (.tor G b δ :: k) (.b (.ok t S)) = if t = true then ap k (.b (.ok true S)) else ap k (.b (evT G b δ S)) := by cases t <;> rfl
theorem K_ite (k : List Fr) (S : Store) (G : Gv) (δ : Env) (a b : C) (t : Bool) : ap (.ite G a b δ :: k) (.b (.ok t S)) = if t = true then ap k (.d (ev G a δ S)) else ap k (.d (ev G b δ S)) := by cases t <;> rfl
theorem K_ifs (k : List Fr) (S : Store) (G : Gv) (δ : Env) (a b : C) (t : Bool) : ap (.ifs G a b δ :: k) (.b (.ok t S)) = if t = true then ap k (.s (ex G a δ S)) else ap k (.s (ex G b δ S)) := by cases t <;> rfl
theorem K_and1 (k : List Fr) (S : Store) (G : Gv) (δ : Env) (b : C) (x : D) : ap (.and1 G b δ :: k) (.d (.ok x S)) = ap k (.d (optR (truD S x) fun t => if t = true then ev G b δ S else .ok x S)) := rfl
theorem K_or1 (k : List Fr) (S : Store) (G : Gv) (δ : Env) (b : C) (x : D) : ap (.or1 G b δ :: k) (.d (.ok x S)) = ap k (.d (optR (truD S x) fun t => if t = true then .ok x S else ev G b δ S)) := rfl
theorem K_ch2 (k : List Fr) (S : Store) (G : Gv) (δ : Env) (o p : CO) (c : C) (x y : D) : ap (.ch2 G o p x c δ :: k) (.d (.ok y S)) = ap k (.d (optR (cmpD o x y S) fun t => if t = true then (ev G c δ S).bind fun z S3 => optD (cmpD p y z S3) S3 else .ok (.bl false) S)) := rfl
theorem K_tch2 (k : List Fr) (S : Store) (G : Gv) (δ : Env) (o p : CO) (c : C) (x y : D) : ap (.tch2 G o p x c δ :: k) (.d (.ok y S)) = ap k (.b (optR (cmpD o x y S) fun t => if t = true then (ev G c δ S).bind fun z S3 => optB (cmpD p y z S3) S3 else .ok false S)) := rfl
theorem K_starT (k : List Fr) (S : Store) (G : Gv) (δ : Env) (b : C) (ds : List D) : ap (.star1 G b δ :: k) (.d (.ok (.tup ds) S)) = ap (.star2 ds :: k) (.l (evs G b δ S)) := rfl
theorem K_starL (k : List Fr) (S : Store) (G : Gv) (δ : Env) (b : C) (ds : List D) : ap (.star1 G b δ :: k) (.d (.ok (.lst ds) S)) = ap (.star2 ds :: k) (.l (evs G b δ S)) := rfl
theorem K_app1 (k : List Fr) (S : Store) (G : Gv) (δ : Env) (e : C) (x : D) : ap (.app1 G e δ :: k) (.d (.ok x S)) = ap k (.d (if (isL (deref S x)).isSome = true then (ev G e δ S).bind fun y S2 => appD x y S2 else .stuck)) := rfl
theorem B_star (k : List Fr) (G : Gv) (δ : Env) (S : Store) (b : C) (xs : List D) : ap k (.l ((evs G b δ S).bind fun ys S2 => .ok (xs ++ ys) S2)) = ap (.star2 xs :: k) (.l (evs G b δ S)) := rfl
theorem B_cmp (k : List Fr) (G : Gv) (δ : Env) (S : Store) (p : CO) (c : C) (y : D) : ap k (.d ((ev G c δ S).bind fun z S3 => optD (cmpD p y z S3) S3)) = ap (.cmp2 p y :: k) (.d (ev G c δ S)) := rfl
theorem B_tcmp (k : List Fr) (G : Gv) (δ : Env) (S : Store) (p : CO) (c : C) (y : D) : ap k (.b ((ev G c δ S).bind fun z S3 => optB (cmpD p y z S3) S3)) = ap (.tcmp2 p y :: k) (.d (ev G c δ S)) := rfl
theorem B_app (k : List Fr) (G : Gv) (δ : Env) (S : Store) (e : C) (x : D) : ap k (.d ((ev G e δ S).bind fun y S2 => appD x y S2)) = ap (.app2 x :: k) (.d (ev G e δ S)) := rfl
theorem B_mc (k : List Fr) (G : Gv) (δ : Env) (S : Store) (es : C) (n : Nat) (x : D) : ap k (.d ((evs G es δ S).bind fun ds S2 => G.cal n (x :: ds) S2)) = ap (.mc2 G n x :: k) (.l (evs G es δ S)) := rfl
theorem B_new (k : List Fr) (G : Gv) (δ : Env) (S : Store) (es : C) (m : Bool) (c i : Nat) : ap k (.d ((evs G es δ S).bind fun ds S1 => newO m S1.length (G.cal i (.ref S1.length :: ds) (S1 ++ [.ins c [] []])))) = ap (.new G m c i :: k) (.l (evs G es δ S)) := rfl
theorem B_t3 (k : List Fr) (G : Gv) (δ : Env) (S : Store) (p q : CO) (c d : C) (y : D) : ap k (.b ((ev G c δ S).bind fun z S3 => optR (cmpD p y z S3) fun t => if t = true then (ev G d δ S3).bind fun u S4 => optB (cmpD q z u S4) S4 else .ok false S3)) = ap (.t33 G p q y d δ :: k) (.d (ev G c δ S)) := rfl
theorem B_iteI (k : List Fr) (p : Prop) [Decidable p] (a b : R PV.It) : ap k (.i (if p then a else b)) = if p then ap k (.i a) else ap k (.i b) := by by_cases h : p <;> simp [h]
theorem B_iteD (k : List Fr) (p : Prop) [Decidable p] (a b : R D) : ap k (.d (if p then a else b)) = if p then ap k (.d a) else ap k (.d b) := by by_cases h : p <;> simp [h]
theorem B_iteB (k : List Fr) (p : Prop) [Decidable p] (a b : R Bool) : ap k (.b (if p then a else b)) = if p then ap k (.b a) else ap k (.b b) := by by_cases h : p <;> simp [h]
theorem B_iteL (k : List Fr) (p : Prop) [Decidable p] (a b : R (List D)) : ap k (.l (if p then a else b)) = if p then ap k (.l a) else ap k (.l b) := by by_cases h : p <;> simp [h]
theorem B_iteS (k : List Fr) (p : Prop) [Decidable p] (a b : RS) : ap k (.s (if p then a else b)) = if p then ap k (.s a) else ap k (.s b) := by by_cases h : p <;> simp [h]
theorem B_ret (k : List Fr) (r : R D) : ap k (.s (retR r)) = ap (.hret :: k) (.d r) := rfl
theorem B_out (k : List Fr) (r : RS) : ap k (.d (outR r)) = ap (.out :: k) (.s r) := rfl
theorem B_for (k : List Fr) (tg : Tg) (G : Gv) (b : C) (d : D) (ds : List D) (δ : Env) (S : Store) : ap k (.s (forL tg (ex G b) (d :: ds) δ S)) = ap (.loop tg G b ds :: k) (.s (bndR (bindT tg d δ) fun δ1 => ex G b δ1 S)) := by
  rw [f_cons]
  show ap k _ = ap k (fr1 _ _)
  cases bindT tg d δ <;> rfl
theorem U_d (r : R D) : unD (ap [] (.d r)) = r := rfl
section
variable (S : Store)
theorem a_addI (i j : Int) : bin2 .add (.int i) (.int j) S = .ok (.int (i + j)) S := rfl
theorem a_subI (i j : Int) : bin2 .sub (.int i) (.int j) S = .ok (.int (i - j)) S := rfl
theorem a_mulI (i j : Int) : bin2 .mul (.int i) (.int j) S = if mulOk i j = true then .ok (.int (i * j)) S else .stuck := rfl
theorem a_divI (i j : Int) : bin2 .fdiv (.int i) (.int j) S = if (decide (0 < j) && decide (j.natAbs.log2 < 9000)) = true then .ok (.int (i / j)) S else if (decide (j < 0) && decide (j.natAbs.log2 < 9000)) = true then .ok (.int (i.fdiv j)) S else .stuck := rfl
theorem a_modI (i j : Int) : bin2 .mod (.int i) (.int j) S = if decide (0 < j) = true then .ok (.int (i % j)) S else .stuck := rfl
theorem a_powI (i j : Int) : bin2 .pow (.int i) (.int j) S = if (decide (0 ≤ j) && decide (j ≤ 1000) && decide (i.natAbs < 18446744073709551616)) = true then .ok (.int (i ^ j.toNat)) S else .stuck := rfl
theorem a_addL (x y : List D) : bin2 .add (.lst x) (.lst y) S = if fits (x.length + y.length) = true then .ok (.lst (x ++ y)) S else .stuck := rfl
theorem a_addT (x y : List D) : bin2 .add (.tup x) (.tup y) S = if fits (x.length + y.length) = true then .ok (.tup (x ++ y)) S else .stuck := rfl
theorem a_mulL (x : List D) (j : Int) : bin2 .mul (.lst x) (.int j) S = if (decide (0 ≤ j) && decide (j ≤ 1000) && fits (x.length * j.toNat)) = true then .ok (.lst (List.replicate j.toNat x).flatten) S else .stuck := rfl
theorem t_blD (b : Bool) : truD S (.bl b) = some b := rfl
theorem t_intD (i : Int) : truD S (.int i) = some (i != 0) := rfl
theorem t_nonD : truD S .non = some false := rfl
theorem t_tupD (ds : List D) : truD S (.tup ds) = some (!ds.isEmpty) := rfl
theorem t_lstD (ds : List D) : truD S (.lst ds) = some (!ds.isEmpty) := rfl
theorem m_ltI (i j : Int) : cmpD .lt (.int i) (.int j) S = some (decide (i < j)) := rfl
theorem m_leI (i j : Int) : cmpD .le (.int i) (.int j) S = some (decide (i ≤ j)) := rfl
theorem m_gtI (i j : Int) : cmpD .gt (.int i) (.int j) S = some (decide (j < i)) := rfl
theorem m_geI (i j : Int) : cmpD .ge (.int i) (.int j) S = some (decide (j ≤ i)) := rfl
theorem m_eqI (i j : Int) : cmpD .eq (.int i) (.int j) S = some (decide (i = j)) := rfl
theorem m_neI (i j : Int) : cmpD .ne (.int i) (.int j) S = some (!decide (i = j)) := rfl
theorem m_eqS (x y : Str) : cmpD .eq (.str x) (.str y) S = some (decide (x = y)) := rfl
theorem m_neS (x y : Str) : cmpD .ne (.str x) (.str y) S = some (!decide (x = y)) := rfl
theorem m_isB (x y : Bool) : cmpD .is_ (.bl x) (.bl y) S = some (decide (x = y)) := rfl
theorem m_isnB (x y : Bool) : cmpD .isn (.bl x) (.bl y) S = some (!decide (x = y)) := rfl
theorem m_isN (a : D) : cmpD .is_ a .non S = some (isNon a) := by cases a <;> rfl
theorem m_isnN (a : D) : cmpD .isn a .non S = some (!isNon a) := by cases a <;> rfl
theorem ob_s (b : Bool) : optB (some b) S = .ok b S := rfl
theorem od_s (b : Bool) : optD (some b) S = .ok (.bl b) S := rfl
theorem l_newF (ds : List D) : newL false ds S = if fits ds.length = true then .ok (.lst ds) S else .stuck := rfl
theorem l_newT (ds : List D) : newL true ds S = if fits ds.length = true then .ok (.ref S.length) (S ++ [.lst ds]) else .stuck := rfl
theorem d_tup (ds : List D) : deref S (.tup ds) = .tup ds := rfl
theorem d_lst (ds : List D) : deref S (.lst ds) = .lst ds := rfl
theorem d_int (i : Int) : deref S (.int i) = .int i := rfl
theorem d_bl (b : Bool) : deref S (.bl b) = .bl b := rfl
theorem d_str (x : Str) : deref S (.str x) = .str x := rfl
theorem d_non : deref S .non = .non := rfl
theorem d_scr (x : List Int) : deref S (.scr x) = .scr x := rfl
theorem i_tup (ds : List D) (k : Int) : idx2 (.tup ds) (.int k) S = optR (atI ds k) fun d => .ok d S := by
  show (match ixD ds k with | some d => R.ok d S | none => .stuck) = _
  unfold ixD; cases atI ds k <;> rfl
theorem i_lst (ds : List D) (k : Int) : idx2 (.lst ds) (.int k) S = optR (atI ds k) fun d => .ok d S := by
  show (match ixD ds k with | some d => R.ok d S | none => .stuck) = _
  unfold ixD; cases atI ds k <;> rfl
theorem i_scr (ds : List Int) (k : Int) : idx2 (.scr ds) (.int k) S = optR (atI ds k) fun d => .ok (.int d) S := by
  show (match ixD ds k with | some d => PV.R.ok (PV.D.int d) S | none => .stuck) = _
  unfold ixD; cases atI ds k <;> rfl
theorem d_cell {n : Nat} {ds : List D} (h : S[n]? = some (.lst ds)) : deref S (.ref n) = .lst ds := by
  unfold deref
  dsimp only
  rw [h]
theorem i_cell {n : Nat} {ds : List D} (h : S[n]? = some (.lst ds)) (k : Int) : idx2 (.ref n) (.int k) S = optR (atI ds k) fun d => .ok d S := by
  unfold idx2
  rw [d_cell S h]
  show (match ixD ds k with | some d => R.ok d S | none => .stuck) = _
  unfold ixD; cases atI ds k <;> rfl
theorem ii_tup (ds : List D) : itD S (.tup ds) = .ok (.fix ds) S := rfl
theorem ii_lst (ds : List D) : itD S (.lst ds) = .ok (.fix ds) S := rfl
theorem ii_cell {n : Nat} {ds : List D} (h : S[n]? = some (.lst ds)) : itD S (.ref n) = .ok (.live n) S := by
  unfold itD
  dsimp only
  rw [h]
theorem ci_fix (tg : Tg) (cnd : Env → Store → R Bool) (elt : F) (δ : Env) (ds : List D) : compI tg cnd elt δ (.fix ds) S = compL tg cnd elt δ ds S := rfl
theorem fi_fix (tg : Tg) (body : FS) (δ : Env) (ds : List D) : forI tg body (.fix ds) δ S = forL tg body ds δ S := rfl
theorem mq_wild (d : D) (δ : Env) : matQ S .wild d δ = some (some δ) := rfl
theorem mq_cap (i : Nat) (d : D) (δ : Env) : matQ S (.cap i) d δ = some (some (δ.set i (some d))) := rfl
theorem mq_str (x y : Str) (δ : Env) : matQ S (.val (.str y)) (.str x) δ = some (if x = y then some δ else none) := by
  show (match (some (decide (x = y)) : Option Bool) with | some true => some (some δ) | some false => some none | none => none) = _
  by_cases h : x = y <;> simp [h]
theorem mq_int (x y : Int) (δ : Env) : matQ S (.val (.int y)) (.int x) δ = some (if x = y then some δ else none) := by
  show (match (some (decide (x = y)) : Option Bool) with | some true => some (some δ) | some false => some none | none => none) = _
  by_cases h : x = y <;> simp [h]
theorem ms_nil (δ : Env) : matS S [] [] δ = some (some δ) := rfl
theorem ms_cons (q : Pq) (qs : List Pq) (d : D) (ds : List D) (δ : Env) : matS S (q :: qs) (d :: ds) δ = match matQ S q d δ with | some (some δ1) => matS S qs ds δ1 | r => r := rfl
theorem ms_one (q : Pq) (d : D) (δ : Env) : matD S (.one q) d δ = matQ S q d δ := by cases d <;> rfl
theorem ms_seq (qs : List Pq) (ds : List D) (δ : Env) : matD S (.seq qs) (.tup ds) δ = if ds.length = qs.length then matS S qs ds δ else some none := rfl
theorem isi_cell {n : Nat} {ds : List D} (h : S[n]? = some (.lst ds)) (t : Ty) : isiD S (.ref n) t = isiD S (.lst ds) t := by
  unfold isiD
  rw [d_cell S h]
  rfl
theorem len_cell {n : Nat} {ds : List D} (h : S[n]? = some (.lst ds)) : biD .len [.ref n] S = .ok (.int ds.length) S := by
  show (match lenD S (.ref n) with | some n => PV.R.ok (PV.D.int n) S | none => .stuck) = _
  unfold lenD
  rw [d_cell S h]
theorem sq_tup (ds : List D) : seqD S (.tup ds) = some ds := rfl
theorem sq_lst (ds : List D) : seqD S (.lst ds) = some ds := rfl
theorem at_0 {α : Type} (a : α) (l : List α) : atI (a :: l) 0 = some a := by
  unfold atI ixN; simp
theorem at_1 {α : Type} (a b : α) (l : List α) : atI (a :: b :: l) 1 = some b := by
  unfold atI ixN
  rw [if_pos (by decide), if_pos (by simp; omega)]
  rfl
theorem at_2 {α : Type} (a b c : α) (l : List α) : atI (a :: b :: c :: l) 2 = some c := by
  unfold atI ixN
  rw [if_pos (by decide), if_pos (by simp; omega)]
  rfl
theorem at_3 {α : Type} (a b c d : α) (l : List α) : atI (a :: b :: c :: d :: l) 3 = some d := by
  unfold atI ixN
  rw [if_pos (by decide), if_pos (by simp; omega)]
  rfl
theorem at_last {α : Type} {l : List α} {x : α} (h : l.getLast? = some x) : atI l (-1) = some x := by
  have hne : l ≠ [] := fun z => by rw [z] at h; cases h
  have hl : 0 < l.length := List.length_pos_iff.mpr hne
  unfold atI ixN
  rw [if_neg (by omega), if_pos (by omega)]
  show l[((-1 : Int) + (l.length : Nat)).toNat]? = some x
  have e : ((-1 : Int) + (l.length : Nat)).toNat = l.length - 1 := by omega
  rw [e, ← List.getLast?_eq_getElem?]
  exact h
theorem at_nat {α : Type} {l : List α} {k : Int} {x : α} (h0 : 0 ≤ k) (h : l[k.toNat]? = some x) : atI l k = some x := by
  have hl : k.toNat < l.length := (List.getElem?_eq_some_iff.mp h).1
  unfold atI ixN
  rw [if_pos h0, if_pos (by omega)]
  exact h
theorem fits_1 (n : Nat) (h : n ≤ 1000) : fits n = true := decide_eq_true (by omega)
theorem fd_err {G : Gv} {c f : Nat} {v : D} : fldD G (.err c v) f S = if G.ef c = some f then .ok v S else .stuck := rfl
theorem ix_err {G : Gv} {c j : Nat} {v : D} : isxD G S (.err c v) j = some (G.sub c j) := rfl
theorem ixt_err {G : Gv} {c : Nat} {js : List Nat} {v : D} : isxtD G S (.err c v) js = some (js.any fun j => G.sub c j) := rfl
theorem dc_new {v : D} {i : Int} : dctD false S.length (.int i) v (S ++ [.dct [] []]) = .ok (.dct [.int i] [v]) (S ++ [.dead]) := by
  have e : (S ++ [Cell.dct [] []])[S.length]? = some (.dct [] []) := by rw [List.getElem?_append_right (Nat.le_refl _)]; simp
  have e2 : ∀ c : Cell, ∀ d : Cell, (S ++ [d]).set S.length c = S ++ [c] := fun c d => by rw [List.set_append_right _ _ (Nat.le_refl _)]; simp
  unfold dctD
  rw [e]
  dsimp only [keyD]
  rw [e2, if_neg (by decide)]
  unfold frzD
  dsimp only
  have e3 : (S ++ [Cell.dct [D.int i] [v]])[S.length]? = some (.dct [.int i] [v]) := by rw [List.getElem?_append_right (Nat.le_refl _)]; simp
  rw [e3]
  dsimp only
  rw [e2]
theorem b_len1 (ds : List D) : biD .len [.tup ds] S = .ok (.int ds.length) S := rfl
theorem b_len2 (ds : List D) : biD .len [.lst ds] S = .ok (.int ds.length) S := rfl
theorem b_len3 (ds : List Int) : biD .len [.scr ds] S = .ok (.int ds.length) S := rfl
theorem b_max2 (i j : Int) : biD .max [.int i, .int j] S = .ok (.int (if j > i then j else i)) S := rfl
theorem b_min2 (i j : Int) : biD .min [.int i, .int j] S = .ok (.int (if j < i then j else i)) S := rfl
theorem b_abs (i : Int) : biD .abs [.int i] S = .ok (.int (if i < 0 then -i else i)) S := rfl
theorem b_intB (k : Bool) : biD .int [.bl k] S = .ok (.int (if k = true then 1 else 0)) S := rfl
theorem b_intI (k : Int) : biD .int [.int k] S = .ok (.int k) S := rfl
theorem b_repr (d : D) : biD .repr [d] S = optR (reprD S d) fun x => .ok (.str x) S := by
  show (match reprD S d with | some x => PV.R.ok (PV.D.str x) S | none => .stuck) = _
  cases reprD S d <;> rfl
theorem b_all (ds : List D) : biD .all [.lst ds] S = optR (blsD ds) fun bs => .ok (.bl (bs.all id)) S := by
  show (match blsD ds with | some bs => PV.R.ok (PV.D.bl (bs.all id)) S | none => .stuck) = _
  cases blsD ds <;> rfl
theorem b_any (ds : List D) : biD .any [.lst ds] S = optR (blsD ds) fun bs => .ok (.bl (bs.any id)) S := by
  show (match blsD ds with | some bs => PV.R.ok (PV.D.bl (bs.any id)) S | none => .stuck) = _
  cases blsD ds <;> rfl
theorem bls_map (bs : List Bool) : blsD (bs.map D.bl) = some bs := by
  induction bs with
  | nil => rfl
  | cons b bs ih => show (blsD (bs.map D.bl)).map (b :: ·) = _; rw [ih]; rfl
theorem ints_map (is : List Int) : intsD (is.map D.int) = some is := by
  induction is with
  | nil => rfl
  | cons b bs ih => show (intsD (bs.map D.int)).map (b :: ·) = _; rw [ih]; rfl
end
theorem eqD_refl {S : Store} {a : D} {p : PyData} (h : toP S (deref S a) = some p) (hs : SeqAt.shaped p = true) : eqD S a a = some true := by
  have key : (match toP S (deref S a), toP S (deref S a) with
    | some p, some q => if (SeqAt.shaped p && SeqAt.shaped q) = true then some (PyData.eqv p q) else none
    | _, _ => none) = some true := by
    rw [h]
    have hc : p.canLay0 = true := by
      unfold SeqAt.shaped at hs
      rw [Bool.and_eq_true] at hs
      exact hs.1
    simp only [hs, Bool.and_self, if_true, PySem.SeqAt.eqv_refl p hc]
  cases a <;> first | exact key | (simp only [eqD, decide_true])
theorem ne_refl {S : Store} {a : D} {p : PyData} (h : toP S (deref S a) = some p) (hs : SeqAt.shaped p = true) : cmpD .ne a a S = some false := by
  show (eqD S a a).map (!·) = _
  rw [eqD_refl h hs]
  rfl
theorem eq_refl' {S : Store} {a : D} {p : PyData} (h : toP S (deref S a) = some p) (hs : SeqAt.shaped p = true) : cmpD .eq a a S = some true := eqD_refl h hs
theorem eq_t2 (S : Store) (a b c e : Int) : eqD S (.tup [.int a, .int b]) (.tup [.int c, .int e]) = some (decide (a = c) && decide (b = e)) := by
  show (if (SeqAt.shaped (.tuple [.int a, .int b]) && SeqAt.shaped (.tuple [.int c, .int e])) = true then some (PyData.eqv (.tuple [.int a, .int b]) (.tuple [.int c, .int e])) else none) = _
  have h : ∀ x y : Int, SeqAt.shaped (.tuple [.int x, .int y]) = true := fun x y => rfl
  rw [h, h]
  show some ((a == c) && ((b == e) && true)) = _
  rw [Bool.and_true]
  rfl
theorem m_eqT2 (S : Store) (a b c e : Int) : cmpD .eq (.tup [.int a, .int b]) (.tup [.int c, .int e]) S = some (decide (a = c) && decide (b = e)) := eq_t2 S a b c e
theorem m_neT2 (S : Store) (a b c e : Int) : cmpD .ne (.tup [.int a, .int b]) (.tup [.int c, .int e]) S = some (!(decide (a = c) && decide (b = e))) := by
  show (eqD S (.tup [.int a, .int b]) (.tup [.int c, .int e])).map (!·) = _
  rw [eq_t2]
  rfl
theorem look_mem {α β : Type} [BEq α] [LawfulBEq α] {k : α} {a : β} : ∀ {l : List (α × β)}, l.lookup k = some a → (k, a) ∈ l
  | [], h => by cases h
  | (q, b) :: l, h => by
    rw [List.lookup_cons] at h
    cases hb : k == q with
    | true =>
      rw [hb] at h
      cases h
      have e := eq_of_beq hb
      subst e
      exact List.mem_cons_self
    | false =>
      rw [hb] at h
      exact List.mem_cons_of_mem _ (look_mem h)
end PV

namespace PV
open L2
/-! the laws' common beginning: a pool of digits, a draw -/
def drawC : C := (.cons (.ifs (.tcmp .gt (.idx (.var 0) (.con (.int 0))) (.con (.int 0))) (.cons (.set (.one 2) (.bin .mod (.idx (.var 0) (.con (.int 0))) (.var 1))) (.cons (.stI (.var 0) (.con (.int 0)) (.bin .fdiv (.idx (.var 0) (.con (.int 0))) (.var 1))) (.cons (.ret (.var 2)) .nil))) .nil) (.cons (.stI (.var 0) (.con (.int 1)) (.bin .mod (.bin .add (.bin .mul (.idx (.var 0) (.con (.int 1))) (.con (.int 48271))) (.con (.int 11))) (.con (.int 2147483647)))) (.cons (.ret (.bin .mod (.bin .fdiv (.bin .mod (.bin .mul (.idx (.var 0) (.con (.int 1))) (.idx (.var 0) (.con (.int 1)))) (.con (.int 2147483629))) (.con (.int 64))) (.var 1))) .nil)))
def poolC : C := (.cons (.set (.one 2) (.con (.int 0))) (.cons (.ifs (.tcmp .lt (.var 1) (.bi .len (.cons (.var 0) .nil))) (.cons (.set (.one 2) (.idx (.var 0) (.var 1))) .nil) .nil) (.cons (.set (.one 3) (.bi .max (.cons (.var 2) (.cons (.bin .sub (.neg (.con (.int 1))) (.var 2)) .nil)))) (.cons (.set (.one 4) (.bin .mod (.bin .add (.bin .add (.bin .mul (.bin .mod (.var 3) (.con (.int 2147483629))) (.con (.int 16807))) (.bin .mul (.con (.int 104729)) (.var 1))) (.con (.int 11))) (.con (.int 2147483647)))) (.cons (.ifs (.tcmp .lt (.var 3) (.bin .pow (.con (.int 10)) (.con (.int 18)))) (.cons (.set (.one 3) (.con (.int 0))) .nil) .nil) (.cons (.ret (.lst true (.cons (.var 3) (.cons (.var 4) .nil)))) .nil))))))
/-- the pool at r -/
def Src (S : Store) (r : Nat) : Prop := ∃ n s : Int, S[r]? = some (.lst [.int n, .int s]) ∧ 0 ≤ s ∧ s < 2147483647
/-- the pool at r has gone on, nothing else has changed -/
structure Adv (r : Nat) (S S' : Store) : Prop where
  src : Src S' r
  len : S'.length = S.length
  oth : ∀ j, j ≠ r → S'[j]? = S[j]?
theorem Adv.trans {r : Nat} {A B C : Store} (h : Adv r A B) (h' : Adv r B C) : Adv r A C := ⟨h'.src, h'.len.trans h.len, fun j hj => (h'.oth j hj).trans (h.oth j hj)⟩
theorem Adv.refl {r : Nat} {S : Store} (h : Src S r) : Adv r S S := ⟨h, rfl, fun _ _ => rfl⟩
theorem log_lt {n k : Nat} (h : n < 2 ^ k) : n.log2 ≤ k := by
  by_cases h0 : n = 0
  · subst h0; exact Nat.zero_le _
  · exact Nat.le_of_lt ((Nat.log2_lt h0).mpr h)
theorem mulOk_of {i j : Int} (hi : i.natAbs < 2 ^ 400000) (hj : j.natAbs < 2 ^ 400000) : mulOk i j = true := by
  have a := log_lt hi
  have b := log_lt hj
  exact decide_eq_true (by omega)
theorem small_ {i : Int} (h : i.natAbs < 4294967296) : i.natAbs < 2 ^ 400000 := Nat.lt_of_lt_of_le h (Nat.pow_le_pow_right (n := 2) (i := 32) (by decide) (by decide))
theorem mulOk_s {i j : Int} (hi : i.natAbs < 4294967296) (hj : j.natAbs < 4294967296) : mulOk i j = true := mulOk_of (small_ hi) (small_ hj)
theorem set_0 {S : Store} {r : Nat} {x y e : D} (h : S[r]? = some (.lst [x, y])) : setI (.ref r) (.int 0) e S = .ok .non (S.set r (.lst [e, y])) := by
  unfold setI
  simp [h, ixN]
theorem set_1 {S : Store} {r : Nat} {x y e : D} (h : S[r]? = some (.lst [x, y])) : setI (.ref r) (.int 1) e S = .ok .non (S.set r (.lst [x, e])) := by
  unfold setI
  simp [h, ixN]
theorem draw_core {G : Gv} {r : Nat} {S : Store} {m : Int} (hS : Src S r) (h0 : 0 < m) (h1 : m.natAbs < 2 ^ 8000) :
    ∃ (g : Int) (S' : Store), outR (ex G drawC [some (.ref r), some (.int m), none] S) = .ok (.int g) S' ∧ 0 ≤ g ∧ g < m ∧ Adv r S S' := by
  obtain ⟨n, s, hS, hs0, hs1⟩ := hS
  have hl : r < S.length := (List.getElem?_eq_some_iff.mp hS).1
  have hm2 : m.natAbs.log2 < 9000 := Nat.lt_of_le_of_lt (log_lt h1) (by decide)
  have adv : ∀ n' s' : Int, 0 ≤ s' → s' < 2147483647 → Adv r S (S.set r (.lst [.int n', .int s'])) := fun n' s' a b =>
    ⟨⟨n', s', List.getElem?_set_self hl, a, b⟩, by simp, fun j hj => List.getElem?_set_ne (Ne.symm hj)⟩
  by_cases hn : 0 < n
  · refine ⟨n % m, S.set r (.lst [.int (n / m), .int s]), ?_, Int.emod_nonneg _ (by omega), Int.emod_lt_of_pos _ h0, adv _ _ hs0 hs1⟩
    have q : unD (ap [.out] (.s (ex G drawC [some (.ref r), some (.int m), none] S))) = .ok (.int (n % m)) (S.set r (.lst [.int (n / m), .int s])) := by
      (simp only [drawC, w_var, k_get, v_con, v_glob, k_opt, k_bnd, f_nil, g_one, g_two, g_three, g_four, g_deep, p_nil, p_one, p_two, s_nil, o_nil, t_nil, x_nil, w_hnam, w_hbar, w_eget, w_eis, w_new, w_case, m_nil, km_some, km_none, km_ite, ms_one, ms_seq, ms_nil, ms_c, msr_s, msr_n, msr_i, mq_wild, mq_cap, mq_str, mq_int, ci_fix, fi_fix, n_lrng, q_frz, q_frzA, E_bin, E_neg, E_not, E_and, E_or, E_ite, E_cmp, E_chain, E_tup, E_lst, E_call, E_callk, E_bi, E_isi, E_idx, E_sl, E_rev, E_comp, E_comp2, E_fld, E_mcall, E_newk, E_iso, E_isit, E_lrng, E_lset, E_sset, E_app, E_frz, S_var, S_con, S_glob, S_bin, S_neg, S_not, S_and, S_or, S_ite, S_cmp, S_chain, S_tup, S_lst, S_dct, S_call, S_callk, S_bi, S_isi, S_idx, S_sl, S_rev, S_comp, S_eget, S_eis, S_app, S_frz, S_fld, S_mcall, S_new, S_newk, S_iso, S_isit, S_lrng, S_lset, S_sset, S_comp2, S_star, O_cons, T_not, T_and, T_or, T_tst, T_cmp, T_chain, T_ch3, I_rng, I_enum, I_zip, I_tst, X_set, X_stI, X_stA, X_match, X_expr, X_ret, X_ifs, X_for, X_raise, X_try, Q_set, Q_stI, Q_expr, Q_ifs, Q_for, Q_while, Q_try, Q_stA, Q_match, Q_ret, Q_raise, K_bin1, K_bin2, K_neg, K_not, K_cmp1, K_cmp2, K_ch1, K_idx1, K_ix2, K_sl1, K_sl2, K_sl3, K_rev, K_isi, K_app2, K_frz, K_con1, K_con2, K_star2, K_tup, K_lst, K_call, K_ck1, K_ck2, K_bi, K_comp1, K_rng1, K_rng2, K_enum, K_zip1, K_zip2, K_itst, K_tst, K_tcmp1, K_tcmp2, K_tch1, K_tnot, K_oc, K_set, K_stI1, K_stI2, K_stI3, K_expr, K_ret, K_for, K_comp21, K_fld, K_mc1, K_mc2, K_new, K_nk1, K_nk2, K_newF, K_newT, K_newX, K_iso, K_isit, K_lrng1, K_lrng2, K_lset, K_sset, K_t31, K_t32, K_t33, K_stA1, K_stA2, K_mat, K_seq, K_seqRt, K_seqX, K_seqB, K_seqC, K_raise, K_try, K_tryN, K_tryX, K_hret, K_loop, K_loopC, K_loopB, K_loopR, K_loopX, K_outN, K_outR, K_outX, X_bin1X, X_bin2X, X_negX, X_notX, X_and1X, X_or1X, X_cmp1X, X_cmp2X, X_ch1X, X_ch2X, X_idx1X, X_ix2X, X_sl1X, X_sl2X, X_sl3X, X_revX, X_isiX, X_app1X, X_app2X, X_frzX, X_con1X, X_con2X, X_star1X, X_star2X, X_tupX, X_lstX, X_callX, X_ck1X, X_ck2X, X_biX, X_comp1X, X_rng1X, X_rng2X, X_enumX, X_zip1X, X_zip2X, X_itstX, X_tcmp1X, X_tcmp2X, X_tch1X, X_tch2X, X_tnotX, X_tandX, X_torX, X_iteX, X_ocX, X_setX, X_stI1X, X_stI2X, X_stI3X, X_exprX, X_retX, X_ifsX, X_for_X, X_raiseX, X_comp21X, X_fldX, X_mc1X, X_mc2X, X_newX, X_nk1X, X_nk2X, X_isoX, X_isitX, X_lrng1X, X_lrng2X, X_lsetX, X_ssetX, X_t31X, X_t32X, X_t33X, X_stA1X, X_stA2X, X_matX, X_tstX, K_tand, K_tor, K_ite, K_ifs, K_and1, K_or1, K_ch2, K_tch2, K_starT, K_starL, K_app1, B_star, B_cmp, B_tcmp, B_app, B_mc, B_new, B_t3, B_iteI, B_iteD, B_iteB, B_iteL, B_iteS, B_ret, B_out, B_for, U_d, a_addI, a_subI, a_mulI, a_divI, a_modI, a_powI, a_addL, a_addT, a_mulL, t_blD, t_intD, t_nonD, t_tupD, t_lstD, m_ltI, m_leI, m_gtI, m_geI, m_eqI, m_neI, m_eqS, m_neS, m_isB, m_isnB, m_isN, m_isnN, m_eqT2, m_neT2, ob_s, od_s, l_newF, l_newT, n_int, n_rng, n_enum, i_tup, i_lst, i_scr, ii_tup, ii_lst, sq_tup, sq_lst, at_0, at_1, at_2, at_3, b_len1, b_len2, b_len3, b_max2, b_min2, b_abs, b_intB, b_intI, b_repr, b_all, b_any, List.getElem?_cons_zero, List.getElem?_cons_succ, List.set_cons_zero, List.set_cons_succ, if_true, if_false, Bool.not_true, Bool.not_false, Bool.false_eq_true, fits_1, List.length_cons, List.length_nil, List.cons_append, List.nil_append, List.append_nil, k_bind, k_bindX, ↓reduceIte, Nat.reduceLeDiff, Nat.reduceAdd, Nat.reduceEqDiff, Int.reduceEq, Int.reduceNeg, Int.reduceLT, Int.reduceLE, Int.reduceAdd, Int.reduceSub, Int.reduceMul, Int.reduceNe, Nat.reduceMul, Nat.reduceLT, Int.cast_ofNat_Int, decide_true, decide_false, Bool.and_true, Bool.true_and, Bool.false_and, Bool.and_false, eq_self, Bool.or_true, Bool.or_false, Bool.true_or, Bool.false_or, i_cell S hS, hn, h0, hm2, set_0 hS])
    exact q
  · have k1 : mulOk s 48271 = true := mulOk_s (by omega) (by decide)
    have ht0 : 0 ≤ (s * 48271 + 11) % 2147483647 := Int.emod_nonneg _ (by decide)
    have ht1 : (s * 48271 + 11) % 2147483647 < 2147483647 := Int.emod_lt_of_pos _ (by decide)
    refine ⟨(s * 48271 + 11) % 2147483647 * ((s * 48271 + 11) % 2147483647) % 2147483629 / 64 % m, S.set r (.lst [.int n, .int ((s * 48271 + 11) % 2147483647)]), ?_, Int.emod_nonneg _ (by omega), Int.emod_lt_of_pos _ h0, adv _ _ ht0 ht1⟩
    generalize ht : (s * 48271 + 11) % 2147483647 = t at ht0 ht1 ⊢
    have k2 : mulOk t t = true := mulOk_s (by omega) (by omega)
    have l64 : ((64 : Int).natAbs.log2 < 9000) = True := eq_true (by decide +kernel)
    have hS2 : (S.set r (.lst [.int n, .int t]))[r]? = some (.lst [.int n, .int t]) := List.getElem?_set_self hl
    have q : unD (ap [.out] (.s (ex G drawC [some (.ref r), some (.int m), none] S))) = .ok (.int (t * t % 2147483629 / 64 % m)) (S.set r (.lst [.int n, .int t])) := by
      (simp only [drawC, w_var, k_get, v_con, v_glob, k_opt, k_bnd, f_nil, g_one, g_two, g_three, g_four, g_deep, p_nil, p_one, p_two, s_nil, o_nil, t_nil, x_nil, w_hnam, w_hbar, w_eget, w_eis, w_new, w_case, m_nil, km_some, km_none, km_ite, ms_one, ms_seq, ms_nil, ms_c, msr_s, msr_n, msr_i, mq_wild, mq_cap, mq_str, mq_int, ci_fix, fi_fix, n_lrng, q_frz, q_frzA, E_bin, E_neg, E_not, E_and, E_or, E_ite, E_cmp, E_chain, E_tup, E_lst, E_call, E_callk, E_bi, E_isi, E_idx, E_sl, E_rev, E_comp, E_comp2, E_fld, E_mcall, E_newk, E_iso, E_isit, E_lrng, E_lset, E_sset, E_app, E_frz, S_var, S_con, S_glob, S_bin, S_neg, S_not, S_and, S_or, S_ite, S_cmp, S_chain, S_tup, S_lst, S_dct, S_call, S_callk, S_bi, S_isi, S_idx, S_sl, S_rev, S_comp, S_eget, S_eis, S_app, S_frz, S_fld, S_mcall, S_new, S_newk, S_iso, S_isit, S_lrng, S_lset, S_sset, S_comp2, S_star, O_cons, T_not, T_and, T_or, T_tst, T_cmp, T_chain, T_ch3, I_rng, I_enum, I_zip, I_tst, X_set, X_stI, X_stA, X_match, X_expr, X_ret, X_ifs, X_for, X_raise, X_try, Q_set, Q_stI, Q_expr, Q_ifs, Q_for, Q_while, Q_try, Q_stA, Q_match, Q_ret, Q_raise, K_bin1, K_bin2, K_neg, K_not, K_cmp1, K_cmp2, K_ch1, K_idx1, K_ix2, K_sl1, K_sl2, K_sl3, K_rev, K_isi, K_app2, K_frz, K_con1, K_con2, K_star2, K_tup, K_lst, K_call, K_ck1, K_ck2, K_bi, K_comp1, K_rng1, K_rng2, K_enum, K_zip1, K_zip2, K_itst, K_tst, K_tcmp1, K_tcmp2, K_tch1, K_tnot, K_oc, K_set, K_stI1, K_stI2, K_stI3, K_expr, K_ret, K_for, K_comp21, K_fld, K_mc1, K_mc2, K_new, K_nk1, K_nk2, K_newF, K_newT, K_newX, K_iso, K_isit, K_lrng1, K_lrng2, K_lset, K_sset, K_t31, K_t32, K_t33, K_stA1, K_stA2, K_mat, K_seq, K_seqRt, K_seqX, K_seqB, K_seqC, K_raise, K_try, K_tryN, K_tryX, K_hret, K_loop, K_loopC, K_loopB, K_loopR, K_loopX, K_outN, K_outR, K_outX, X_bin1X, X_bin2X, X_negX, X_notX, X_and1X, X_or1X, X_cmp1X, X_cmp2X, X_ch1X, X_ch2X, X_idx1X, X_ix2X, X_sl1X, X_sl2X, X_sl3X, X_revX, X_isiX, X_app1X, X_app2X, X_frzX, X_con1X, X_con2X, X_star1X, X_star2X, X_tupX, X_lstX, X_callX, X_ck1X, X_ck2X, X_biX, X_comp1X, X_rng1X, X_rng2X, X_enumX, X_zip1X, X_zip2X, X_itstX, X_tcmp1X, X_tcmp2X, X_tch1X, X_tch2X, X_tnotX, X_tandX, X_torX, X_iteX, X_ocX, X_setX, X_stI1X, X_stI2X, X_stI3X, X_exprX, X_retX, X_ifsX, X_for_X, X_raiseX, X_comp21X, X_fldX, X_mc1X, X_mc2X, X_newX, X_nk1X, X_nk2X, X_isoX, X_isitX, X_lrng1X, X_lrng2X, X_lsetX, X_ssetX, X_t31X, X_t32X, X_t33X, X_stA1X, X_stA2X, X_matX, X_tstX, K_tand, K_tor, K_ite, K_ifs, K_and1, K_or1, K_ch2, K_tch2, K_starT, K_starL, K_app1, B_star, B_cmp, B_tcmp, B_app, B_mc, B_new, B_t3, B_iteI, B_iteD, B_iteB, B_iteL, B_iteS, B_ret, B_out, B_for, U_d, a_addI, a_subI, a_mulI, a_divI, a_modI, a_powI, a_addL, a_addT, a_mulL, t_blD, t_intD, t_nonD, t_tupD, t_lstD, m_ltI, m_leI, m_gtI, m_geI, m_eqI, m_neI, m_eqS, m_neS, m_isB, m_isnB, m_isN, m_isnN, m_eqT2, m_neT2, ob_s, od_s, l_newF, l_newT, n_int, n_rng, n_enum, i_tup, i_lst, i_scr, ii_tup, ii_lst, sq_tup, sq_lst, at_0, at_1, at_2, at_3, b_len1, b_len2, b_len3, b_max2, b_min2, b_abs, b_intB, b_intI, b_repr, b_all, b_any, List.getElem?_cons_zero, List.getElem?_cons_succ, List.set_cons_zero, List.set_cons_succ, if_true, if_false, Bool.not_true, Bool.not_false, Bool.false_eq_true, fits_1, List.length_cons, List.length_nil, List.cons_append, List.nil_append, List.append_nil, k_bind, k_bindX, ↓reduceIte, Nat.reduceLeDiff, Nat.reduceAdd, Nat.reduceEqDiff, Int.reduceEq, Int.reduceNeg, Int.reduceLT, Int.reduceLE, Int.reduceAdd, Int.reduceSub, Int.reduceMul, Int.reduceNe, Nat.reduceMul, Nat.reduceLT, Int.cast_ofNat_Int, decide_true, decide_false, Bool.and_true, Bool.true_and, Bool.false_and, Bool.and_false, eq_self, Bool.or_true, Bool.or_false, Bool.true_or, Bool.false_or, i_cell S hS, hn, h0, k1, ht, set_1 hS, i_cell _ hS2, k2, l64])
    exact q
theorem pool_core {G : Gv} {S : Store} {ns : List Int} {k : Nat} (hk : k ≤ 1000) :
    ∃ (n s : Int), outR (ex G poolC [some (.scr ns), some (.int (k : Nat)), none, none, none] S) = .ok (.ref S.length) (S ++ [.lst [.int n, .int s]]) ∧ 0 ≤ s ∧ s < 2147483647 := by
  have fin : ∀ c : Int, ∃ (n s : Int), unD (ap [.out] (.s (ex G (.cons (.set (.one 3) (.bi .max (.cons (.var 2) (.cons (.bin .sub (.neg (.con (.int 1))) (.var 2)) .nil)))) (.cons (.set (.one 4) (.bin .mod (.bin .add (.bin .add (.bin .mul (.bin .mod (.var 3) (.con (.int 2147483629))) (.con (.int 16807))) (.bin .mul (.con (.int 104729)) (.var 1))) (.con (.int 11))) (.con (.int 2147483647)))) (.cons (.ifs (.tcmp .lt (.var 3) (.bin .pow (.con (.int 10)) (.con (.int 18)))) (.cons (.set (.one 3) (.con (.int 0))) .nil) .nil) (.cons (.ret (.lst true (.cons (.var 3) (.cons (.var 4) .nil)))) .nil)))) [some (.scr ns), some (.int (k : Nat)), some (.int c), none, none] S))) = .ok (.ref S.length) (S ++ [.lst [.int n, .int s]]) ∧ 0 ≤ s ∧ s < 2147483647 := by
    intro c
    have a0 : 0 ≤ (if -1 - c > c then -1 - c else c) % 2147483629 := Int.emod_nonneg _ (by decide)
    have a1 : (if -1 - c > c then -1 - c else c) % 2147483629 < 2147483629 := Int.emod_lt_of_pos _ (by decide)
    generalize hx : (if -1 - c > c then -1 - c else c) = x at a0 a1
    have m1 : mulOk (x % 2147483629) 16807 = true := mulOk_s (by omega) (by decide)
    have m2 : mulOk 104729 (k : Nat) = true := mulOk_s (by decide) (by omega)
    have p1 : ((10 : Int).natAbs < 18446744073709551616) = True := eq_true (by decide)
    have hs0 : 0 ≤ (x % 2147483629 * 16807 + 104729 * (k : Nat) + 11) % 2147483647 := Int.emod_nonneg _ (by decide)
    have hs1 : (x % 2147483629 * 16807 + 104729 * (k : Nat) + 11) % 2147483647 < 2147483647 := Int.emod_lt_of_pos _ (by decide)
    by_cases hc : x < 10 ^ (18 : Int).toNat
    · refine ⟨0, (x % 2147483629 * 16807 + 104729 * (k : Nat) + 11) % 2147483647, ?_, hs0, hs1⟩
      (simp only [w_var, k_get, v_con, v_glob, k_opt, k_bnd, f_nil, g_one, g_two, g_three, g_four, g_deep, p_nil, p_one, p_two, s_nil, o_nil, t_nil, x_nil, w_hnam, w_hbar, w_eget, w_eis, w_new, w_case, m_nil, km_some, km_none, km_ite, ms_one, ms_seq, ms_nil, ms_c, msr_s, msr_n, msr_i, mq_wild, mq_cap, mq_str, mq_int, ci_fix, fi_fix, n_lrng, q_frz, q_frzA, E_bin, E_neg, E_not, E_and, E_or, E_ite, E_cmp, E_chain, E_tup, E_lst, E_call, E_callk, E_bi, E_isi, E_idx, E_sl, E_rev, E_comp, E_comp2, E_fld, E_mcall, E_newk, E_iso, E_isit, E_lrng, E_lset, E_sset, E_app, E_frz, S_var, S_con, S_glob, S_bin, S_neg, S_not, S_and, S_or, S_ite, S_cmp, S_chain, S_tup, S_lst, S_dct, S_call, S_callk, S_bi, S_isi, S_idx, S_sl, S_rev, S_comp, S_eget, S_eis, S_app, S_frz, S_fld, S_mcall, S_new, S_newk, S_iso, S_isit, S_lrng, S_lset, S_sset, S_comp2, S_star, O_cons, T_not, T_and, T_or, T_tst, T_cmp, T_chain, T_ch3, I_rng, I_enum, I_zip, I_tst, X_set, X_stI, X_stA, X_match, X_expr, X_ret, X_ifs, X_for, X_raise, X_try, Q_set, Q_stI, Q_expr, Q_ifs, Q_for, Q_while, Q_try, Q_stA, Q_match, Q_ret, Q_raise, K_bin1, K_bin2, K_neg, K_not, K_cmp1, K_cmp2, K_ch1, K_idx1, K_ix2, K_sl1, K_sl2, K_sl3, K_rev, K_isi, K_app2, K_frz, K_con1, K_con2, K_star2, K_tup, K_lst, K_call, K_ck1, K_ck2, K_bi, K_comp1, K_rng1, K_rng2, K_enum, K_zip1, K_zip2, K_itst, K_tst, K_tcmp1, K_tcmp2, K_tch1, K_tnot, K_oc, K_set, K_stI1, K_stI2, K_stI3, K_expr, K_ret, K_for, K_comp21, K_fld, K_mc1, K_mc2, K_new, K_nk1, K_nk2, K_newF, K_newT, K_newX, K_iso, K_isit, K_lrng1, K_lrng2, K_lset, K_sset, K_t31, K_t32, K_t33, K_stA1, K_stA2, K_mat, K_seq, K_seqRt, K_seqX, K_seqB, K_seqC, K_raise, K_try, K_tryN, K_tryX, K_hret, K_loop, K_loopC, K_loopB, K_loopR, K_loopX, K_outN, K_outR, K_outX, X_bin1X, X_bin2X, X_negX, X_notX, X_and1X, X_or1X, X_cmp1X, X_cmp2X, X_ch1X, X_ch2X, X_idx1X, X_ix2X, X_sl1X, X_sl2X, X_sl3X, X_revX, X_isiX, X_app1X, X_app2X, X_frzX, X_con1X, X_con2X, X_star1X, X_star2X, X_tupX, X_lstX, X_callX, X_ck1X, X_ck2X, X_biX, X_comp1X, X_rng1X, X_rng2X, X_enumX, X_zip1X, X_zip2X, X_itstX, X_tcmp1X, X_tcmp2X, X_tch1X, X_tch2X, X_tnotX, X_tandX, X_torX, X_iteX, X_ocX, X_setX, X_stI1X, X_stI2X, X_stI3X, X_exprX, X_retX, X_ifsX, X_for_X, X_raiseX, X_comp21X, X_fldX, X_mc1X, X_mc2X, X_newX, X_nk1X, X_nk2X, X_isoX, X_isitX, X_lrng1X, X_lrng2X, X_lsetX, X_ssetX, X_t31X, X_t32X, X_t33X, X_stA1X, X_stA2X, X_matX, X_tstX, K_tand, K_tor, K_ite, K_ifs, K_and1, K_or1, K_ch2, K_tch2, K_starT, K_starL, K_app1, B_star, B_cmp, B_tcmp, B_app, B_mc, B_new, B_t3, B_iteI, B_iteD, B_iteB, B_iteL, B_iteS, B_ret, B_out, B_for, U_d, a_addI, a_subI, a_mulI, a_divI, a_modI, a_powI, a_addL, a_addT, a_mulL, t_blD, t_intD, t_nonD, t_tupD, t_lstD, m_ltI, m_leI, m_gtI, m_geI, m_eqI, m_neI, m_eqS, m_neS, m_isB, m_isnB, m_isN, m_isnN, m_eqT2, m_neT2, ob_s, od_s, l_newF, l_newT, n_int, n_rng, n_enum, i_tup, i_lst, i_scr, ii_tup, ii_lst, sq_tup, sq_lst, at_0, at_1, at_2, at_3, b_len1, b_len2, b_len3, b_max2, b_min2, b_abs, b_intB, b_intI, b_repr, b_all, b_any, List.getElem?_cons_zero, List.getElem?_cons_succ, List.set_cons_zero, List.set_cons_succ, if_true, if_false, Bool.not_true, Bool.not_false, Bool.false_eq_true, fits_1, List.length_cons, List.length_nil, List.cons_append, List.nil_append, List.append_nil, k_bind, k_bindX, ↓reduceIte, Nat.reduceLeDiff, Nat.reduceAdd, Nat.reduceEqDiff, Int.reduceEq, Int.reduceNeg, Int.reduceLT, Int.reduceLE, Int.reduceAdd, Int.reduceSub, Int.reduceMul, Int.reduceNe, Nat.reduceMul, Nat.reduceLT, Int.cast_ofNat_Int, decide_true, decide_false, Bool.and_true, Bool.true_and, Bool.false_and, Bool.and_false, eq_self, Bool.or_true, Bool.or_false, Bool.true_or, Bool.false_or, hx, m1, m2, p1, hc])
    · refine ⟨x, (x % 2147483629 * 16807 + 104729 * (k : Nat) + 11) % 2147483647, ?_, hs0, hs1⟩
      (simp only [w_var, k_get, v_con, v_glob, k_opt, k_bnd, f_nil, g_one, g_two, g_three, g_four, g_deep, p_nil, p_one, p_two, s_nil, o_nil, t_nil, x_nil, w_hnam, w_hbar, w_eget, w_eis, w_new, w_case, m_nil, km_some, km_none, km_ite, ms_one, ms_seq, ms_nil, ms_c, msr_s, msr_n, msr_i, mq_wild, mq_cap, mq_str, mq_int, ci_fix, fi_fix, n_lrng, q_frz, q_frzA, E_bin, E_neg, E_not, E_and, E_or, E_ite, E_cmp, E_chain, E_tup, E_lst, E_call, E_callk, E_bi, E_isi, E_idx, E_sl, E_rev, E_comp, E_comp2, E_fld, E_mcall, E_newk, E_iso, E_isit, E_lrng, E_lset, E_sset, E_app, E_frz, S_var, S_con, S_glob, S_bin, S_neg, S_not, S_and, S_or, S_ite, S_cmp, S_chain, S_tup, S_lst, S_dct, S_call, S_callk, S_bi, S_isi, S_idx, S_sl, S_rev, S_comp, S_eget, S_eis, S_app, S_frz, S_fld, S_mcall, S_new, S_newk, S_iso, S_isit, S_lrng, S_lset, S_sset, S_comp2, S_star, O_cons, T_not, T_and, T_or, T_tst, T_cmp, T_chain, T_ch3, I_rng, I_enum, I_zip, I_tst, X_set, X_stI, X_stA, X_match, X_expr, X_ret, X_ifs, X_for, X_raise, X_try, Q_set, Q_stI, Q_expr, Q_ifs, Q_for, Q_while, Q_try, Q_stA, Q_match, Q_ret, Q_raise, K_bin1, K_bin2, K_neg, K_not, K_cmp1, K_cmp2, K_ch1, K_idx1, K_ix2, K_sl1, K_sl2, K_sl3, K_rev, K_isi, K_app2, K_frz, K_con1, K_con2, K_star2, K_tup, K_lst, K_call, K_ck1, K_ck2, K_bi, K_comp1, K_rng1, K_rng2, K_enum, K_zip1, K_zip2, K_itst, K_tst, K_tcmp1, K_tcmp2, K_tch1, K_tnot, K_oc, K_set, K_stI1, K_stI2, K_stI3, K_expr, K_ret, K_for, K_comp21, K_fld, K_mc1, K_mc2, K_new, K_nk1, K_nk2, K_newF, K_newT, K_newX, K_iso, K_isit, K_lrng1, K_lrng2, K_lset, K_sset, K_t31, K_t32, K_t33, K_stA1, K_stA2, K_mat, K_seq, K_seqRt, K_seqX, K_seqB, K_seqC, K_raise, K_try, K_tryN, K_tryX, K_hret, K_loop, K_loopC, K_loopB, K_loopR, K_loopX, K_outN, K_outR, K_outX, X_bin1X, X_bin2X, X_negX, X_notX, X_and1X, X_or1X, X_cmp1X, X_cmp2X, X_ch1X, X_ch2X, X_idx1X, X_ix2X, X_sl1X, X_sl2X, X_sl3X, X_revX, X_isiX, X_app1X, X_app2X, X_frzX, X_con1X, X_con2X, X_star1X, X_star2X, X_tupX, X_lstX, X_callX, X_ck1X, X_ck2X, X_biX, X_comp1X, X_rng1X, X_rng2X, X_enumX, X_zip1X, X_zip2X, X_itstX, X_tcmp1X, X_tcmp2X, X_tch1X, X_tch2X, X_tnotX, X_tandX, X_torX, X_iteX, X_ocX, X_setX, X_stI1X, X_stI2X, X_stI3X, X_exprX, X_retX, X_ifsX, X_for_X, X_raiseX, X_comp21X, X_fldX, X_mc1X, X_mc2X, X_newX, X_nk1X, X_nk2X, X_isoX, X_isitX, X_lrng1X, X_lrng2X, X_lsetX, X_ssetX, X_t31X, X_t32X, X_t33X, X_stA1X, X_stA2X, X_matX, X_tstX, K_tand, K_tor, K_ite, K_ifs, K_and1, K_or1, K_ch2, K_tch2, K_starT, K_starL, K_app1, B_star, B_cmp, B_tcmp, B_app, B_mc, B_new, B_t3, B_iteI, B_iteD, B_iteB, B_iteL, B_iteS, B_ret, B_out, B_for, U_d, a_addI, a_subI, a_mulI, a_divI, a_modI, a_powI, a_addL, a_addT, a_mulL, t_blD, t_intD, t_nonD, t_tupD, t_lstD, m_ltI, m_leI, m_gtI, m_geI, m_eqI, m_neI, m_eqS, m_neS, m_isB, m_isnB, m_isN, m_isnN, m_eqT2, m_neT2, ob_s, od_s, l_newF, l_newT, n_int, n_rng, n_enum, i_tup, i_lst, i_scr, ii_tup, ii_lst, sq_tup, sq_lst, at_0, at_1, at_2, at_3, b_len1, b_len2, b_len3, b_max2, b_min2, b_abs, b_intB, b_intI, b_repr, b_all, b_any, List.getElem?_cons_zero, List.getElem?_cons_succ, List.set_cons_zero, List.set_cons_succ, if_true, if_false, Bool.not_true, Bool.not_false, Bool.false_eq_true, fits_1, List.length_cons, List.length_nil, List.cons_append, List.nil_append, List.append_nil, k_bind, k_bindX, ↓reduceIte, Nat.reduceLeDiff, Nat.reduceAdd, Nat.reduceEqDiff, Int.reduceEq, Int.reduceNeg, Int.reduceLT, Int.reduceLE, Int.reduceAdd, Int.reduceSub, Int.reduceMul, Int.reduceNe, Nat.reduceMul, Nat.reduceLT, Int.cast_ofNat_Int, decide_true, decide_false, Bool.and_true, Bool.true_and, Bool.false_and, Bool.and_false, eq_self, Bool.or_true, Bool.or_false, Bool.true_or, Bool.false_or, hx, m1, m2, p1, hc])
  by_cases hlt : k < ns.length
  · obtain ⟨n, s, h1, h2⟩ := fin ns[k]
    refine ⟨n, s, ?_, h2⟩
    have hat : atI ns (k : Nat) = some ns[k] := at_nat (by omega) (by rw [Int.toNat_natCast]; exact List.getElem?_eq_getElem hlt)
    have hi : ((k : Nat) : Int) < (ns.length : Nat) := by omega
    have q : unD (ap [.out] (.s (ex G poolC [some (.scr ns), some (.int (k : Nat)), none, none, none] S))) = .ok (.ref S.length) (S ++ [.lst [.int n, .int s]]) := by
      rw [← h1]
      (simp only [poolC, w_var, k_get, v_con, v_glob, k_opt, k_bnd, f_nil, g_one, g_two, g_three, g_four, g_deep, p_nil, p_one, p_two, s_nil, o_nil, t_nil, x_nil, w_hnam, w_hbar, w_eget, w_eis, w_new, w_case, m_nil, km_some, km_none, km_ite, ms_one, ms_seq, ms_nil, ms_c, msr_s, msr_n, msr_i, mq_wild, mq_cap, mq_str, mq_int, ci_fix, fi_fix, n_lrng, q_frz, q_frzA, E_bin, E_neg, E_not, E_and, E_or, E_ite, E_cmp, E_chain, E_tup, E_lst, E_call, E_callk, E_bi, E_isi, E_idx, E_sl, E_rev, E_comp, E_comp2, E_fld, E_mcall, E_newk, E_iso, E_isit, E_lrng, E_lset, E_sset, E_app, E_frz, S_var, S_con, S_glob, S_bin, S_neg, S_not, S_and, S_or, S_ite, S_cmp, S_chain, S_tup, S_lst, S_dct, S_call, S_callk, S_bi, S_isi, S_idx, S_sl, S_rev, S_comp, S_eget, S_eis, S_app, S_frz, S_fld, S_mcall, S_new, S_newk, S_iso, S_isit, S_lrng, S_lset, S_sset, S_comp2, S_star, O_cons, T_not, T_and, T_or, T_tst, T_cmp, T_chain, T_ch3, I_rng, I_enum, I_zip, I_tst, X_set, X_stI, X_stA, X_match, X_expr, X_ret, X_ifs, X_for, X_raise, X_try, Q_set, Q_stI, Q_expr, Q_ifs, Q_for, Q_while, Q_try, Q_stA, Q_match, Q_ret, Q_raise, K_bin1, K_bin2, K_neg, K_not, K_cmp1, K_cmp2, K_ch1, K_idx1, K_ix2, K_sl1, K_sl2, K_sl3, K_rev, K_isi, K_app2, K_frz, K_con1, K_con2, K_star2, K_tup, K_lst, K_call, K_ck1, K_ck2, K_bi, K_comp1, K_rng1, K_rng2, K_enum, K_zip1, K_zip2, K_itst, K_tst, K_tcmp1, K_tcmp2, K_tch1, K_tnot, K_oc, K_set, K_stI1, K_stI2, K_stI3, K_expr, K_ret, K_for, K_comp21, K_fld, K_mc1, K_mc2, K_new, K_nk1, K_nk2, K_newF, K_newT, K_newX, K_iso, K_isit, K_lrng1, K_lrng2, K_lset, K_sset, K_t31, K_t32, K_t33, K_stA1, K_stA2, K_mat, K_seq, K_seqRt, K_seqX, K_seqB, K_seqC, K_raise, K_try, K_tryN, K_tryX, K_hret, K_loop, K_loopC, K_loopB, K_loopR, K_loopX, K_outN, K_outR, K_outX, X_bin1X, X_bin2X, X_negX, X_notX, X_and1X, X_or1X, X_cmp1X, X_cmp2X, X_ch1X, X_ch2X, X_idx1X, X_ix2X, X_sl1X, X_sl2X, X_sl3X, X_revX, X_isiX, X_app1X, X_app2X, X_frzX, X_con1X, X_con2X, X_star1X, X_star2X, X_tupX, X_lstX, X_callX, X_ck1X, X_ck2X, X_biX, X_comp1X, X_rng1X, X_rng2X, X_enumX, X_zip1X, X_zip2X, X_itstX, X_tcmp1X, X_tcmp2X, X_tch1X, X_tch2X, X_tnotX, X_tandX, X_torX, X_iteX, X_ocX, X_setX, X_stI1X, X_stI2X, X_stI3X, X_exprX, X_retX, X_ifsX, X_for_X, X_raiseX, X_comp21X, X_fldX, X_mc1X, X_mc2X, X_newX, X_nk1X, X_nk2X, X_isoX, X_isitX, X_lrng1X, X_lrng2X, X_lsetX, X_ssetX, X_t31X, X_t32X, X_t33X, X_stA1X, X_stA2X, X_matX, X_tstX, K_tand, K_tor, K_ite, K_ifs, K_and1, K_or1, K_ch2, K_tch2, K_starT, K_starL, K_app1, B_star, B_cmp, B_tcmp, B_app, B_mc, B_new, B_t3, B_iteI, B_iteD, B_iteB, B_iteL, B_iteS, B_ret, B_out, B_for, U_d, a_addI, a_subI, a_mulI, a_divI, a_modI, a_powI, a_addL, a_addT, a_mulL, t_blD, t_intD, t_nonD, t_tupD, t_lstD, m_ltI, m_leI, m_gtI, m_geI, m_eqI, m_neI, m_eqS, m_neS, m_isB, m_isnB, m_isN, m_isnN, m_eqT2, m_neT2, ob_s, od_s, l_newF, l_newT, n_int, n_rng, n_enum, i_tup, i_lst, i_scr, ii_tup, ii_lst, sq_tup, sq_lst, at_0, at_1, at_2, at_3, b_len1, b_len2, b_len3, b_max2, b_min2, b_abs, b_intB, b_intI, b_repr, b_all, b_any, List.getElem?_cons_zero, List.getElem?_cons_succ, List.set_cons_zero, List.set_cons_succ, if_true, if_false, Bool.not_true, Bool.not_false, Bool.false_eq_true, fits_1, List.length_cons, List.length_nil, List.cons_append, List.nil_append, List.append_nil, k_bind, k_bindX, ↓reduceIte, Nat.reduceLeDiff, Nat.reduceAdd, Nat.reduceEqDiff, Int.reduceEq, Int.reduceNeg, Int.reduceLT, Int.reduceLE, Int.reduceAdd, Int.reduceSub, Int.reduceMul, Int.reduceNe, Nat.reduceMul, Nat.reduceLT, Int.cast_ofNat_Int, decide_true, decide_false, Bool.and_true, Bool.true_and, Bool.false_and, Bool.and_false, eq_self, Bool.or_true, Bool.or_false, Bool.true_or, Bool.false_or, hat, hi])
    exact q
  · obtain ⟨n, s, h1, h2⟩ := fin 0
    refine ⟨n, s, ?_, h2⟩
    have hi : ¬ (((k : Nat) : Int) < (ns.length : Nat)) := by omega
    have q : unD (ap [.out] (.s (ex G poolC [some (.scr ns), some (.int (k : Nat)), none, none, none] S))) = .ok (.ref S.length) (S ++ [.lst [.int n, .int s]]) := by
      rw [← h1]
      (simp only [poolC, w_var, k_get, v_con, v_glob, k_opt, k_bnd, f_nil, g_one, g_two, g_three, g_four, g_deep, p_nil, p_one, p_two, s_nil, o_nil, t_nil, x_nil, w_hnam, w_hbar, w_eget, w_eis, w_new, w_case, m_nil, km_some, km_none, km_ite, ms_one, ms_seq, ms_nil, ms_c, msr_s, msr_n, msr_i, mq_wild, mq_cap, mq_str, mq_int, ci_fix, fi_fix, n_lrng, q_frz, q_frzA, E_bin, E_neg, E_not, E_and, E_or, E_ite, E_cmp, E_chain, E_tup, E_lst, E_call, E_callk, E_bi, E_isi, E_idx, E_sl, E_rev, E_comp, E_comp2, E_fld, E_mcall, E_newk, E_iso, E_isit, E_lrng, E_lset, E_sset, E_app, E_frz, S_var, S_con, S_glob, S_bin, S_neg, S_not, S_and, S_or, S_ite, S_cmp, S_chain, S_tup, S_lst, S_dct, S_call, S_callk, S_bi, S_isi, S_idx, S_sl, S_rev, S_comp, S_eget, S_eis, S_app, S_frz, S_fld, S_mcall, S_new, S_newk, S_iso, S_isit, S_lrng, S_lset, S_sset, S_comp2, S_star, O_cons, T_not, T_and, T_or, T_tst, T_cmp, T_chain, T_ch3, I_rng, I_enum, I_zip, I_tst, X_set, X_stI, X_stA, X_match, X_expr, X_ret, X_ifs, X_for, X_raise, X_try, Q_set, Q_stI, Q_expr, Q_ifs, Q_for, Q_while, Q_try, Q_stA, Q_match, Q_ret, Q_raise, K_bin1, K_bin2, K_neg, K_not, K_cmp1, K_cmp2, K_ch1, K_idx1, K_ix2, K_sl1, K_sl2, K_sl3, K_rev, K_isi, K_app2, K_frz, K_con1, K_con2, K_star2, K_tup, K_lst, K_call, K_ck1, K_ck2, K_bi, K_comp1, K_rng1, K_rng2, K_enum, K_zip1, K_zip2, K_itst, K_tst, K_tcmp1, K_tcmp2, K_tch1, K_tnot, K_oc, K_set, K_stI1, K_stI2, K_stI3, K_expr, K_ret, K_for, K_comp21, K_fld, K_mc1, K_mc2, K_new, K_nk1, K_nk2, K_newF, K_newT, K_newX, K_iso, K_isit, K_lrng1, K_lrng2, K_lset, K_sset, K_t31, K_t32, K_t33, K_stA1, K_stA2, K_mat, K_seq, K_seqRt, K_seqX, K_seqB, K_seqC, K_raise, K_try, K_tryN, K_tryX, K_hret, K_loop, K_loopC, K_loopB, K_loopR, K_loopX, K_outN, K_outR, K_outX, X_bin1X, X_bin2X, X_negX, X_notX, X_and1X, X_or1X, X_cmp1X, X_cmp2X, X_ch1X, X_ch2X, X_idx1X, X_ix2X, X_sl1X, X_sl2X, X_sl3X, X_revX, X_isiX, X_app1X, X_app2X, X_frzX, X_con1X, X_con2X, X_star1X, X_star2X, X_tupX, X_lstX, X_callX, X_ck1X, X_ck2X, X_biX, X_comp1X, X_rng1X, X_rng2X, X_enumX, X_zip1X, X_zip2X, X_itstX, X_tcmp1X, X_tcmp2X, X_tch1X, X_tch2X, X_tnotX, X_tandX, X_torX, X_iteX, X_ocX, X_setX, X_stI1X, X_stI2X, X_stI3X, X_exprX, X_retX, X_ifsX, X_for_X, X_raiseX, X_comp21X, X_fldX, X_mc1X, X_mc2X, X_newX, X_nk1X, X_nk2X, X_isoX, X_isitX, X_lrng1X, X_lrng2X, X_lsetX, X_ssetX, X_t31X, X_t32X, X_t33X, X_stA1X, X_stA2X, X_matX, X_tstX, K_tand, K_tor, K_ite, K_ifs, K_and1, K_or1, K_ch2, K_tch2, K_starT, K_starL, K_app1, B_star, B_cmp, B_tcmp, B_app, B_mc, B_new, B_t3, B_iteI, B_iteD, B_iteB, B_iteL, B_iteS, B_ret, B_out, B_for, U_d, a_addI, a_subI, a_mulI, a_divI, a_modI, a_powI, a_addL, a_addT, a_mulL, t_blD, t_intD, t_nonD, t_tupD, t_lstD, m_ltI, m_leI, m_gtI, m_geI, m_eqI, m_neI, m_eqS, m_neS, m_isB, m_isnB, m_isN, m_isnN, m_eqT2, m_neT2, ob_s, od_s, l_newF, l_newT, n_int, n_rng, n_enum, i_tup, i_lst, i_scr, ii_tup, ii_lst, sq_tup, sq_lst, at_0, at_1, at_2, at_3, b_len1, b_len2, b_len3, b_max2, b_min2, b_abs, b_intB, b_intI, b_repr, b_all, b_any, List.getElem?_cons_zero, List.getElem?_cons_succ, List.set_cons_zero, List.set_cons_succ, if_true, if_false, Bool.not_true, Bool.not_false, Bool.false_eq_true, fits_1, List.length_cons, List.length_nil, List.cons_append, List.nil_append, List.append_nil, k_bind, k_bindX, ↓reduceIte, Nat.reduceLeDiff, Nat.reduceAdd, Nat.reduceEqDiff, Int.reduceEq, Int.reduceNeg, Int.reduceLT, Int.reduceLE, Int.reduceAdd, Int.reduceSub, Int.reduceMul, Int.reduceNe, Nat.reduceMul, Nat.reduceLT, Int.cast_ofNat_Int, decide_true, decide_false, Bool.and_true, Bool.true_and, Bool.false_and, Bool.and_false, eq_self, Bool.or_true, Bool.or_false, Bool.true_or, Bool.false_or, hi])
    exact q
theorem Src.new {S : Store} {n s : Int} (h0 : 0 ≤ s) (h1 : s < 2147483647) : Src (S ++ [.lst [.int n, .int s]]) S.length :=
  ⟨n, s, by rw [List.getElem?_append_right (Nat.le_refl _)]; simp, h0, h1⟩
end PV

namespace PV
open PySem L2
/-! comprehensions and lists of words, in plain -/
theorem comp_mapA {α : Type} {tg : Tg} {cnd : Env → Store → R Bool} {elt : F} {δ : Env} {S : Store} (g f : α → D) : ∀ (l : List α), (∀ a ∈ l, ∃ δ1, bindT tg (g a) (wipeD δ (slots tg)) = some δ1 ∧ cnd δ1 S = .ok true S ∧ elt δ1 S = .ok (f a) S) → compL tg cnd elt δ (l.map g) S = .ok (l.map f) S
  | [], _ => rfl
  | a :: l, h => by
    obtain ⟨δ1, h1, h2, h3⟩ := h a List.mem_cons_self
    have ih := comp_mapA g f l fun b hb => h b (List.mem_cons_of_mem _ hb)
    show (match bindT tg (g a) (wipeD δ (slots tg)) with
      | none => R.stuck
      | some δ1 => match cnd δ1 S with
        | .ok true S1 => match elt δ1 S1 with
          | .ok e S2 => match compL tg cnd elt δ (l.map g) S2 with
            | .ok es S3 => .ok (e :: es) S3
            | _ => .stuck
          | _ => .stuck
        | .ok false S1 => compL tg cnd elt δ (l.map g) S1
        | _ => .stuck) = _
    rw [h1]
    dsimp only
    rw [h2]
    dsimp only
    rw [h3]
    dsimp only
    rw [ih]
    rfl
/-- a comprehension with a condition -/
theorem comp_filt {α : Type} {tg : Tg} {cnd : Env → Store → R Bool} {elt : F} {δ : Env} {S : Store} (g f : α → D) (p : α → Bool) : ∀ (l : List α), (∀ a ∈ l, ∃ δ1, bindT tg (g a) (wipeD δ (slots tg)) = some δ1 ∧ cnd δ1 S = .ok (p a) S ∧ (p a = true → elt δ1 S = .ok (f a) S)) → compL tg cnd elt δ (l.map g) S = .ok ((l.filter p).map f) S
  | [], _ => rfl
  | a :: l, h => by
    obtain ⟨δ1, h1, h2, h3⟩ := h a List.mem_cons_self
    have ih := comp_filt g f p l fun b hb => h b (List.mem_cons_of_mem _ hb)
    show (match bindT tg (g a) (wipeD δ (slots tg)) with
      | none => R.stuck
      | some δ1 => match cnd δ1 S with
        | .ok true S1 => match elt δ1 S1 with
          | .ok e S2 => match compL tg cnd elt δ (l.map g) S2 with
            | .ok es S3 => .ok (e :: es) S3
            | _ => .stuck
          | _ => .stuck
        | .ok false S1 => compL tg cnd elt δ (l.map g) S1
        | _ => .stuck) = _
    rw [h1]
    dsimp only
    rw [h2, List.filter_cons]
    cases hp : p a with
    | false => dsimp only; rw [ih]; rfl
    | true =>
      dsimp only
      rw [h3 hp]
      dsimp only
      rw [ih]
      rfl
theorem toPs_map {α : Type} (S : Store) (g : α → D) (f : α → PyData) : ∀ (l : List α), (∀ a ∈ l, toP S (g a) = some (f a)) → toPs S (l.map g) = some (l.map f)
  | [], _ => by rw [List.map_nil, List.map_nil]; exact toPs.eq_1 S
  | a :: l, h => by
    rw [List.map_cons, List.map_cons, toPs.eq_2, h a List.mem_cons_self, toPs_map S g f l fun b hb => h b (List.mem_cons_of_mem _ hb)]
theorem canAll_map {α : Type} (f : α → PyData) : ∀ (l : List α), (∀ a ∈ l, (f a).canLay0 = true) → PyData.canLayAll0 (l.map f) = true
  | [], _ => by rw [List.map_nil]; exact PyData.canLayAll0.eq_1
  | a :: l, h => by
    rw [List.map_cons, PyData.canLayAll0.eq_2, h a List.mem_cons_self, canAll_map f l fun b hb => h b (List.mem_cons_of_mem _ hb)]
    rfl
theorem depAll_map {α : Type} (f : α → PyData) (n : Nat) : ∀ (l : List α), (∀ a ∈ l, (f a).depth ≤ n) → PyData.depthAll (l.map f) ≤ n
  | [], _ => by rw [List.map_nil, PyData.depthAll.eq_1]; exact Nat.zero_le _
  | a :: l, h => by
    rw [List.map_cons, PyData.depthAll.eq_2]
    have h1 := h a List.mem_cons_self
    have h2 := depAll_map f n l fun b hb => h b (List.mem_cons_of_mem _ hb)
    omega
theorem shaped_lst {α : Type} (f : α → PyData) (n : Nat) (hn : n ≤ 63) (l : List α) (h : ∀ a ∈ l, (f a).canLay0 = true ∧ (f a).depth ≤ n) : SeqAt.shaped (.list (l.map f)) = true := by
  unfold SeqAt.shaped
  rw [PyData.canLay0.eq_5, canAll_map f l fun a ha => (h a ha).1, PyData.depth.eq_1, Bool.true_and]
  have := depAll_map f n l fun a ha => (h a ha).2
  exact decide_eq_true (by omega)
theorem eqvAll_map {α : Type} [DecidableEq α] (f : α → PyData) : ∀ (l m : List α), (∀ a ∈ l, ∀ b ∈ m, PyData.eqv (f a) (f b) = decide (a = b)) → PyData.eqvAll (l.map f) (m.map f) = decide (l = m)
  | [], [], _ => by rw [List.map_nil, PyData.eqvAll.eq_1]; rfl
  | [], b :: m, _ => by rw [List.map_nil, List.map_cons, PyData.eqvAll.eq_3]; rfl
  | a :: l, [], _ => by rw [List.map_nil, List.map_cons, PyData.eqvAll.eq_4]; rfl
  | a :: l, b :: m, h => by
    rw [List.map_cons, List.map_cons, PyData.eqvAll.eq_2, h a List.mem_cons_self b List.mem_cons_self, eqvAll_map f l m fun x hx y hy => h x (List.mem_cons_of_mem _ hx) y (List.mem_cons_of_mem _ hy)]
    by_cases e : a = b
    · by_cases e2 : l = m <;> simp [e, e2]
    · simp [e]
theorem eqD_lst {α : Type} [DecidableEq α] {S : Store} (g : α → D) (f : α → PyData) (n : Nat) (hn : n ≤ 63) (hg : ∀ a, toP S (g a) = some (f a)) (he : ∀ a b, PyData.eqv (f a) (f b) = decide (a = b)) (l m : List α) (hl : ∀ a ∈ l, (f a).canLay0 = true ∧ (f a).depth ≤ n) (hm : ∀ a ∈ m, (f a).canLay0 = true ∧ (f a).depth ≤ n) :
    eqD S (.lst (l.map g)) (.lst (m.map g)) = some (decide (l = m)) := by
  have e : eqD S (.lst (l.map g)) (.lst (m.map g)) = (match toP S (.lst (l.map g)), toP S (.lst (m.map g)) with
    | some p, some q => if (SeqAt.shaped p && SeqAt.shaped q) = true then some (PyData.eqv p q) else none
    | _, _ => none) := rfl
  have t : ∀ l : List α, toP S (.lst (l.map g)) = some (.list (l.map f)) := fun l => by
    rw [show toP S (.lst (l.map g)) = (toPs S (l.map g)).map .list from rfl, toPs_map S g f l fun a _ => hg a]
    rfl
  rw [e, t, t]
  dsimp only
  rw [shaped_lst f n hn l hl, shaped_lst f n hn m hm]
  show some (PyData.eqv (.list (l.map f)) (.list (m.map f))) = _
  rw [show PyData.eqv (.list (l.map f)) (.list (m.map f)) = PyData.eqvAll (l.map f) (m.map f) from rfl, eqvAll_map f l m fun a _ b _ => he a b]
theorem eqD_strs {S : Store} (l m : List Str) (hl : ∀ a ∈ l, (PyData.str a).canLay0 = true) (hm : ∀ a ∈ m, (PyData.str a).canLay0 = true) : eqD S (.lst (l.map D.str)) (.lst (m.map D.str)) = some (decide (l = m)) :=
  eqD_lst D.str PyData.str 0 (by decide) (fun _ => rfl) (fun a b => by
    show (a == b) = _
    by_cases h : a = b <;> simp [h]) l m (fun a ha => ⟨hl a ha, Nat.le_refl 0⟩) (fun a ha => ⟨hm a ha, Nat.le_refl 0⟩)
theorem eqD_ints {S : Store} (l m : List Int) : eqD S (.lst (l.map D.int)) (.lst (m.map D.int)) = some (decide (l = m)) :=
  eqD_lst D.int PyData.int 0 (by decide) (fun _ => rfl) (fun a b => by
    show (a == b) = _
    by_cases h : a = b <;> simp [h]) l m (fun a ha => ⟨rfl, Nat.le_refl 0⟩) (fun a ha => ⟨rfl, Nat.le_refl 0⟩)
theorem at_mem {α : Type} {l : List α} {g : Int} (h0 : 0 ≤ g) (h1 : g < l.length) : ∃ x, atI l g = some x ∧ x ∈ l := by
  have hl : g.toNat < l.length := by omega
  exact ⟨l[g.toNat], at_nat h0 (List.getElem?_eq_getElem hl), List.getElem_mem hl⟩
theorem rng_at {n : Int} {i : Nat} {x : D} (hx : (rangeD 0 n)[i]? = some x) : x = .int (i : Nat) ∧ (i : Int) < n := by
  unfold rangeD at hx
  rw [List.getElem?_map] at hx
  obtain ⟨j, hj, rfl⟩ := Option.map_eq_some_iff.mp hx
  obtain ⟨h1, h2⟩ := List.getElem?_eq_some_iff.mp hj
  rw [List.getElem_range] at h2
  subst h2
  rw [List.length_range] at h1
  exact ⟨by rw [Int.zero_add], by omega⟩
theorem inR_of {i : Int} (h0 : -4611686018427387904 ≤ i) (h1 : i < 4611686018427387904) : inR i = true := by
  unfold inR
  rw [Bool.and_eq_true]
  exact ⟨decide_eq_true h0, decide_eq_true h1⟩
/-- how many turns a law takes -/
def turns (m : Int) (n : Nat) : Int := if (if m < (n : Int) then m else (n : Int)) > 1 then (if m < (n : Int) then m else (n : Int)) else 1
theorem turns_le {m : Int} {n : Nat} (hm : 1 ≤ m) : turns m n ≤ m ∧ 1 ≤ turns m n := by
  unfold turns
  constructor <;> (split <;> (try split) <;> omega)
end PV

namespace PV
open PySem L2
/-! walks over lists with a changing store; greatest and least; dicts of cells; tables -/
inductive All2 {α β : Type} (R : α → β → Prop) : List α → List β → Prop
  | nil : All2 R [] []
  | cons {a b l m} : R a b → All2 R l m → All2 R (a :: l) (b :: m)
theorem All2.len {α β : Type} {R : α → β → Prop} : ∀ {l : List α} {m : List β}, All2 R l m → l.length = m.length
  | _, _, .nil => rfl
  | _, _, .cons _ t => by rw [List.length_cons, List.length_cons, t.len]
theorem All2.right {α β : Type} {R : α → β → Prop} {Q : β → Prop} (h : ∀ a b, R a b → Q b) : ∀ {l : List α} {m : List β}, All2 R l m → ∀ b ∈ m, Q b
  | _, _, .nil, _, hb => by cases hb
  | _, _, .cons r t, b, hb => by
    rcases List.mem_cons.mp hb with rfl | hb
    · exact h _ _ r
    · exact t.right h b hb
theorem All2.map {α β : Type} {R : α → β → Prop} {f : α → β} (h : ∀ a b, R a b → b = f a) : ∀ {l : List α} {m : List β}, All2 R l m → m = l.map f
  | _, _, .nil => rfl
  | _, _, .cons r t => by rw [List.map_cons, ← h _ _ r, ← t.map h]
theorem comp_dr {α β : Type} {tg : Tg} {cnd : Env → Store → R Bool} {elt : F} {δ : Env} (g : α → D) (k : β → D) (Q : α → β → Prop) (P : Store → Prop) : ∀ (l : List α) (S : Store), (∀ a ∈ l, ∀ S, P S → ∃ δ1 b S', bindT tg (g a) (wipeD δ (slots tg)) = some δ1 ∧ cnd δ1 S = .ok true S ∧ elt δ1 S = .ok (k b) S' ∧ Q a b ∧ P S') → P S → ∃ bs S', compL tg cnd elt δ (l.map g) S = .ok (bs.map k) S' ∧ All2 Q l bs ∧ P S'
  | [], S, _, hp => ⟨[], S, rfl, .nil, hp⟩
  | a :: l, S, h, hp => by
    obtain ⟨δ1, b, S1, h1, h2, h3, h4, h5⟩ := h a List.mem_cons_self S hp
    obtain ⟨bs, S2, i1, i2, i3⟩ := comp_dr g k Q P l S1 (fun b hb => h b (List.mem_cons_of_mem _ hb)) h5
    refine ⟨b :: bs, S2, ?_, .cons h4 i2, i3⟩
    show (match bindT tg (g a) (wipeD δ (slots tg)) with
      | none => R.stuck
      | some δ1 => match cnd δ1 S with
        | .ok true S1 => match elt δ1 S1 with
          | .ok e S2 => match compL tg cnd elt δ (l.map g) S2 with
            | .ok es S3 => .ok (e :: es) S3
            | _ => .stuck
          | _ => .stuck
        | .ok false S1 => compL tg cnd elt δ (l.map g) S1
        | _ => .stuck) = _
    rw [h1]
    dsimp only
    rw [h2]
    dsimp only
    rw [h3]
    dsimp only
    rw [i1]
    rfl
theorem comp2_map {α : Type} {sl : List Nat} {tg : Tg} {cnd : Env → Store → R Bool} {elt : Env → Store → R (List D)} {δ : Env} {S : Store} (g : α → D) (f : α → List D) (l : List α) (h : ∀ a ∈ l, ∃ δ1, bindT tg (g a) (wipeD δ sl) = some δ1 ∧ cnd δ1 S = .ok true S ∧ elt δ1 S = .ok (f a) S) : compWI sl tg cnd elt δ (.fix (l.map g)) S = .ok (l.flatMap f) S := by
  have key : ∀ (n i : Nat), i + n = l.length → compW (atF (l.map g)) sl tg cnd elt δ (n + 1) i S = .ok ((l.drop i).flatMap f) S := by
    intro n
    induction n with
    | zero =>
      intro i hi
      have e : atF (l.map g) S i = some none := by
        unfold atF
        rw [List.getElem?_eq_none (by rw [List.length_map]; omega)]
      show (match atF (l.map g) S i with
        | none => R.stuck
        | some none => .ok [] S
        | some (some d) => _) = _
      rw [e]
      dsimp only
      rw [List.drop_eq_nil_of_le (by omega)]
      rfl
    | succ n ih =>
      intro i hi
      have hl : i < l.length := by omega
      obtain ⟨δ1, h1, h2, h3⟩ := h l[i] (List.getElem_mem hl)
      have e : atF (l.map g) S i = some (some (g l[i])) := by
        unfold atF
        rw [List.getElem?_map, List.getElem?_eq_getElem hl]
        rfl
      show (match atF (l.map g) S i with
        | none => R.stuck
        | some none => .ok [] S
        | some (some d) => match bindT tg d (wipeD δ sl) with
          | none => .stuck
          | some δ1 => match cnd δ1 S with
            | .ok true S1 => match elt δ1 S1 with
              | .ok e S2 => match compW (atF (l.map g)) sl tg cnd elt δ (n + 1) (i + 1) S2 with
                | .ok es S3 => .ok (e ++ es) S3
                | _ => .stuck
              | _ => .stuck
            | .ok false S1 => compW (atF (l.map g)) sl tg cnd elt δ (n + 1) (i + 1) S1
            | _ => .stuck) = _
      rw [e]
      dsimp only
      rw [h1]
      dsimp only
      rw [h2]
      dsimp only
      rw [h3]
      dsimp only
      rw [ih (i + 1) (by omega)]
      dsimp only
      rw [List.drop_eq_getElem_cons hl, List.flatMap_cons]
  have := key l.length 0 (by omega)
  rw [List.drop_zero] at this
  show compW (atF (l.map g)) sl tg cnd elt δ ((l.map g).length + 1) 0 S = _
  rw [List.length_map]
  exact this
theorem maxI_le (b : Int) : ∀ (m : Int) (xs : List Int), maxI m xs ≤ b ↔ m ≤ b ∧ ∀ x ∈ xs, x ≤ b
  | m, [] => by simp [maxI]
  | m, x :: xs => by
    rw [maxI, maxI_le b _ xs]
    simp only [List.mem_cons, forall_eq_or_imp]
    split <;> (constructor <;> (intro h; refine ⟨by omega, ?_⟩; first | exact h.2 | exact h.2.2 | exact ⟨by omega, h.2⟩))
theorem le_minI (b : Int) : ∀ (m : Int) (xs : List Int), b ≤ minI m xs ↔ b ≤ m ∧ ∀ x ∈ xs, b ≤ x
  | m, [] => by simp [minI]
  | m, x :: xs => by
    rw [minI, le_minI b _ xs]
    simp only [List.mem_cons, forall_eq_or_imp]
    split <;> (constructor <;> (intro h; refine ⟨by omega, ?_⟩; first | exact h.2 | exact h.2.2 | exact ⟨by omega, h.2⟩))
def mxL : List Int → Int
  | [] => 0
  | m :: ms => maxI m ms
def mnL : List Int → Int
  | [] => 0
  | m :: ms => minI m ms
theorem mxL_le {l : List Int} (h : l ≠ []) (b : Int) : mxL l ≤ b ↔ ∀ x ∈ l, x ≤ b := by
  cases l with
  | nil => exact absurd rfl h
  | cons m ms =>
    show maxI m ms ≤ b ↔ _
    rw [maxI_le]
    simp only [List.mem_cons, forall_eq_or_imp]
theorem le_mnL {l : List Int} (h : l ≠ []) (b : Int) : b ≤ mnL l ↔ ∀ x ∈ l, b ≤ x := by
  cases l with
  | nil => exact absurd rfl h
  | cons m ms =>
    show b ≤ minI m ms ↔ _
    rw [le_minI]
    simp only [List.mem_cons, forall_eq_or_imp]
theorem b_mx {l : List Int} (h : l ≠ []) (S : Store) : biD .max [.lst (l.map D.int)] S = .ok (.int (mxL l)) S := by
  cases l with
  | nil => exact absurd rfl h
  | cons m ms =>
    show (match intsD ((m :: ms).map D.int) with | some (m :: ms) => PV.R.ok (D.int (maxI m ms)) S | _ => .stuck) = _
    rw [ints_map]
    rfl
theorem b_mn {l : List Int} (h : l ≠ []) (S : Store) : biD .min [.lst (l.map D.int)] S = .ok (.int (mnL l)) S := by
  cases l with
  | nil => exact absurd rfl h
  | cons m ms =>
    show (match intsD ((m :: ms).map D.int) with | some (m :: ms) => PV.R.ok (D.int (minI m ms)) S | _ => .stuck) = _
    rw [ints_map]
    rfl
/-! cells as keys -/
def cD (c : Int × Int) : D := .tup [.int c.1, .int c.2]
def kC (c : Int × Int) : List Key := [.inl c.1, .inl c.2]
theorem key_cD (c : Int × Int) : keyT (cD c) = some (kC c) := rfl
theorem key_inj {c e : Int × Int} : keyT (cD c) = some (kC e) ↔ c = e := by
  rw [key_cD]
  obtain ⟨a, b⟩ := c
  obtain ⟨x, y⟩ := e
  unfold kC
  simp
theorem getT_map (v : Int × Int → D) {c : Int × Int} : ∀ {cs : List (Int × Int)}, c ∈ cs → getT (kC c) (cs.map cD) (cs.map v) = some (v c)
  | [], h => by cases h
  | e :: cs, h => by
    show (if keyT (cD e) = some (kC c) then some (v e) else getT (kC c) (cs.map cD) (cs.map v)) = _
    by_cases he : e = c
    · rw [if_pos (key_inj.mpr he), he]
    · rw [if_neg fun q => he (key_inj.mp q)]
      refine getT_map v ?_
      rcases List.mem_cons.mp h with h | h
      · exact absurd h.symm he
      · exact h
theorem putT_new {c : Int × Int} {cs : List (Int × Int)} (hc : c ∉ cs) (e : D) (vs : List D) : putT (kC c) (cD c) e (cs.map cD) vs = ((cs ++ [c]).map cD, vs ++ [e]) := by
  unfold putT
  rw [if_neg]
  · rw [List.map_append]; rfl
  · intro h
    rw [List.any_eq_true] at h
    obtain ⟨q, hq, hk⟩ := h
    obtain ⟨z, hz, rfl⟩ := List.mem_map.mp hq
    exact hc (key_inj.mp (of_decide_eq_true hk) ▸ hz)
theorem i_dtt (v : Int × Int → D) {c : Int × Int} {cs : List (Int × Int)} (h : c ∈ cs) (S : Store) : idx2 (.dtt (cs.map cD) (cs.map v)) (cD c) S = .ok (v c) S := by
  show (match getT (kC c) (cs.map cD) (cs.map v) with | some d => PV.R.ok d S | none => .stuck) = _
  rw [getT_map v h]
theorem s_dtt {n : Nat} {c : Int × Int} {cs : List (Int × Int)} {vs : List D} {S : Store} (e : D) (h : S[n]? = some (.dtt (cs.map cD) vs)) (hc : c ∉ cs) (hl : cs.length ≤ 900) : setI (.ref n) (cD c) e S = .ok .non (S.set n (.dtt ((cs ++ [c]).map cD) (vs ++ [e]))) := by
  show (match S[n]? with
    | some (.dtt qs vs) => if fits (qs.length + 1) = true then PV.R.ok PV.D.non (S.set n (.dtt (putT (kC c) (cD c) e qs vs).1 (putT (kC c) (cD c) e qs vs).2)) else .stuck
    | _ => .stuck) = _
  rw [h]
  dsimp only
  have hf : fits ((cs.map cD).length + 1) = true := fits_1 _ (by rw [List.length_map]; omega)
  rw [if_pos hf, putT_new hc]
/-! tables -/
def tabD (t : List (Int × Int)) : D := .tup (t.map cD)
def tolF (t : List (Int × Int)) (c : Int) : Int := (((t.filter fun s => decide (s.1 ≤ c)).map (·.2)).getLast?).getD 0
theorem tol_last {t : List (Int × Int)} {c : Int} {a b : Int} {r : List (Int × Int)} (ht : t = (a, b) :: r) (ha : a ≤ c) : ((t.filter fun s => decide (s.1 ≤ c)).map (·.2)).getLast? = some (tolF t c) := by
  unfold tolF
  cases h : ((t.filter fun s => decide (s.1 ≤ c)).map (·.2)).getLast? with
  | some x => rfl
  | none =>
    rw [List.getLast?_eq_none_iff, List.map_eq_nil_iff, List.filter_eq_nil_iff] at h
    exact absurd (decide_eq_true ha) (h (a, b) (by rw [ht]; exact List.mem_cons_self))
theorem tol_mem {t : List (Int × Int)} {c : Int} {a b : Int} {r : List (Int × Int)} (ht : t = (a, b) :: r) (ha : a ≤ c) : ∃ s ∈ t, s.1 ≤ c ∧ s.2 = tolF t c := by
  have h := List.mem_of_getLast? (tol_last ht ha)
  obtain ⟨s, hs, e⟩ := List.mem_map.mp h
  rw [List.mem_filter] at hs
  exact ⟨s, hs.1, of_decide_eq_true hs.2, e⟩
/-! sets of numbers -/
theorem dedup_all {c : Int} : ∀ (ns : List Int), ns ≠ [] → (∀ n ∈ ns, n = c) → dedup ns = [c] := by
  intro ns h0 h
  have key : ∀ (l : List Int), (∀ n ∈ l, n = c) → l.foldl (fun l k => if l.any (· == k) then l else l ++ [k]) [c] = [c] := by
    intro l
    induction l with
    | nil => intro _; rfl
    | cons x l ih =>
      intro hl
      rw [List.foldl_cons, hl x List.mem_cons_self]
      have : (if [c].any (· == c) = true then [c] else [c] ++ [c]) = [c] := by simp
      rw [this]
      exact ih fun n hn => hl n (List.mem_cons_of_mem _ hn)
  cases ns with
  | nil => exact absurd rfl h0
  | cons x l =>
    unfold dedup
    rw [List.foldl_cons, h x List.mem_cons_self]
    exact key l fun n hn => h n (List.mem_cons_of_mem _ hn)
theorem dedupT_all {c : List Int} : ∀ (ns : List (List Int)), ns ≠ [] → (∀ n ∈ ns, n = c) → dedupT ns = [c] := by
  intro ns h0 h
  have key : ∀ (l : List (List Int)), (∀ n ∈ l, n = c) → l.foldl (fun l k => if l.any (· == k) then l else l ++ [k]) [c] = [c] := by
    intro l
    induction l with
    | nil => intro _; rfl
    | cons x l ih =>
      intro hl
      rw [List.foldl_cons, hl x List.mem_cons_self]
      have : (if [c].any (· == c) = true then [c] else [c] ++ [c]) = [c] := by simp
      rw [this]
      exact ih fun n hn => hl n (List.mem_cons_of_mem _ hn)
  cases ns with
  | nil => exact absurd rfl h0
  | cons x l =>
    unfold dedupT
    rw [List.foldl_cons, h x List.mem_cons_self]
    exact key l fun n hn => h n (List.mem_cons_of_mem _ hn)
theorem tups_map (f : α → List Int) : ∀ l : List α, tupsD (l.map fun a => .tup ((f a).map D.int)) = some (l.map f)
  | [] => rfl
  | a :: l => by
    show (match intsD ((f a).map D.int), tupsD (l.map fun a => .tup ((f a).map D.int)) with
      | some a, some b => some (a :: b)
      | _, _ => none) = _
    rw [ints_map, tups_map f l]
    rfl
/-- how many different numbers, all alike -/
theorem len_set1 {α : Type} (f : α → Int) (c : Int) (l : List α) (S : Store) (h0 : l ≠ []) (hl : l.length ≤ 4000) (h : ∀ a ∈ l, f a = c) : lenSet (.lst (l.map fun a => .int (f a))) S = .ok (.int 1) S := by
  have e : l.map (fun a => D.int (f a)) = (l.map f).map D.int := by rw [List.map_map]; rfl
  show (match intsD (l.map fun a => .int (f a)) with
    | some ns => if decide (ns.length ≤ 4000) then PV.R.ok (PV.D.int (dedup ns).length) S else .stuck
    | none => _) = _
  rw [e, ints_map]
  dsimp only
  rw [decide_eq_true (by rw [List.length_map]; exact hl), dedup_all (c := c) (l.map f) (by simpa using h0) (by
    intro n hn
    obtain ⟨a, ha, rfl⟩ := List.mem_map.mp hn
    exact h a ha)]
  rfl
theorem len_set2 {α : Type} (f : α → List Int) (c : List Int) (l : List α) (S : Store) (h0 : l ≠ []) (hl : l.length < 64) (h : ∀ a ∈ l, f a = c) : lenSet (.lst (l.map fun a => .tup ((f a).map D.int))) S = .ok (.int 1) S := by
  cases l with
  | nil => exact absurd rfl h0
  | cons a l =>
    have e : intsD ((a :: l).map fun a => .tup ((f a).map D.int)) = none := rfl
    show (match intsD ((a :: l).map fun a => .tup ((f a).map D.int)) with
      | some ns => if decide (ns.length ≤ 4000) then PV.R.ok (PV.D.int (dedup ns).length) S else .stuck
      | none => match tupsD ((a :: l).map fun a => .tup ((f a).map D.int)) with
        | some ts => if decide (ts.length < 64) then PV.R.ok (PV.D.int (dedupT ts).length) S else .stuck
        | none => .stuck) = _
    rw [e, tups_map]
    dsimp only
    rw [decide_eq_true (by rw [List.length_map]; exact hl), dedupT_all (c := c) ((a :: l).map f) (by simp) (by
      intro n hn
      obtain ⟨a, ha, rfl⟩ := List.mem_map.mp hn
      exact h a ha)]
    rfl
end PV

namespace PV
open PySem L2
/-! sets of numbers, sorted -/
theorem ddf_mem {x : Int} : ∀ (ns acc : List Int), x ∈ ns.foldl (fun l k => if l.any (· == k) then l else l ++ [k]) acc ↔ x ∈ acc ∨ x ∈ ns
  | [], acc => by simp
  | k :: ns, acc => by
    rw [List.foldl_cons, ddf_mem ns]
    by_cases h : acc.any (· == k) = true
    · rw [if_pos h]
      have hk : k ∈ acc := by
        rw [List.any_eq_true] at h
        obtain ⟨y, hy, e⟩ := h
        have : y = k := by simpa using e
        exact this ▸ hy
      simp only [List.mem_cons]
      constructor
      · rintro (h | h)
        · exact .inl h
        · exact .inr (.inr h)
      · rintro (h | rfl | h)
        · exact .inl h
        · exact .inl hk
        · exact .inr h
    · rw [if_neg h]
      simp only [List.mem_append, List.mem_cons, List.not_mem_nil, or_false, or_assoc]
theorem ddf_nd : ∀ (ns acc : List Int), acc.Nodup → (ns.foldl (fun l k => if l.any (· == k) then l else l ++ [k]) acc).Nodup
  | [], acc, h => h
  | k :: ns, acc, h => by
    rw [List.foldl_cons]
    refine ddf_nd ns _ ?_
    by_cases hk : acc.any (· == k) = true
    · rw [if_pos hk]; exact h
    · rw [if_neg hk, List.nodup_append]
      refine ⟨h, by simp, fun a ha b hb e => hk ?_⟩
      rw [List.mem_singleton] at hb
      rw [List.any_eq_true]
      exact ⟨a, ha, by simp [e, hb]⟩
theorem ddf_len : ∀ (ns acc : List Int), (ns.foldl (fun l k => if l.any (· == k) then l else l ++ [k]) acc).length ≤ acc.length + ns.length
  | [], acc => by simp
  | k :: ns, acc => by
    rw [List.foldl_cons]
    have := ddf_len ns (if acc.any (· == k) = true then acc else acc ++ [k])
    have e : (if acc.any (· == k) = true then acc else acc ++ [k]).length ≤ acc.length + 1 := by split <;> simp
    rw [List.length_cons]
    omega
theorem dedup_mem {x : Int} {ns : List Int} : x ∈ dedup ns ↔ x ∈ ns := by
  unfold dedup
  rw [ddf_mem]
  simp
theorem dedup_nd (ns : List Int) : (dedup ns).Nodup := ddf_nd ns [] List.nodup_nil
theorem dedup_len (ns : List Int) : (dedup ns).length ≤ ns.length := by
  have := ddf_len ns []
  rw [List.length_nil, Nat.zero_add] at this
  exact this
theorem insI_mem {x y : Int} : ∀ {l : List Int}, y ∈ insI x l ↔ y = x ∨ y ∈ l
  | [] => by simp [insI]
  | z :: l => by
    rw [insI]
    split
    · simp
    · rw [List.mem_cons, insI_mem, List.mem_cons]
      constructor
      · rintro (h | h | h)
        · exact .inr (.inl h)
        · exact .inl h
        · exact .inr (.inr h)
      · rintro (h | h | h)
        · exact .inr (.inl h)
        · exact .inl h
        · exact .inr (.inr h)
theorem sortI_mem {y : Int} : ∀ {l : List Int}, y ∈ sortI l ↔ y ∈ l
  | [] => by simp [sortI]
  | x :: l => by rw [sortI, insI_mem, sortI_mem, List.mem_cons]
theorem insI_len (x : Int) : ∀ l : List Int, (insI x l).length = l.length + 1
  | [] => rfl
  | z :: l => by
    rw [insI]
    split
    · simp
    · rw [List.length_cons, insI_len x l, List.length_cons]
theorem sortI_len : ∀ l : List Int, (sortI l).length = l.length
  | [] => rfl
  | x :: l => by rw [sortI, insI_len, sortI_len l, List.length_cons]
theorem insI_up {x : Int} : ∀ {l : List Int}, l.Pairwise (· < ·) → x ∉ l → (insI x l).Pairwise (· < ·)
  | [], _, _ => by simp [insI]
  | z :: l, h, hx => by
    rw [insI]
    have hz := List.pairwise_cons.mp h
    have hne : x ≠ z := fun e => hx (e ▸ List.mem_cons_self)
    split
    · refine List.pairwise_cons.mpr ⟨fun y hy => ?_, h⟩
      rcases List.mem_cons.mp hy with rfl | hy
      · omega
      · have := hz.1 y hy
        omega
    · refine List.pairwise_cons.mpr ⟨fun y hy => ?_, insI_up hz.2 fun h => hx (List.mem_cons_of_mem _ h)⟩
      rcases insI_mem.mp hy with rfl | hy
      · omega
      · exact hz.1 y hy
theorem sortI_up : ∀ {l : List Int}, l.Nodup → (sortI l).Pairwise (· < ·)
  | [], _ => by simp [sortI]
  | x :: l, h => by
    rw [sortI]
    have hz := List.nodup_cons.mp h
    exact insI_up (sortI_up hz.2) fun hm => hz.1 (sortI_mem.mp hm)
theorem sort_ok {ns : List Int} (hl : ns.length < 64) (S : Store) : sortSet false (.lst (ns.map D.int)) S = .ok (.lst ((sortI (dedup ns)).map D.int)) S := by
  show (match intsD (ns.map D.int) with
    | some ns => if decide (ns.length < 64) then newL false ((sortI (dedup ns)).map D.int) S else .stuck
    | none => .stuck) = _
  rw [ints_map]
  dsimp only
  rw [decide_eq_true hl, if_pos rfl, l_newF, if_pos]
  refine fits_1 _ ?_
  rw [List.length_map, sortI_len]
  have := dedup_len ns
  omega
/-- the least one stands first -/
theorem sort_head {ns : List Int} {a : Int} (ha : a ∈ ns) (hm : ∀ x ∈ ns, a ≤ x) : ∃ r, sortI (dedup ns) = a :: r := by
  have hu := sortI_up (dedup_nd ns)
  have hmem : a ∈ sortI (dedup ns) := sortI_mem.mpr (dedup_mem.mpr ha)
  cases h : sortI (dedup ns) with
  | nil => rw [h] at hmem; cases hmem
  | cons b r =>
    rw [h] at hu hmem
    have hb : b ∈ ns := dedup_mem.mp (sortI_mem.mp (by rw [h]; exact List.mem_cons_self))
    have h1 := hm b hb
    rcases List.mem_cons.mp hmem with rfl | hr
    · exact ⟨r, rfl⟩
    · have := (List.pairwise_cons.mp hu).1 a hr
      omega
theorem zip_up {α : Type} {R : α → α → Prop} : ∀ {l : List α}, l.Pairwise R → ∀ p ∈ l.zip l.tail, R p.1 p.2
  | [], _, p, hp => by cases hp
  | [a], _, p, hp => by cases hp
  | a :: b :: l, h, p, hp => by
    have hz := List.pairwise_cons.mp h
    rw [List.tail_cons, List.zip_cons_cons] at hp
    rcases List.mem_cons.mp hp with rfl | hp
    · exact hz.1 b List.mem_cons_self
    · exact zip_up hz.2 p hp
end PV

namespace PV
open PySem L2
/-! walking forward: a wish about where the machine gets to -/
def Wt (P : Rz → Prop) (x : Rz) : Prop := P x
theorem Wt.of {P : Rz → Prop} {x : Rz} (h : P x) : Wt P x := h
theorem Wt.mono {P Q : Rz → Prop} {x : Rz} (h : Wt P x) (pq : ∀ z, P z → Q z) : Wt Q x := pq x h
/-- what a body's end is wished to be -/
def WN (Q : Env → Store → Prop) (z : Rz) : Prop := ∃ δ S, z = .s (.nx δ S) ∧ Q δ S
def WD (Q : D → Store → Prop) (z : Rz) : Prop := ∃ v S, z = .d (.ok v S) ∧ Q v S
theorem WN.mk {Q : Env → Store → Prop} {δ : Env} {S : Store} (h : Q δ S) : Wt (WN Q) (ap [] (.s (.nx δ S))) := ⟨δ, S, rfl, h⟩
theorem WD.mk {Q : D → Store → Prop} {v : D} {S : Store} (h : Q v S) : Wt (WD Q) (ap [] (.d (.ok v S))) := ⟨v, S, rfl, h⟩
theorem wn_ex {Q : Env → Store → Prop} {r : RS} (h : Wt (WN Q) (ap [] (.s r))) : ∃ δ S, r = .nx δ S ∧ Q δ S := by
  obtain ⟨δ, S, e, q⟩ := h
  exact ⟨δ, S, Rz.s.inj e, q⟩
theorem wd_ex {Q : D → Store → Prop} {r : PV.R D} (h : Wt (WD Q) (ap [] (.d r))) : ∃ v S, r = .ok v S ∧ Q v S := by
  obtain ⟨δ, S, e, q⟩ := h
  exact ⟨δ, S, Rz.d.inj e, q⟩
theorem wf_ex {Q : D → Store → Prop} {r : RS} (h : Wt (WD Q) (ap [.out] (.s r))) : ∃ v S, outR r = .ok v S ∧ Q v S := wd_ex (r := outR r) h
theorem sts_one (i : Nat) : slots (.one i) = [i] := rfl
theorem sts_tup (is : List Nat) : slots (.tup is) = is := rfl
theorem wd_nil (δ : Env) : wipeD δ [] = δ := rfl
theorem wd_cons (δ : Env) (v : Nat) (vs : List Nat) : wipeD δ (v :: vs) = (wipeD δ vs).set v none := rfl
theorem g_cD (i j : Nat) (c : Int × Int) (δ : Env) : bindT (.tup [i, j]) (cD c) δ = some ((δ.set i (some (.int c.1))).set j (some (.int c.2))) := rfl
theorem i_cD0 (c : Int × Int) (S : Store) : idx2 (cD c) (.int 0) S = .ok (.int c.1) S := rfl
theorem i_cD1 (c : Int × Int) (S : Store) : idx2 (cD c) (.int 1) S = .ok (.int c.2) S := rfl
theorem bnd_nx {o : Option Env} {k : Env → RS} {δ : Env} {S : Store} (h : bndR o k = .nx δ S) : ∃ δ1, o = some δ1 ∧ k δ1 = .nx δ S := by
  cases o with
  | none => cases h
  | some δ1 => exact ⟨δ1, rfl, h⟩
theorem opt_ok {α β : Type} {o : Option α} {k : α → R β} {v : β} {S : Store} (h : optR o k = .ok v S) : ∃ a, o = some a ∧ k a = .ok v S := by
  cases o with
  | none => cases h
  | some a => exact ⟨a, rfl, h⟩
theorem wt_nx {P : Rz → Prop} {Q : Env → Store → Prop} {k : List Fr} {r : RS} (h : Wt (WN Q) (ap [] (.s r))) (c : ∀ δ S, Q δ S → Wt P (ap k (.s (.nx δ S)))) : Wt P (ap k (.s r)) := by
  obtain ⟨δ, S, e, q⟩ := wn_ex h
  rw [e]
  exact c δ S q
theorem wt_rt {P : Rz → Prop} {k : List Fr} {r : PV.R D} {Q : D → Store → Prop} (h : ∃ v S, r = .ok v S ∧ Q v S) (c : ∀ v S, Q v S → Wt P (ap k (.d (.ok v S)))) : Wt P (ap k (.d r)) := by
  obtain ⟨v, S, e, q⟩ := h
  rw [e]
  exact c v S q
/-- a loop, its state kept -/
theorem wt_for {P : Rz → Prop} {k : List Fr} {tg : Tg} {G : Gv} {b : C} {its : List D} {δ : Env} {S : Store} (I : Nat → Env → Store → Prop) (h0 : I 0 δ S)
    (step : ∀ (i : Nat) (x : D) (δ : Env) (S : Store), its[i]? = some x → I i δ S → Wt (WN (I (i + 1))) (ap [] (.s (bndR (bindT tg x δ) fun δ1 => ex G b δ1 S))))
    (fin : ∀ (δ : Env) (S : Store), I its.length δ S → Wt P (ap k (.s (.nx δ S)))) : Wt P (ap k (.s (forL tg (ex G b) its δ S))) := by
  obtain ⟨δ2, S2, e, h⟩ := for_inv (tg := tg) (body := ex G b) I its (fun i x δ S hx hi => by
    obtain ⟨δ2, S2, e, q⟩ := wn_ex (step i x δ S hx hi)
    obtain ⟨δ1, h1, e⟩ := bnd_nx e
    exact ⟨δ1, h1, δ2, S2, e, q⟩) δ S h0
  rw [e]
  exact fin δ2 S2 h
theorem rng0I {m : Int} (h0 : 0 ≤ m) : rangeD 0 m = (List.range m.toNat).map fun k => D.int ((k : Nat) : Int) := by
  unfold rangeD
  rw [show m - 0 = m by omega]
  refine List.map_congr_left fun k _ => ?_
  rw [Int.zero_add]
/-- a loop over range(0, n) -/
theorem wt_rng {P : Rz → Prop} {k : List Fr} {tg : Tg} {G : Gv} {b : C} {m : Int} {δ : Env} {S : Store} (hm : 0 ≤ m) (I : Nat → Env → Store → Prop) (h0 : I 0 δ S)
    (step : ∀ (i : Nat) (δ : Env) (S : Store), (i : Int) < m → I i δ S → Wt (WN (I (i + 1))) (ap [] (.s (bndR (bindT tg (.int (i : Nat)) δ) fun δ1 => ex G b δ1 S))))
    (fin : ∀ (δ : Env) (S : Store), I m.toNat δ S → Wt P (ap k (.s (.nx δ S)))) : Wt P (ap k (.s (forL tg (ex G b) (rangeD 0 m) δ S))) := by
  refine wt_for I h0 (fun i x δ S hx hi => ?_) (fun δ S h => fin δ S ?_)
  · obtain ⟨rfl, hi'⟩ := rng_at hx
    exact step i δ S hi' hi
  · rw [rng0I hm, List.length_map, List.length_range] at h
    exact h
/-- a comprehension whose parts draw -/
theorem wt_comp {α β : Type} {P : Rz → Prop} {k : List Fr} {tg : Tg} {G : Gv} {elt : C} {δ : Env} {S : Store} (g : α → D) (f : β → D) (Q : α → β → Prop) (I : Store → Prop) (l : List α) (hI : I S)
    (step : ∀ a ∈ l, ∀ S, I S → Wt (WD fun v S' => ∃ b, v = f b ∧ Q a b ∧ I S') (ap [] (.d (optR (bindT tg (g a) (wipeD δ (slots tg))) fun δ1 => ev G elt δ1 S))))
    (fin : ∀ (bs : List β) (S2 : Store), All2 Q l bs → I S2 → Wt P (ap k (.l (.ok (bs.map f) S2)))) : Wt P (ap k (.l (compL tg (evT G .nil) (ev G elt) δ (l.map g) S))) := by
  obtain ⟨bs, S2, e, a, i⟩ := comp_dr (tg := tg) (cnd := evT G .nil) (elt := ev G elt) (δ := δ) g f Q I l S (fun a ha S hS => by
    obtain ⟨v, S', e, b, rfl, q, i⟩ := wd_ex (step a ha S hS)
    obtain ⟨δ1, h1, e⟩ := opt_ok e
    exact ⟨δ1, b, S', h1, rfl, e, q, i⟩) hI
  rw [e]
  exact fin bs S2 a i
theorem wt_compR {β : Type} {P : Rz → Prop} {k : List Fr} {tg : Tg} {G : Gv} {elt : C} {δ : Env} {S : Store} {m : Int} (hm : 0 ≤ m) (f : β → D) (Q : Nat → β → Prop) (I : Store → Prop) (hI : I S)
    (step : ∀ (i : Nat) (S : Store), (i : Int) < m → I S → Wt (WD fun v S' => ∃ b, v = f b ∧ Q i b ∧ I S') (ap [] (.d (optR (bindT tg (.int (i : Nat)) (wipeD δ (slots tg))) fun δ1 => ev G elt δ1 S))))
    (fin : ∀ (bs : List β) (S2 : Store), All2 Q (List.range m.toNat) bs → I S2 → Wt P (ap k (.l (.ok (bs.map f) S2)))) : Wt P (ap k (.l (compL tg (evT G .nil) (ev G elt) δ (rangeD 0 m) S))) := by
  rw [rng0I hm]
  refine wt_comp (fun k : Nat => D.int ((k : Nat) : Int)) f Q I _ hI (fun a ha S hS => step a S ?_ hS) fin
  have := List.mem_range.mp ha
  omega
/-- a loop over range(a, b) -/
theorem wt_rngAB {P : Rz → Prop} {k : List Fr} {tg : Tg} {G : Gv} {b : C} {m n : Int} {δ : Env} {S : Store} (hm : m ≤ n) (I : Nat → Env → Store → Prop) (h0 : I 0 δ S)
    (step : ∀ (i : Nat) (δ : Env) (S : Store), m + (i : Int) < n → I i δ S → Wt (WN (I (i + 1))) (ap [] (.s (bndR (bindT tg (.int (m + (i : Nat))) δ) fun δ1 => ex G b δ1 S))))
    (fin : ∀ (δ : Env) (S : Store), I (n - m).toNat δ S → Wt P (ap k (.s (.nx δ S)))) : Wt P (ap k (.s (forL tg (ex G b) (rangeD m n) δ S))) := by
  refine wt_for I h0 (fun i x δ S hx hi => ?_) (fun δ S h => fin δ S ?_)
  · unfold rangeD at hx
    rw [List.getElem?_map] at hx
    cases e : (List.range (n - m).toNat)[i]? with
    | none => rw [e] at hx; cases hx
    | some j =>
      rw [e] at hx
      obtain ⟨hl, ej⟩ := List.getElem?_eq_some_iff.mp e
      rw [List.length_range] at hl
      rw [List.getElem_range] at ej
      subst ej
      have hx : D.int (m + (i : Nat)) = x := Option.some.inj hx
      subst hx
      exact step i δ S (by omega) hi
  · unfold rangeD at h
    rw [List.length_map, List.length_range] at h
    exact h
/-- the pool at r has gone on, cells have come, no other has changed -/
structure Ext (r : Nat) (S S' : Store) : Prop where
  src : Src S' r
  len : S.length ≤ S'.length
  oth : ∀ j, j ≠ r → j < S.length → S'[j]? = S[j]?
theorem Ext.refl {r : Nat} {S : Store} (h : Src S r) : Ext r S S := ⟨h, Nat.le_refl _, fun _ _ _ => rfl⟩
theorem Ext.trans {r : Nat} {A B C : Store} (h : Ext r A B) (h' : Ext r B C) : Ext r A C := ⟨h'.src, Nat.le_trans h.len h'.len, fun j hj hl => (h'.oth j hj (Nat.lt_of_lt_of_le hl h.len)).trans (h.oth j hj hl)⟩
theorem Adv.ext {r : Nat} {A B : Store} (h : Adv r A B) : Ext r A B := ⟨h.src, by rw [h.len]; exact Nat.le_refl _, fun j hj _ => h.oth j hj⟩
theorem Src.lt {S : Store} {r : Nat} (h : Src S r) : r < S.length := by
  obtain ⟨_, _, h, _⟩ := h
  exact (List.getElem?_eq_some_iff.mp h).1
theorem Src.app {S : Store} {r : Nat} (h : Src S r) (T : Store) : Src (S ++ T) r := by
  have hl := h.lt
  obtain ⟨n, s, h1, h2⟩ := h
  exact ⟨n, s, by rw [List.getElem?_append_left hl]; exact h1, h2⟩
theorem Ext.app {r : Nat} {A B : Store} (h : Ext r A B) (T : Store) : Ext r A (B ++ T) :=
  ⟨h.src.app T, by rw [List.length_append]; exact Nat.le_trans h.len (Nat.le_add_right _ _), fun j hj hl => by rw [List.getElem?_append_left (Nat.lt_of_lt_of_le hl h.len)]; exact h.oth j hj hl⟩
theorem Src.set {S : Store} {r q : Nat} (h : Src S r) (hq : q ≠ r) (c : Cell) : Src (S.set q c) r := by
  obtain ⟨n, s, h1, h2⟩ := h
  exact ⟨n, s, by rw [List.getElem?_set_ne hq]; exact h1, h2⟩
theorem Ext.set {r q : Nat} {A B : Store} (h : Ext r A B) (hq : A.length ≤ q) (hr : r < A.length) (c : Cell) : Ext r A (B.set q c) :=
  ⟨h.src.set (by omega) c, by rw [List.length_set]; exact h.len, fun j hj hl => by rw [List.getElem?_set_ne (by omega)]; exact h.oth j hj hl⟩
theorem atA0 (S0 : Store) (A : Cell) : (S0 ++ [A])[S0.length]? = some A := by rw [List.getElem?_append_right (Nat.le_refl _)]; simp
theorem setA0 (S0 : Store) (A X : Cell) : (S0 ++ [A]).set S0.length X = S0 ++ [X] := by rw [List.set_append_right _ _ (Nat.le_refl _)]; simp
/-- an environment by what is known of it -/
def junk (δ : Env) : Nat → Option D := fun n => δ.getD n none
end PV
namespace PV
open PySem L2
/-- a comprehension that changes nothing -/
theorem wt_mapA {α : Type} {P : Rz → Prop} {k : List Fr} {tg : Tg} {G : Gv} {elt : C} {δ : Env} {S : Store} (g f : α → D) (l : List α)
    (step : ∀ a ∈ l, Wt (WD fun v S' => v = f a ∧ S' = S) (ap [] (.d (optR (bindT tg (g a) (wipeD δ (slots tg))) fun δ1 => ev G elt δ1 S))))
    (fin : Wt P (ap k (.l (.ok (l.map f) S)))) : Wt P (ap k (.l (compL tg (evT G .nil) (ev G elt) δ (l.map g) S))) := by
  rw [comp_mapA (tg := tg) (cnd := evT G .nil) (elt := ev G elt) (δ := δ) (S := S) g f l fun a ha => by
    obtain ⟨v, S', e, rfl, rfl⟩ := wd_ex (step a ha)
    obtain ⟨δ1, h1, e⟩ := opt_ok e
    exact ⟨δ1, h1, rfl, e⟩]
  exact fin
/-- what a test's end is wished to be -/
def WB (Q : Bool → Store → Prop) (z : Rz) : Prop := ∃ v S, z = .b (.ok v S) ∧ Q v S
theorem WB.mk {Q : Bool → Store → Prop} {v : Bool} {S : Store} (h : Q v S) : Wt (WB Q) (ap [] (.b (.ok v S))) := ⟨v, S, rfl, h⟩
theorem wb_ex {Q : Bool → Store → Prop} {r : PV.R Bool} (h : Wt (WB Q) (ap [] (.b r))) : ∃ v S, r = .ok v S ∧ Q v S := by
  obtain ⟨δ, S, e, q⟩ := h
  exact ⟨δ, S, Rz.b.inj e, q⟩
/-- a comprehension with a condition that changes nothing -/
theorem wt_filt {α : Type} {P : Rz → Prop} {k : List Fr} {tg : Tg} {G : Gv} {cnd elt : C} {δ : Env} {S : Store} (g f : α → D) (p : α → Bool) (l : List α)
    (step : ∀ a ∈ l, Wt (WB fun v S' => v = p a ∧ S' = S) (ap [] (.b (optR (bindT tg (g a) (wipeD δ (slots tg))) fun δ1 => evT G cnd δ1 S))) ∧ (p a = true → Wt (WD fun v S' => v = f a ∧ S' = S) (ap [] (.d (optR (bindT tg (g a) (wipeD δ (slots tg))) fun δ1 => ev G elt δ1 S)))))
    (fin : Wt P (ap k (.l (.ok ((l.filter p).map f) S)))) : Wt P (ap k (.l (compL tg (evT G cnd) (ev G elt) δ (l.map g) S))) := by
  rw [comp_filt (tg := tg) (cnd := evT G cnd) (elt := ev G elt) (δ := δ) (S := S) g f p l fun a ha => by
    obtain ⟨h2, h3⟩ := step a ha
    obtain ⟨v, S', e, rfl, rfl⟩ := wb_ex h2
    obtain ⟨δ1, h1, e⟩ := opt_ok e
    refine ⟨δ1, h1, e, fun hp => ?_⟩
    obtain ⟨v, S', e, rfl, rfl⟩ := wd_ex (h3 hp)
    obtain ⟨δ2, h2, e⟩ := opt_ok e
    rw [h1] at h2
    cases h2
    exact e]
  exact fin
theorem All2.at {α β : Type} {R : α → β → Prop} : ∀ {l : List α} {m : List β}, All2 R l m → ∀ (i : Nat) (a : α) (b : β), l[i]? = some a → m[i]? = some b → R a b
  | _, _, .nil, i, a, b, h, _ => by cases i <;> cases h
  | _, _, .cons r t, i, a, b, h1, h2 => by
    cases i with
    | zero => cases h1; cases h2; exact r
    | succ i => exact All2.at t i a b h1 h2
theorem at_map {α : Type} (f : α → D) {l : List α} {i : Nat} {a : α} (h : l[i]? = some a) : atI (l.map f) ((i : Nat) : Int) = some (f a) := by
  refine at_nat (by omega) ?_
  rw [Int.toNat_natCast, List.getElem?_map, h]
  rfl
/-- lists of numbers compared, one of them in a cell -/
theorem eqD_cell {S : Store} {q : Nat} {l m : List Int} (h : S[q]? = some (.lst (l.map D.int))) : eqD S (.ref q) (.lst (m.map D.int)) = some (decide (l = m)) := by
  have e : deref S (.ref q) = .lst (l.map D.int) := by
    unfold deref
    dsimp only
    rw [h]
  have := eqD_ints (S := S) l m
  unfold eqD at this ⊢
  rw [e]
  exact this
theorem zip_ints (l m : List Int) : zipD (.lst (l.map D.int)) (.lst (m.map D.int)) = some ((l.zip m).map cD) := by
  have : ∀ (l m : List Int), ((l.map D.int).zip (m.map D.int)).map (fun (x, y) => D.tup [x, y]) = (l.zip m).map cD := by
    intro l m
    rw [List.zip_map, List.map_map]
    rfl
  show some _ = _
  rw [this]
end PV

namespace Law
open PySem L2 PyProof.Rows PV
def top (i : Nat) : Stmt := PySem.Challenge.pw_countedlights_k26_exceptions.main.body.getD i (.Pass ⟨0, 0, 0, 0⟩)
def c_law : C := (.cons (.for_ (.one 1) (.rng (.con (.int 0)) (.bi .max (.cons (.con (.int 1)) (.cons (.bi .min (.cons (.bi .len (.cons (.var 0) .nil)) (.cons (.con (.int 10)) .nil))) .nil)))) (.cons (.set (.one 2) (.call 1 (.cons (.var 0) (.cons (.var 1) .nil)))) (.cons (.set (.one 3) (.bin .sub (.call 2 (.cons (.var 2) (.cons (.bin .pow (.con (.int 10)) (.con (.int 6))) .nil))) (.con (.int 500)))) (.cons (.set (.one 4) (.idx (.lst false (.cons (.var 3) (.cons (.con .non) (.cons (.con (.bl true)) (.cons (.con (.str "text")) (.cons (.tup (.cons (.con (.int 1)) (.cons (.con (.int 2)) .nil))) (.cons (.lst false (.cons (.var 3) .nil)) (.cons (.dct1 false (.con (.int 1)) (.var 3)) (.cons (.tup .nil) (.cons (.tup (.cons (.tup (.cons (.con (.int 0)) (.cons (.con (.int 1)) .nil))) .nil)) .nil)))))))))) (.call 2 (.cons (.var 2) (.cons (.con (.int 9)) .nil))))) (.cons (.for_ (.tup [5, 6]) (.enum (.call 3 (.cons (.var 4) .nil))) (.cons (.ifs (.or (.tcmp .ne (.call 4 (.cons (.var 6) .nil)) (.comp false (.one 7) (.rng (.con (.int 0)) (.con (.int 7))) .nil (.cmp .eq (.var 7) (.var 5)))) (.tcmp .ne (.bi .repr (.cons (.fld (.var 6) 0) .nil)) (.bi .repr (.cons (.var 4) .nil)))) (.cons (.ret (.con (.bl false))) .nil) .nil) (.cons (.ifs (.or (.not (.tst (.isx (.var 6) 3))) (.not (.tst (.isx (.var 6) 4)))) (.cons (.ret (.con (.bl false))) .nil) .nil) (.cons (.ifs (.tst (.isxt (.var 6) [0, 1, 2])) (.cons (.ret (.con (.bl false))) .nil) .nil) .nil)))) .nil))))) (.cons (.ret (.con (.bl true))) .nil))
def c__law_source : C := (.cons (.set (.one 2) (.con (.int 0))) (.cons (.ifs (.tcmp .lt (.var 1) (.bi .len (.cons (.var 0) .nil))) (.cons (.set (.one 2) (.idx (.var 0) (.var 1))) .nil) .nil) (.cons (.set (.one 3) (.bi .max (.cons (.var 2) (.cons (.bin .sub (.neg (.con (.int 1))) (.var 2)) .nil)))) (.cons (.set (.one 4) (.bin .mod (.bin .add (.bin .add (.bin .mul (.bin .mod (.var 3) (.con (.int 2147483629))) (.con (.int 16807))) (.bin .mul (.con (.int 104729)) (.var 1))) (.con (.int 11))) (.con (.int 2147483647)))) (.cons (.ifs (.tcmp .lt (.var 3) (.bin .pow (.con (.int 10)) (.con (.int 18)))) (.cons (.set (.one 3) (.con (.int 0))) .nil) .nil) (.cons (.ret (.lst true (.cons (.var 3) (.cons (.var 4) .nil)))) .nil))))))
def c__law_draw : C := (.cons (.ifs (.tcmp .gt (.idx (.var 0) (.con (.int 0))) (.con (.int 0))) (.cons (.set (.one 2) (.bin .mod (.idx (.var 0) (.con (.int 0))) (.var 1))) (.cons (.stI (.var 0) (.con (.int 0)) (.bin .fdiv (.idx (.var 0) (.con (.int 0))) (.var 1))) (.cons (.ret (.var 2)) .nil))) .nil) (.cons (.stI (.var 0) (.con (.int 1)) (.bin .mod (.bin .add (.bin .mul (.idx (.var 0) (.con (.int 1))) (.con (.int 48271))) (.con (.int 11))) (.con (.int 2147483647)))) (.cons (.ret (.bin .mod (.bin .fdiv (.bin .mod (.bin .mul (.idx (.var 0) (.con (.int 1))) (.idx (.var 0) (.con (.int 1)))) (.con (.int 2147483629))) (.con (.int 64))) (.var 1))) .nil)))
def c__law_all : C := (.cons (.set (.one 1) (.lst false (.cons (.mkx 0 (.var 0)) (.cons (.mkx 1 (.var 0)) (.cons (.mkx 2 (.var 0)) (.cons (.mkx 3 (.var 0)) (.cons (.mkx 4 (.var 0)) .nil))))))) (.cons (.ret (.bin .add (.var 1) (.lst false (.cons (.mkx 5 (.var 0)) (.cons (.mkx 6 (.var 0)) .nil))))) .nil))
def c__law_kinds : C := (.cons (.set (.one 1) (.lst false (.cons (.isx (.var 0) 5) (.cons (.isx (.var 0) 6) (.cons (.isx (.var 0) 7) .nil))))) (.cons (.set (.one 1) (.bin .add (.var 1) (.lst false (.cons (.isx (.var 0) 8) (.cons (.isx (.var 0) 9) .nil))))) (.cons (.ret (.bin .add (.var 1) (.lst false (.cons (.isx (.var 0) 10) (.cons (.isx (.var 0) 11) .nil))))) .nil)))
def fnames : List String := ["law", "_law_source", "_law_draw", "_law_all", "_law_kinds"]
def codes : List C := [c_law, c__law_source, c__law_draw, c__law_all, c__law_kinds]
def nvs : List Nat := [8, 5, 3, 2, 2]
def nps : List Nat := [1, 2, 2, 1, 1]
def dfs : List (List D) := [[], [], [], [], []]
def vrs : List Bool := [false, false, false, false, false]
def gls : List D := []
def subs : List (List Bool) := [[false, false, false, true, true, true, false, false, false, false, false, false], [false, false, false, true, true, false, true, false, false, false, false, false], [false, false, false, true, true, false, false, true, false, false, false, false], [false, false, false, true, true, false, false, false, true, false, false, false], [false, false, false, true, true, false, false, false, false, true, false, false], [false, false, false, true, true, false, false, false, false, false, true, false], [false, false, false, true, true, false, false, false, false, false, false, true]]
def efs : List (Option Nat) := [some 0, some 0, some 0, some 0, some 0, some 0, some 0]
def kos : List Bool := [false, false, false, false, false]
def sfns : List Nat := []
def nfns : List Nat := []
def nhps : List (Nat × Nat × List (Sum Nat D)) := []
def isfL : List (Nat × Nat) := []
def metL : List ((Nat × Nat) × Nat) := []
def prpL : List ((Nat × Nat) × Nat) := []
def cstL : List ((Nat × Nat) × D) := []
def iniL : List (Nat × Nat) := []
def isaL : List ((Nat × Nat) × Bool) := []
def shps : List (Nat × Nat × List (Sum Nat D)) := []
def pg : Pg := ⟨fun n => codes.getD n .nil, fun n => nvs.getD n 0, fun n => nps.getD n 0, fun n => dfs.getD n [], fun n => vrs.getD n false, fun g => gls.getD g .non, 10, fun k x => (subs.getD k []).getD x false, fun k => efs.getD k none, fun n => kos.getD n false, fun s => if s < 1000 then sfns.getD s 0 else nfns.getD (s - 1000) 0, fun s => if s < 1000 then shps.getD s (0, 0, []) else nhps.getD (s - 1000) (0, 0, []), fun c m => metL.lookup (c, m), fun c f => prpL.lookup (c, f), fun c f => cstL.lookup (c, f), fun c f => decide ((c, f) ∈ isfL), fun c => iniL.lookup c, fun k c => isaL.lookup (k, c)⟩
def Γ : Sy := ⟨[PySem.Str.ofString "law", PySem.Str.ofString "_law_source", PySem.Str.ofString "_law_draw", PySem.Str.ofString "_law_all", PySem.Str.ofString "_law_kinds"], [], fun g => ([] : List (Option (Str × Str))).getD g none, [PySem.Str.ofString "InvalidFrame", PySem.Str.ofString "InvalidTable", PySem.Str.ofString "InvalidCell", PySem.Str.ofString "InvalidNumber", PySem.Str.ofString "InvalidRules", PySem.Str.ofString "InvalidView", PySem.Str.ofString "InvalidQuery"], [PySem.Str.ofString "given"], none, [true, true, true, true, true, true, true], [PySem.Str.ofString "LookupError", PySem.Str.ofString "ArithmeticError", PySem.Str.ofString "RuntimeError", PySem.Str.ofString "SkyError", PySem.Str.ofString "ValueError", PySem.Str.ofString "InvalidFrame", PySem.Str.ofString "InvalidTable", PySem.Str.ofString "InvalidCell", PySem.Str.ofString "InvalidNumber", PySem.Str.ofString "InvalidRules", PySem.Str.ofString "InvalidView", PySem.Str.ofString "InvalidQuery"], [], [], fun s => ([] : List (Nat × Str × List Str)).lookup s⟩
abbrev s0 : Stmt := top 14
abbrev N0 : List Str := ["_law_script", "_law_k", "_law_source_here", "_law_number", "_law_item", "_law_at", "_law_error", "_law_place"]
theorem sc0 : FnScope N0 ["_law_script"] (defScope s0) := ⟨rfl, rfl, rfl, by decide +kernel, rfl, by decide +kernel, by decide +kernel⟩
theorem ck0 : ckSs Γ N0 (defScope s0) c_law (defBody s0) = true := by decide +kernel
abbrev s1 : Stmt := top 10
abbrev N1 : List Str := ["_law_script", "_law_k", "_law_cell", "_law_number", "_law_seed"]
theorem sc1 : FnScope N1 ["_law_script", "_law_k"] (defScope s1) := ⟨rfl, rfl, rfl, by decide +kernel, rfl, by decide +kernel, by decide +kernel⟩
theorem ck1 : ckSs Γ N1 (defScope s1) c__law_source (defBody s1) = true := by decide +kernel
abbrev s2 : Stmt := top 11
abbrev N2 : List Str := ["_law_source_here", "_law_amount", "_law_digit"]
theorem sc2 : FnScope N2 ["_law_source_here", "_law_amount"] (defScope s2) := ⟨rfl, rfl, rfl, by decide +kernel, rfl, by decide +kernel, by decide +kernel⟩
theorem ck2 : ckSs Γ N2 (defScope s2) c__law_draw (defBody s2) = true := by decide +kernel
abbrev s3 : Stmt := top 12
abbrev N3 : List Str := ["_law_item", "_law_result"]
theorem sc3 : FnScope N3 ["_law_item"] (defScope s3) := ⟨rfl, rfl, rfl, by decide +kernel, rfl, by decide +kernel, by decide +kernel⟩
theorem ck3 : ckSs Γ N3 (defScope s3) c__law_all (defBody s3) = true := by decide +kernel
abbrev s4 : Stmt := top 13
abbrev N4 : List Str := ["_law_error", "_law_result"]
theorem sc4 : FnScope N4 ["_law_error"] (defScope s4) := ⟨rfl, rfl, rfl, by decide +kernel, rfl, by decide +kernel, by decide +kernel⟩
theorem ck4 : ckSs Γ N4 (defScope s4) c__law_kinds (defBody s4) = true := by decide +kernel
end Law

namespace Law
open PySem L2 PyProof.Rows PV
abbrev si0 : Stmt := inClass (top 2) 0
abbrev si1 : Stmt := inClass (top 3) 0
abbrev si2 : Stmt := inClass (top 4) 0
abbrev si3 : Stmt := inClass (top 5) 0
abbrev si4 : Stmt := inClass (top 6) 0
abbrev si5 : Stmt := inClass (top 7) 0
abbrev si6 : Stmt := inClass (top 8) 0
def flN : List Str := [PySem.Str.ofString "given"]
theorem flN_inj : ∀ f, f < 1 → ∀ g, g < 1 → flN.getD f "" = flN.getD g "" → f = g := by decide +kernel
theorem all_mk {P : Program} {w : World} {K : PySem.W.Frag} {h : Heap} {mg : Str → Option Value} (X : K.In h) (G : h.Ns mainGlobals mg)
    {f0 f1 f2 f3 f4 S0 C0 I0 C1 I1 C2 I2 C3 I3 C4 I4 C5 I5 C6 I6 Y3 : Addr} {od0 an0 od1 an1 od2 an2 od3 an3 od4 an4 od100 an100 od101 an101 od102 an102 od103 an103 od104 an104 od105 an105 od106 an106 : Option Addr} {sl0 sl1 sl2 sl3 sl4 sl100 sl101 sl102 sl103 sl104 sl105 sl106 : Array (Option Value)} {oc0 kV0 dc0 pm0 cd0 ct0 oc1 kV1 dc1 pm1 cd1 ct1 oc2 kV2 dc2 pm2 cd2 ct2 oc3 kV3 dc3 pm3 cd3 ct3 oc4 kV4 dc4 pm4 cd4 ct4 oc100 kV100 dc100 pm100 cd100 ct100 oc101 kV101 dc101 pm101 cd101 ct101 oc102 kV102 dc102 pm102 cd102 ct102 oc103 kV103 dc103 pm103 cd103 ct103 oc104 kV104 dc104 pm104 cd104 ct104 oc105 kV105 dc105 pm105 cd105 ct105 oc106 kV106 dc106 pm106 cd106 ct106 : Value}  {nm0 q0} {bs0} {bm0} {N_0} {sn0} {sub0} {ab0} {col0} {dd0 ka0 kb0 kc0 kd0 ke0} {nm1 q1} {bs1} {bm1} {N_1} {sn1} {sub1} {ab1} {col1} {dd1 ka1 kb1 kc1 kd1 ke1} {nm2 q2} {bs2} {bm2} {N_2} {sn2} {sub2} {ab2} {col2} {dd2 ka2 kb2 kc2 kd2 ke2} {nm3 q3} {bs3} {bm3} {N_3} {sn3} {sub3} {ab3} {col3} {dd3 ka3 kb3 kc3 kd3 ke3} {nm4 q4} {bs4} {bm4} {N_4} {sn4} {sub4} {ab4} {col4} {dd4 ka4 kb4 kc4 kd4 ke4} {nm5 q5} {bs5} {bm5} {N_5} {sn5} {sub5} {ab5} {col5} {dd5 ka5 kb5 kc5 kd5 ke5} {nm6 q6} {bs6} {bm6} {N_6} {sn6} {sub6} {ab6} {col6} {dd6 ka6 kb6 kc6 kd6 ke6}  
    (a0 : PySem.W.nsIn K mainGlobals "law" = some (some (.ref f0)))
    (l0 : K.lookup f0 = some ⟨oc0, od0, .func (PySem.W.fnOf "law" "law" (defArgs s0) (defBody s0) (defScope s0) .none kV0 dc0 pm0 an0 cd0 ct0), sl0⟩)
    (c0 : PySem.W.codeIn K cd0 "law" = true)
    (k0 : PySem.W.keepIn K (.ref f0) = true)
    (a1 : PySem.W.nsIn K mainGlobals "_law_source" = some (some (.ref f1)))
    (l1 : K.lookup f1 = some ⟨oc1, od1, .func (PySem.W.fnOf "_law_source" "_law_source" (defArgs s1) (defBody s1) (defScope s1) .none kV1 dc1 pm1 an1 cd1 ct1), sl1⟩)
    (c1 : PySem.W.codeIn K cd1 "_law_source" = true)
    (k1 : PySem.W.keepIn K (.ref f1) = true)
    (a2 : PySem.W.nsIn K mainGlobals "_law_draw" = some (some (.ref f2)))
    (l2 : K.lookup f2 = some ⟨oc2, od2, .func (PySem.W.fnOf "_law_draw" "_law_draw" (defArgs s2) (defBody s2) (defScope s2) .none kV2 dc2 pm2 an2 cd2 ct2), sl2⟩)
    (c2 : PySem.W.codeIn K cd2 "_law_draw" = true)
    (k2 : PySem.W.keepIn K (.ref f2) = true)
    (a3 : PySem.W.nsIn K mainGlobals "_law_all" = some (some (.ref f3)))
    (l3 : K.lookup f3 = some ⟨oc3, od3, .func (PySem.W.fnOf "_law_all" "_law_all" (defArgs s3) (defBody s3) (defScope s3) .none kV3 dc3 pm3 an3 cd3 ct3), sl3⟩)
    (c3 : PySem.W.codeIn K cd3 "_law_all" = true)
    (k3 : PySem.W.keepIn K (.ref f3) = true)
    (a4 : PySem.W.nsIn K mainGlobals "_law_kinds" = some (some (.ref f4)))
    (l4 : K.lookup f4 = some ⟨oc4, od4, .func (PySem.W.fnOf "_law_kinds" "_law_kinds" (defArgs s4) (defBody s4) (defScope s4) .none kV4 dc4 pm4 an4 cd4 ct4), sl4⟩)
    (c4 : PySem.W.codeIn K cd4 "_law_kinds" = true)
    (k4 : PySem.W.keepIn K (.ref f4) = true)
    (y0 : PySem.W.nsIn K mainGlobals "SkyError" = some (some (.ref S0)))
    (yr0 : PySem.W.readsIn K S0 (.type "type") = true)
    (yg0 : PySem.W.specialIn K (.ref S0) "__getattribute__" = some (some (.builtin "type.__getattribute__")))
    (yi0 : PySem.W.findCls K (.ref S0) (.type "type") "__init__" = some (.val (.builtin "ValueError.__init__")))
    (x0 : PySem.W.nsIn K mainGlobals "InvalidFrame" = some (some (.ref C0)))
    (xga0 : PySem.W.findIn K (.ref C0) "__getattribute__" = some (some (.builtin "BaseException.__getattribute__")))
    (xgg0 : PySem.W.findIn K (.ref C0) "__getattr__" = some none)
    (xex0 : PySem.W.subIn K (.ref C0) (.type "BaseException") = some true)
    (xhd0 : PySem.W.hasDictIn K C0 = true)
    (xca0 : PySem.W.findIn K (.ref C0) "__class__" = some (some (.builtin "object.__class__")))
    (xcm0 : PySem.W.mroIn K C0 (.type "object") = some true)
    (xty0 : PySem.W.typeIn K (.ref C0) = some (.type "type"))
    (xk0 : PySem.W.keepIn K (.ref C0) = true)
    (xno0 : PySem.W.findIn K (.ref C0) "given" = some none)
    (xl0 : K.lookup C0 = some (excClassObj nm0 q0 C0 N_0 bs0 bm0 true sn0 sub0 ab0 col0 dd0 ka0 kb0 kc0 kd0 ke0 "ValueError.__new__"))
    (xv0 : PySem.HandSPX.refsVE bm0 = true)
    (xsa0 : PySem.W.findIn K (.ref C0) "__setattr__" = some (some (.builtin "object.__setattr__")))
    (xi0 : PySem.W.findIn K (.ref C0) "__init__" = some (some (.ref I0)))
    (xit0 : PySem.W.typeIn K (.ref I0) = some (.type "function"))
    (l100 : K.lookup I0 = some ⟨oc100, od100, .func (PySem.W.fnOf "__init__" "InvalidFrame.__init__" (defArgs si0) (defBody si0) (defScope si0) .none kV100 dc100 pm100 an100 cd100 ct100), sl100⟩)
    (c100 : PySem.W.codeIn K cd100 "InvalidFrame.__init__" = true)
    (k100 : PySem.W.keepIn K (.ref I0) = true)
    (x1 : PySem.W.nsIn K mainGlobals "InvalidTable" = some (some (.ref C1)))
    (xga1 : PySem.W.findIn K (.ref C1) "__getattribute__" = some (some (.builtin "BaseException.__getattribute__")))
    (xgg1 : PySem.W.findIn K (.ref C1) "__getattr__" = some none)
    (xex1 : PySem.W.subIn K (.ref C1) (.type "BaseException") = some true)
    (xhd1 : PySem.W.hasDictIn K C1 = true)
    (xca1 : PySem.W.findIn K (.ref C1) "__class__" = some (some (.builtin "object.__class__")))
    (xcm1 : PySem.W.mroIn K C1 (.type "object") = some true)
    (xty1 : PySem.W.typeIn K (.ref C1) = some (.type "type"))
    (xk1 : PySem.W.keepIn K (.ref C1) = true)
    (xno1 : PySem.W.findIn K (.ref C1) "given" = some none)
    (xl1 : K.lookup C1 = some (excClassObj nm1 q1 C1 N_1 bs1 bm1 true sn1 sub1 ab1 col1 dd1 ka1 kb1 kc1 kd1 ke1 "ValueError.__new__"))
    (xv1 : PySem.HandSPX.refsVE bm1 = true)
    (xsa1 : PySem.W.findIn K (.ref C1) "__setattr__" = some (some (.builtin "object.__setattr__")))
    (xi1 : PySem.W.findIn K (.ref C1) "__init__" = some (some (.ref I1)))
    (xit1 : PySem.W.typeIn K (.ref I1) = some (.type "function"))
    (l101 : K.lookup I1 = some ⟨oc101, od101, .func (PySem.W.fnOf "__init__" "InvalidTable.__init__" (defArgs si1) (defBody si1) (defScope si1) .none kV101 dc101 pm101 an101 cd101 ct101), sl101⟩)
    (c101 : PySem.W.codeIn K cd101 "InvalidTable.__init__" = true)
    (k101 : PySem.W.keepIn K (.ref I1) = true)
    (x2 : PySem.W.nsIn K mainGlobals "InvalidCell" = some (some (.ref C2)))
    (xga2 : PySem.W.findIn K (.ref C2) "__getattribute__" = some (some (.builtin "BaseException.__getattribute__")))
    (xgg2 : PySem.W.findIn K (.ref C2) "__getattr__" = some none)
    (xex2 : PySem.W.subIn K (.ref C2) (.type "BaseException") = some true)
    (xhd2 : PySem.W.hasDictIn K C2 = true)
    (xca2 : PySem.W.findIn K (.ref C2) "__class__" = some (some (.builtin "object.__class__")))
    (xcm2 : PySem.W.mroIn K C2 (.type "object") = some true)
    (xty2 : PySem.W.typeIn K (.ref C2) = some (.type "type"))
    (xk2 : PySem.W.keepIn K (.ref C2) = true)
    (xno2 : PySem.W.findIn K (.ref C2) "given" = some none)
    (xl2 : K.lookup C2 = some (excClassObj nm2 q2 C2 N_2 bs2 bm2 true sn2 sub2 ab2 col2 dd2 ka2 kb2 kc2 kd2 ke2 "ValueError.__new__"))
    (xv2 : PySem.HandSPX.refsVE bm2 = true)
    (xsa2 : PySem.W.findIn K (.ref C2) "__setattr__" = some (some (.builtin "object.__setattr__")))
    (xi2 : PySem.W.findIn K (.ref C2) "__init__" = some (some (.ref I2)))
    (xit2 : PySem.W.typeIn K (.ref I2) = some (.type "function"))
    (l102 : K.lookup I2 = some ⟨oc102, od102, .func (PySem.W.fnOf "__init__" "InvalidCell.__init__" (defArgs si2) (defBody si2) (defScope si2) .none kV102 dc102 pm102 an102 cd102 ct102), sl102⟩)
    (c102 : PySem.W.codeIn K cd102 "InvalidCell.__init__" = true)
    (k102 : PySem.W.keepIn K (.ref I2) = true)
    (x3 : PySem.W.nsIn K mainGlobals "InvalidNumber" = some (some (.ref C3)))
    (xga3 : PySem.W.findIn K (.ref C3) "__getattribute__" = some (some (.builtin "BaseException.__getattribute__")))
    (xgg3 : PySem.W.findIn K (.ref C3) "__getattr__" = some none)
    (xex3 : PySem.W.subIn K (.ref C3) (.type "BaseException") = some true)
    (xhd3 : PySem.W.hasDictIn K C3 = true)
    (xca3 : PySem.W.findIn K (.ref C3) "__class__" = some (some (.builtin "object.__class__")))
    (xcm3 : PySem.W.mroIn K C3 (.type "object") = some true)
    (xty3 : PySem.W.typeIn K (.ref C3) = some (.type "type"))
    (xk3 : PySem.W.keepIn K (.ref C3) = true)
    (xno3 : PySem.W.findIn K (.ref C3) "given" = some none)
    (xl3 : K.lookup C3 = some (excClassObj nm3 q3 C3 N_3 bs3 bm3 true sn3 sub3 ab3 col3 dd3 ka3 kb3 kc3 kd3 ke3 "ValueError.__new__"))
    (xv3 : PySem.HandSPX.refsVE bm3 = true)
    (xsa3 : PySem.W.findIn K (.ref C3) "__setattr__" = some (some (.builtin "object.__setattr__")))
    (xi3 : PySem.W.findIn K (.ref C3) "__init__" = some (some (.ref I3)))
    (xit3 : PySem.W.typeIn K (.ref I3) = some (.type "function"))
    (l103 : K.lookup I3 = some ⟨oc103, od103, .func (PySem.W.fnOf "__init__" "InvalidNumber.__init__" (defArgs si3) (defBody si3) (defScope si3) .none kV103 dc103 pm103 an103 cd103 ct103), sl103⟩)
    (c103 : PySem.W.codeIn K cd103 "InvalidNumber.__init__" = true)
    (k103 : PySem.W.keepIn K (.ref I3) = true)
    (x4 : PySem.W.nsIn K mainGlobals "InvalidRules" = some (some (.ref C4)))
    (xga4 : PySem.W.findIn K (.ref C4) "__getattribute__" = some (some (.builtin "BaseException.__getattribute__")))
    (xgg4 : PySem.W.findIn K (.ref C4) "__getattr__" = some none)
    (xex4 : PySem.W.subIn K (.ref C4) (.type "BaseException") = some true)
    (xhd4 : PySem.W.hasDictIn K C4 = true)
    (xca4 : PySem.W.findIn K (.ref C4) "__class__" = some (some (.builtin "object.__class__")))
    (xcm4 : PySem.W.mroIn K C4 (.type "object") = some true)
    (xty4 : PySem.W.typeIn K (.ref C4) = some (.type "type"))
    (xk4 : PySem.W.keepIn K (.ref C4) = true)
    (xno4 : PySem.W.findIn K (.ref C4) "given" = some none)
    (xl4 : K.lookup C4 = some (excClassObj nm4 q4 C4 N_4 bs4 bm4 true sn4 sub4 ab4 col4 dd4 ka4 kb4 kc4 kd4 ke4 "ValueError.__new__"))
    (xv4 : PySem.HandSPX.refsVE bm4 = true)
    (xsa4 : PySem.W.findIn K (.ref C4) "__setattr__" = some (some (.builtin "object.__setattr__")))
    (xi4 : PySem.W.findIn K (.ref C4) "__init__" = some (some (.ref I4)))
    (xit4 : PySem.W.typeIn K (.ref I4) = some (.type "function"))
    (l104 : K.lookup I4 = some ⟨oc104, od104, .func (PySem.W.fnOf "__init__" "InvalidRules.__init__" (defArgs si4) (defBody si4) (defScope si4) .none kV104 dc104 pm104 an104 cd104 ct104), sl104⟩)
    (c104 : PySem.W.codeIn K cd104 "InvalidRules.__init__" = true)
    (k104 : PySem.W.keepIn K (.ref I4) = true)
    (x5 : PySem.W.nsIn K mainGlobals "InvalidView" = some (some (.ref C5)))
    (xga5 : PySem.W.findIn K (.ref C5) "__getattribute__" = some (some (.builtin "BaseException.__getattribute__")))
    (xgg5 : PySem.W.findIn K (.ref C5) "__getattr__" = some none)
    (xex5 : PySem.W.subIn K (.ref C5) (.type "BaseException") = some true)
    (xhd5 : PySem.W.hasDictIn K C5 = true)
    (xca5 : PySem.W.findIn K (.ref C5) "__class__" = some (some (.builtin "object.__class__")))
    (xcm5 : PySem.W.mroIn K C5 (.type "object") = some true)
    (xty5 : PySem.W.typeIn K (.ref C5) = some (.type "type"))
    (xk5 : PySem.W.keepIn K (.ref C5) = true)
    (xno5 : PySem.W.findIn K (.ref C5) "given" = some none)
    (xl5 : K.lookup C5 = some (excClassObj nm5 q5 C5 N_5 bs5 bm5 true sn5 sub5 ab5 col5 dd5 ka5 kb5 kc5 kd5 ke5 "ValueError.__new__"))
    (xv5 : PySem.HandSPX.refsVE bm5 = true)
    (xsa5 : PySem.W.findIn K (.ref C5) "__setattr__" = some (some (.builtin "object.__setattr__")))
    (xi5 : PySem.W.findIn K (.ref C5) "__init__" = some (some (.ref I5)))
    (xit5 : PySem.W.typeIn K (.ref I5) = some (.type "function"))
    (l105 : K.lookup I5 = some ⟨oc105, od105, .func (PySem.W.fnOf "__init__" "InvalidView.__init__" (defArgs si5) (defBody si5) (defScope si5) .none kV105 dc105 pm105 an105 cd105 ct105), sl105⟩)
    (c105 : PySem.W.codeIn K cd105 "InvalidView.__init__" = true)
    (k105 : PySem.W.keepIn K (.ref I5) = true)
    (x6 : PySem.W.nsIn K mainGlobals "InvalidQuery" = some (some (.ref C6)))
    (xga6 : PySem.W.findIn K (.ref C6) "__getattribute__" = some (some (.builtin "BaseException.__getattribute__")))
    (xgg6 : PySem.W.findIn K (.ref C6) "__getattr__" = some none)
    (xex6 : PySem.W.subIn K (.ref C6) (.type "BaseException") = some true)
    (xhd6 : PySem.W.hasDictIn K C6 = true)
    (xca6 : PySem.W.findIn K (.ref C6) "__class__" = some (some (.builtin "object.__class__")))
    (xcm6 : PySem.W.mroIn K C6 (.type "object") = some true)
    (xty6 : PySem.W.typeIn K (.ref C6) = some (.type "type"))
    (xk6 : PySem.W.keepIn K (.ref C6) = true)
    (xno6 : PySem.W.findIn K (.ref C6) "given" = some none)
    (xl6 : K.lookup C6 = some (excClassObj nm6 q6 C6 N_6 bs6 bm6 true sn6 sub6 ab6 col6 dd6 ka6 kb6 kc6 kd6 ke6 "ValueError.__new__"))
    (xv6 : PySem.HandSPX.refsVE bm6 = true)
    (xsa6 : PySem.W.findIn K (.ref C6) "__setattr__" = some (some (.builtin "object.__setattr__")))
    (xi6 : PySem.W.findIn K (.ref C6) "__init__" = some (some (.ref I6)))
    (xit6 : PySem.W.typeIn K (.ref I6) = some (.type "function"))
    (l106 : K.lookup I6 = some ⟨oc106, od106, .func (PySem.W.fnOf "__init__" "InvalidQuery.__init__" (defArgs si6) (defBody si6) (defScope si6) .none kV106 dc106 pm106 an106 cd106 ct106), sl106⟩)
    (c106 : PySem.W.codeIn K cd106 "InvalidQuery.__init__" = true)
    (k106 : PySem.W.keepIn K (.ref I6) = true)
    (xcn : PySem.W.specialIn K (.builtin "object.__class__") "__get__" = some (some (.builtin "getset_descriptor.__get__")))
    (xct : PySem.W.takesIn K (.builtin "object.__class__") = some true)
    (ty0 : PySem.W.nsIn K mainGlobals "LookupError" = some none)
    (ty1 : PySem.W.nsIn K mainGlobals "ArithmeticError" = some none)
    (ty2 : PySem.W.nsIn K mainGlobals "RuntimeError" = some none)
    (ty3 : PySem.W.nsIn K mainGlobals "SkyError" = some (some (.ref Y3)))
    (ty4 : PySem.W.nsIn K mainGlobals "ValueError" = some none)
    (xs0_0 : PySem.W.exmOne K (.ref C0) (.type "LookupError") = some false)
    (xq0_0 : PySem.W.kitOne K (.ref C0) (.type "LookupError") = some false)
    (xs0_1 : PySem.W.exmOne K (.ref C0) (.type "ArithmeticError") = some false)
    (xq0_1 : PySem.W.kitOne K (.ref C0) (.type "ArithmeticError") = some false)
    (xs0_2 : PySem.W.exmOne K (.ref C0) (.type "RuntimeError") = some false)
    (xq0_2 : PySem.W.kitOne K (.ref C0) (.type "RuntimeError") = some false)
    (xs0_3 : PySem.W.exmOne K (.ref C0) (.ref Y3) = some true)
    (xq0_3 : PySem.W.kitOne K (.ref C0) (.ref Y3) = some true)
    (xs0_4 : PySem.W.exmOne K (.ref C0) (.type "ValueError") = some true)
    (xq0_4 : PySem.W.kitOne K (.ref C0) (.type "ValueError") = some true)
    (xs0_5 : PySem.W.exmOne K (.ref C0) (.ref C0) = some true)
    (xq0_5 : PySem.W.kitOne K (.ref C0) (.ref C0) = some true)
    (xs0_6 : PySem.W.exmOne K (.ref C0) (.ref C1) = some false)
    (xq0_6 : PySem.W.kitOne K (.ref C0) (.ref C1) = some false)
    (xs0_7 : PySem.W.exmOne K (.ref C0) (.ref C2) = some false)
    (xq0_7 : PySem.W.kitOne K (.ref C0) (.ref C2) = some false)
    (xs0_8 : PySem.W.exmOne K (.ref C0) (.ref C3) = some false)
    (xq0_8 : PySem.W.kitOne K (.ref C0) (.ref C3) = some false)
    (xs0_9 : PySem.W.exmOne K (.ref C0) (.ref C4) = some false)
    (xq0_9 : PySem.W.kitOne K (.ref C0) (.ref C4) = some false)
    (xs0_10 : PySem.W.exmOne K (.ref C0) (.ref C5) = some false)
    (xq0_10 : PySem.W.kitOne K (.ref C0) (.ref C5) = some false)
    (xs0_11 : PySem.W.exmOne K (.ref C0) (.ref C6) = some false)
    (xq0_11 : PySem.W.kitOne K (.ref C0) (.ref C6) = some false)
    (xs1_0 : PySem.W.exmOne K (.ref C1) (.type "LookupError") = some false)
    (xq1_0 : PySem.W.kitOne K (.ref C1) (.type "LookupError") = some false)
    (xs1_1 : PySem.W.exmOne K (.ref C1) (.type "ArithmeticError") = some false)
    (xq1_1 : PySem.W.kitOne K (.ref C1) (.type "ArithmeticError") = some false)
    (xs1_2 : PySem.W.exmOne K (.ref C1) (.type "RuntimeError") = some false)
    (xq1_2 : PySem.W.kitOne K (.ref C1) (.type "RuntimeError") = some false)
    (xs1_3 : PySem.W.exmOne K (.ref C1) (.ref Y3) = some true)
    (xq1_3 : PySem.W.kitOne K (.ref C1) (.ref Y3) = some true)
    (xs1_4 : PySem.W.exmOne K (.ref C1) (.type "ValueError") = some true)
    (xq1_4 : PySem.W.kitOne K (.ref C1) (.type "ValueError") = some true)
    (xs1_5 : PySem.W.exmOne K (.ref C1) (.ref C0) = some false)
    (xq1_5 : PySem.W.kitOne K (.ref C1) (.ref C0) = some false)
    (xs1_6 : PySem.W.exmOne K (.ref C1) (.ref C1) = some true)
    (xq1_6 : PySem.W.kitOne K (.ref C1) (.ref C1) = some true)
    (xs1_7 : PySem.W.exmOne K (.ref C1) (.ref C2) = some false)
    (xq1_7 : PySem.W.kitOne K (.ref C1) (.ref C2) = some false)
    (xs1_8 : PySem.W.exmOne K (.ref C1) (.ref C3) = some false)
    (xq1_8 : PySem.W.kitOne K (.ref C1) (.ref C3) = some false)
    (xs1_9 : PySem.W.exmOne K (.ref C1) (.ref C4) = some false)
    (xq1_9 : PySem.W.kitOne K (.ref C1) (.ref C4) = some false)
    (xs1_10 : PySem.W.exmOne K (.ref C1) (.ref C5) = some false)
    (xq1_10 : PySem.W.kitOne K (.ref C1) (.ref C5) = some false)
    (xs1_11 : PySem.W.exmOne K (.ref C1) (.ref C6) = some false)
    (xq1_11 : PySem.W.kitOne K (.ref C1) (.ref C6) = some false)
    (xs2_0 : PySem.W.exmOne K (.ref C2) (.type "LookupError") = some false)
    (xq2_0 : PySem.W.kitOne K (.ref C2) (.type "LookupError") = some false)
    (xs2_1 : PySem.W.exmOne K (.ref C2) (.type "ArithmeticError") = some false)
    (xq2_1 : PySem.W.kitOne K (.ref C2) (.type "ArithmeticError") = some false)
    (xs2_2 : PySem.W.exmOne K (.ref C2) (.type "RuntimeError") = some false)
    (xq2_2 : PySem.W.kitOne K (.ref C2) (.type "RuntimeError") = some false)
    (xs2_3 : PySem.W.exmOne K (.ref C2) (.ref Y3) = some true)
    (xq2_3 : PySem.W.kitOne K (.ref C2) (.ref Y3) = some true)
    (xs2_4 : PySem.W.exmOne K (.ref C2) (.type "ValueError") = some true)
    (xq2_4 : PySem.W.kitOne K (.ref C2) (.type "ValueError") = some true)
    (xs2_5 : PySem.W.exmOne K (.ref C2) (.ref C0) = some false)
    (xq2_5 : PySem.W.kitOne K (.ref C2) (.ref C0) = some false)
    (xs2_6 : PySem.W.exmOne K (.ref C2) (.ref C1) = some false)
    (xq2_6 : PySem.W.kitOne K (.ref C2) (.ref C1) = some false)
    (xs2_7 : PySem.W.exmOne K (.ref C2) (.ref C2) = some true)
    (xq2_7 : PySem.W.kitOne K (.ref C2) (.ref C2) = some true)
    (xs2_8 : PySem.W.exmOne K (.ref C2) (.ref C3) = some false)
    (xq2_8 : PySem.W.kitOne K (.ref C2) (.ref C3) = some false)
    (xs2_9 : PySem.W.exmOne K (.ref C2) (.ref C4) = some false)
    (xq2_9 : PySem.W.kitOne K (.ref C2) (.ref C4) = some false)
    (xs2_10 : PySem.W.exmOne K (.ref C2) (.ref C5) = some false)
    (xq2_10 : PySem.W.kitOne K (.ref C2) (.ref C5) = some false)
    (xs2_11 : PySem.W.exmOne K (.ref C2) (.ref C6) = some false)
    (xq2_11 : PySem.W.kitOne K (.ref C2) (.ref C6) = some false)
    (xs3_0 : PySem.W.exmOne K (.ref C3) (.type "LookupError") = some false)
    (xq3_0 : PySem.W.kitOne K (.ref C3) (.type "LookupError") = some false)
    (xs3_1 : PySem.W.exmOne K (.ref C3) (.type "ArithmeticError") = some false)
    (xq3_1 : PySem.W.kitOne K (.ref C3) (.type "ArithmeticError") = some false)
    (xs3_2 : PySem.W.exmOne K (.ref C3) (.type "RuntimeError") = some false)
    (xq3_2 : PySem.W.kitOne K (.ref C3) (.type "RuntimeError") = some false)
    (xs3_3 : PySem.W.exmOne K (.ref C3) (.ref Y3) = some true)
    (xq3_3 : PySem.W.kitOne K (.ref C3) (.ref Y3) = some true)
    (xs3_4 : PySem.W.exmOne K (.ref C3) (.type "ValueError") = some true)
    (xq3_4 : PySem.W.kitOne K (.ref C3) (.type "ValueError") = some true)
    (xs3_5 : PySem.W.exmOne K (.ref C3) (.ref C0) = some false)
    (xq3_5 : PySem.W.kitOne K (.ref C3) (.ref C0) = some false)
    (xs3_6 : PySem.W.exmOne K (.ref C3) (.ref C1) = some false)
    (xq3_6 : PySem.W.kitOne K (.ref C3) (.ref C1) = some false)
    (xs3_7 : PySem.W.exmOne K (.ref C3) (.ref C2) = some false)
    (xq3_7 : PySem.W.kitOne K (.ref C3) (.ref C2) = some false)
    (xs3_8 : PySem.W.exmOne K (.ref C3) (.ref C3) = some true)
    (xq3_8 : PySem.W.kitOne K (.ref C3) (.ref C3) = some true)
    (xs3_9 : PySem.W.exmOne K (.ref C3) (.ref C4) = some false)
    (xq3_9 : PySem.W.kitOne K (.ref C3) (.ref C4) = some false)
    (xs3_10 : PySem.W.exmOne K (.ref C3) (.ref C5) = some false)
    (xq3_10 : PySem.W.kitOne K (.ref C3) (.ref C5) = some false)
    (xs3_11 : PySem.W.exmOne K (.ref C3) (.ref C6) = some false)
    (xq3_11 : PySem.W.kitOne K (.ref C3) (.ref C6) = some false)
    (xs4_0 : PySem.W.exmOne K (.ref C4) (.type "LookupError") = some false)
    (xq4_0 : PySem.W.kitOne K (.ref C4) (.type "LookupError") = some false)
    (xs4_1 : PySem.W.exmOne K (.ref C4) (.type "ArithmeticError") = some false)
    (xq4_1 : PySem.W.kitOne K (.ref C4) (.type "ArithmeticError") = some false)
    (xs4_2 : PySem.W.exmOne K (.ref C4) (.type "RuntimeError") = some false)
    (xq4_2 : PySem.W.kitOne K (.ref C4) (.type "RuntimeError") = some false)
    (xs4_3 : PySem.W.exmOne K (.ref C4) (.ref Y3) = some true)
    (xq4_3 : PySem.W.kitOne K (.ref C4) (.ref Y3) = some true)
    (xs4_4 : PySem.W.exmOne K (.ref C4) (.type "ValueError") = some true)
    (xq4_4 : PySem.W.kitOne K (.ref C4) (.type "ValueError") = some true)
    (xs4_5 : PySem.W.exmOne K (.ref C4) (.ref C0) = some false)
    (xq4_5 : PySem.W.kitOne K (.ref C4) (.ref C0) = some false)
    (xs4_6 : PySem.W.exmOne K (.ref C4) (.ref C1) = some false)
    (xq4_6 : PySem.W.kitOne K (.ref C4) (.ref C1) = some false)
    (xs4_7 : PySem.W.exmOne K (.ref C4) (.ref C2) = some false)
    (xq4_7 : PySem.W.kitOne K (.ref C4) (.ref C2) = some false)
    (xs4_8 : PySem.W.exmOne K (.ref C4) (.ref C3) = some false)
    (xq4_8 : PySem.W.kitOne K (.ref C4) (.ref C3) = some false)
    (xs4_9 : PySem.W.exmOne K (.ref C4) (.ref C4) = some true)
    (xq4_9 : PySem.W.kitOne K (.ref C4) (.ref C4) = some true)
    (xs4_10 : PySem.W.exmOne K (.ref C4) (.ref C5) = some false)
    (xq4_10 : PySem.W.kitOne K (.ref C4) (.ref C5) = some false)
    (xs4_11 : PySem.W.exmOne K (.ref C4) (.ref C6) = some false)
    (xq4_11 : PySem.W.kitOne K (.ref C4) (.ref C6) = some false)
    (xs5_0 : PySem.W.exmOne K (.ref C5) (.type "LookupError") = some false)
    (xq5_0 : PySem.W.kitOne K (.ref C5) (.type "LookupError") = some false)
    (xs5_1 : PySem.W.exmOne K (.ref C5) (.type "ArithmeticError") = some false)
    (xq5_1 : PySem.W.kitOne K (.ref C5) (.type "ArithmeticError") = some false)
    (xs5_2 : PySem.W.exmOne K (.ref C5) (.type "RuntimeError") = some false)
    (xq5_2 : PySem.W.kitOne K (.ref C5) (.type "RuntimeError") = some false)
    (xs5_3 : PySem.W.exmOne K (.ref C5) (.ref Y3) = some true)
    (xq5_3 : PySem.W.kitOne K (.ref C5) (.ref Y3) = some true)
    (xs5_4 : PySem.W.exmOne K (.ref C5) (.type "ValueError") = some true)
    (xq5_4 : PySem.W.kitOne K (.ref C5) (.type "ValueError") = some true)
    (xs5_5 : PySem.W.exmOne K (.ref C5) (.ref C0) = some false)
    (xq5_5 : PySem.W.kitOne K (.ref C5) (.ref C0) = some false)
    (xs5_6 : PySem.W.exmOne K (.ref C5) (.ref C1) = some false)
    (xq5_6 : PySem.W.kitOne K (.ref C5) (.ref C1) = some false)
    (xs5_7 : PySem.W.exmOne K (.ref C5) (.ref C2) = some false)
    (xq5_7 : PySem.W.kitOne K (.ref C5) (.ref C2) = some false)
    (xs5_8 : PySem.W.exmOne K (.ref C5) (.ref C3) = some false)
    (xq5_8 : PySem.W.kitOne K (.ref C5) (.ref C3) = some false)
    (xs5_9 : PySem.W.exmOne K (.ref C5) (.ref C4) = some false)
    (xq5_9 : PySem.W.kitOne K (.ref C5) (.ref C4) = some false)
    (xs5_10 : PySem.W.exmOne K (.ref C5) (.ref C5) = some true)
    (xq5_10 : PySem.W.kitOne K (.ref C5) (.ref C5) = some true)
    (xs5_11 : PySem.W.exmOne K (.ref C5) (.ref C6) = some false)
    (xq5_11 : PySem.W.kitOne K (.ref C5) (.ref C6) = some false)
    (xs6_0 : PySem.W.exmOne K (.ref C6) (.type "LookupError") = some false)
    (xq6_0 : PySem.W.kitOne K (.ref C6) (.type "LookupError") = some false)
    (xs6_1 : PySem.W.exmOne K (.ref C6) (.type "ArithmeticError") = some false)
    (xq6_1 : PySem.W.kitOne K (.ref C6) (.type "ArithmeticError") = some false)
    (xs6_2 : PySem.W.exmOne K (.ref C6) (.type "RuntimeError") = some false)
    (xq6_2 : PySem.W.kitOne K (.ref C6) (.type "RuntimeError") = some false)
    (xs6_3 : PySem.W.exmOne K (.ref C6) (.ref Y3) = some true)
    (xq6_3 : PySem.W.kitOne K (.ref C6) (.ref Y3) = some true)
    (xs6_4 : PySem.W.exmOne K (.ref C6) (.type "ValueError") = some true)
    (xq6_4 : PySem.W.kitOne K (.ref C6) (.type "ValueError") = some true)
    (xs6_5 : PySem.W.exmOne K (.ref C6) (.ref C0) = some false)
    (xq6_5 : PySem.W.kitOne K (.ref C6) (.ref C0) = some false)
    (xs6_6 : PySem.W.exmOne K (.ref C6) (.ref C1) = some false)
    (xq6_6 : PySem.W.kitOne K (.ref C6) (.ref C1) = some false)
    (xs6_7 : PySem.W.exmOne K (.ref C6) (.ref C2) = some false)
    (xq6_7 : PySem.W.kitOne K (.ref C6) (.ref C2) = some false)
    (xs6_8 : PySem.W.exmOne K (.ref C6) (.ref C3) = some false)
    (xq6_8 : PySem.W.kitOne K (.ref C6) (.ref C3) = some false)
    (xs6_9 : PySem.W.exmOne K (.ref C6) (.ref C4) = some false)
    (xq6_9 : PySem.W.kitOne K (.ref C6) (.ref C4) = some false)
    (xs6_10 : PySem.W.exmOne K (.ref C6) (.ref C5) = some false)
    (xq6_10 : PySem.W.kitOne K (.ref C6) (.ref C5) = some false)
    (xs6_11 : PySem.W.exmOne K (.ref C6) (.ref C6) = some true)
    (xq6_11 : PySem.W.kitOne K (.ref C6) (.ref C6) = some true)
    (z_len : PySem.W.nsIn K mainGlobals "len" = some none)
    (z_max : PySem.W.nsIn K mainGlobals "max" = some none)
    (z_min : PySem.W.nsIn K mainGlobals "min" = some none)
    (z_abs : PySem.W.nsIn K mainGlobals "abs" = some none)
    (z_all : PySem.W.nsIn K mainGlobals "all" = some none)
    (z_any : PySem.W.nsIn K mainGlobals "any" = some none)
    (z_sum : PySem.W.nsIn K mainGlobals "sum" = some none)
    (z_list : PySem.W.nsIn K mainGlobals "list" = some none)
    (z_tuple : PySem.W.nsIn K mainGlobals "tuple" = some none)
    (z_repr : PySem.W.nsIn K mainGlobals "repr" = some none)
    (z_int : PySem.W.nsIn K mainGlobals "int" = some none)
    (z_isinstance : PySem.W.nsIn K mainGlobals "isinstance" = some none)
    (z_bool : PySem.W.nsIn K mainGlobals "bool" = some none)
    (z_str : PySem.W.nsIn K mainGlobals "str" = some none)
    (z_dict : PySem.W.nsIn K mainGlobals "dict" = some none)
    (z_range : PySem.W.nsIn K mainGlobals "range" = some none)
    (z_enumerate : PySem.W.nsIn K mainGlobals "enumerate" = some none)
    (z_zip : PySem.W.nsIn K mainGlobals "zip" = some none)
    (z_set : PySem.W.nsIn K mainGlobals "set" = some none)
    (z_sorted : PySem.W.nsIn K mainGlobals "sorted" = some none)
    : ∃ T : Tb, ∀ base : Heap, K.In base → base.Ns mainGlobals mg → Hd Γ T pg P w K mg base := by
  have F0 := fun_mk (st := s0) l0 c0 k0
  have B0 := F0.binds (ps := ["_law_script"]) fun _ _ _ _ _ _ us hl => match us, hl with | [_], _ => rfl
  have F1 := fun_mk (st := s1) l1 c1 k1
  have B1 := F1.binds (ps := ["_law_script", "_law_k"]) fun _ _ _ _ _ _ us hl => match us, hl with | [_, _], _ => rfl
  have F2 := fun_mk (st := s2) l2 c2 k2
  have B2 := F2.binds (ps := ["_law_source_here", "_law_amount"]) fun _ _ _ _ _ _ us hl => match us, hl with | [_, _], _ => rfl
  have F3 := fun_mk (st := s3) l3 c3 k3
  have B3 := F3.binds (ps := ["_law_item"]) fun _ _ _ _ _ _ us hl => match us, hl with | [_], _ => rfl
  have F4 := fun_mk (st := s4) l4 c4 k4
  have B4 := F4.binds (ps := ["_law_error"]) fun _ _ _ _ _ _ us hl => match us, hl with | [_], _ => rfl
  have F100 := fun_mk (st := si0) l100 c100 k100
  have B100 := F100.binds (ps := ["self", "given"]) fun _ _ _ _ _ _ us hl => match us, hl with | [_, _], _ => rfl
  have O0 : OexC K C0 := ⟨⟨_, _, _, _, _, _, _, _, _, _, _, _, _, _, _, xl0, xv0⟩, xsa0, xex0, xty0, xk0⟩
  have F101 := fun_mk (st := si1) l101 c101 k101
  have B101 := F101.binds (ps := ["self", "given"]) fun _ _ _ _ _ _ us hl => match us, hl with | [_, _], _ => rfl
  have O1 : OexC K C1 := ⟨⟨_, _, _, _, _, _, _, _, _, _, _, _, _, _, _, xl1, xv1⟩, xsa1, xex1, xty1, xk1⟩
  have F102 := fun_mk (st := si2) l102 c102 k102
  have B102 := F102.binds (ps := ["self", "given"]) fun _ _ _ _ _ _ us hl => match us, hl with | [_, _], _ => rfl
  have O2 : OexC K C2 := ⟨⟨_, _, _, _, _, _, _, _, _, _, _, _, _, _, _, xl2, xv2⟩, xsa2, xex2, xty2, xk2⟩
  have F103 := fun_mk (st := si3) l103 c103 k103
  have B103 := F103.binds (ps := ["self", "given"]) fun _ _ _ _ _ _ us hl => match us, hl with | [_, _], _ => rfl
  have O3 : OexC K C3 := ⟨⟨_, _, _, _, _, _, _, _, _, _, _, _, _, _, _, xl3, xv3⟩, xsa3, xex3, xty3, xk3⟩
  have F104 := fun_mk (st := si4) l104 c104 k104
  have B104 := F104.binds (ps := ["self", "given"]) fun _ _ _ _ _ _ us hl => match us, hl with | [_, _], _ => rfl
  have O4 : OexC K C4 := ⟨⟨_, _, _, _, _, _, _, _, _, _, _, _, _, _, _, xl4, xv4⟩, xsa4, xex4, xty4, xk4⟩
  have F105 := fun_mk (st := si5) l105 c105 k105
  have B105 := F105.binds (ps := ["self", "given"]) fun _ _ _ _ _ _ us hl => match us, hl with | [_, _], _ => rfl
  have O5 : OexC K C5 := ⟨⟨_, _, _, _, _, _, _, _, _, _, _, _, _, _, _, xl5, xv5⟩, xsa5, xex5, xty5, xk5⟩
  have F106 := fun_mk (st := si6) l106 c106 k106
  have B106 := F106.binds (ps := ["self", "given"]) fun _ _ _ _ _ _ us hl => match us, hl with | [_, _], _ => rfl
  have O6 : OexC K C6 := ⟨⟨_, _, _, _, _, _, _, _, _, _, _, _, _, _, _, xl6, xv6⟩, xsa6, xex6, xty6, xk6⟩
  refine ⟨⟨K, fun k => ([C0, C1, C2, C3, C4, C5, C6] : List Addr).getD k 0, fun f => flN.getD f "", fun k => efs.getD k none, 7, fun j => ([.bi "LookupError", .bi "ArithmeticError", .bi "RuntimeError", .own Y3, .bi "ValueError", .own C0, .own C1, .own C2, .own C3, .own C4, .own C5, .own C6] : List Tc).getD j (.own 0), fun k => ([] : List Addr).getD k 0, fun n => ([f0, f1, f2, f3, f4] : List Addr).getD n 0, fun s => ([] : List Addr).getD (s - 1000) 0, 1, fun f g hf hg e => flN_inj f hf g hg e⟩, fun base kb nb => ?_⟩
  refine ⟨rfl, ?_, ?_, ?_, ?_, ?_, rfl, ?_, ?_, ?_, ?_, rfl, ?_, ?_, ?_, ?_, ?_, ?_, ?_, ?_, ?_, ?_⟩
  · intro n x hn
    match n, hn with
    | 0, hn => cases hn; exact ⟨f0, s0, N0, _, _, _, _, _, _, _, _, _, _, _, PySem.W.mg_of X G a0, k0, l0, c0, (.plain rfl rfl rfl rfl B0), sc0, rfl, ck0⟩
    | 1, hn => cases hn; exact ⟨f1, s1, N1, _, _, _, _, _, _, _, _, _, _, _, PySem.W.mg_of X G a1, k1, l1, c1, (.plain rfl rfl rfl rfl B1), sc1, rfl, ck1⟩
    | 2, hn => cases hn; exact ⟨f2, s2, N2, _, _, _, _, _, _, _, _, _, _, _, PySem.W.mg_of X G a2, k2, l2, c2, (.plain rfl rfl rfl rfl B2), sc2, rfl, ck2⟩
    | 3, hn => cases hn; exact ⟨f3, s3, N3, _, _, _, _, _, _, _, _, _, _, _, PySem.W.mg_of X G a3, k3, l3, c3, (.plain rfl rfl rfl rfl B3), sc3, rfl, ck3⟩
    | 4, hn => cases hn; exact ⟨f4, s4, N4, _, _, _, _, _, _, _, _, _, _, _, PySem.W.mg_of X G a4, k4, l4, c4, (.plain rfl rfl rfl rfl B4), sc4, rfl, ck4⟩
    | n + 5, hn => exact absurd hn (by simp [Γ])
  · intro s x ks hs
    match s, hs with
    | s + 0, hs => exact absurd hs (by simp [Γ])
  · intro g x hg
    match g, hg with
    | g + 0, hg => exact absurd hg (by simp [Γ])
  · intro g x f hg
    match g, hg with
    | g + 0, hg => exact absurd hg (by simp [Γ])
  · intro x hx
    simp only [bltNames, List.mem_cons, List.not_mem_nil, or_false] at hx
    rcases hx with rfl | rfl | rfl | rfl | rfl | rfl | rfl | rfl | rfl | rfl | rfl | rfl | rfl | rfl | rfl | rfl | rfl | rfl | rfl | rfl
    · exact PySem.W.mg_none_of X G z_len
    · exact PySem.W.mg_none_of X G z_max
    · exact PySem.W.mg_none_of X G z_min
    · exact PySem.W.mg_none_of X G z_abs
    · exact PySem.W.mg_none_of X G z_all
    · exact PySem.W.mg_none_of X G z_any
    · exact PySem.W.mg_none_of X G z_sum
    · exact PySem.W.mg_none_of X G z_list
    · exact PySem.W.mg_none_of X G z_tuple
    · exact PySem.W.mg_none_of X G z_repr
    · exact PySem.W.mg_none_of X G z_int
    · exact PySem.W.mg_none_of X G z_isinstance
    · exact PySem.W.mg_none_of X G z_bool
    · exact PySem.W.mg_none_of X G z_str
    · exact PySem.W.mg_none_of X G z_dict
    · exact PySem.W.mg_none_of X G z_range
    · exact PySem.W.mg_none_of X G z_enumerate
    · exact PySem.W.mg_none_of X G z_zip
    · exact PySem.W.mg_none_of X G z_set
    · exact PySem.W.mg_none_of X G z_sorted
  · intro k x hk
    match k, hk with
    | 0, hk => cases hk; exact ⟨PySem.W.mg_of X G x0, ⟨xga0, xgg0, xex0, xhd0⟩, ⟨xga0, xgg0, xex0, xhd0, xca0, xcn, xct, xcm0⟩, fun f hf => by cases hf; exact xno0⟩
    | 1, hk => cases hk; exact ⟨PySem.W.mg_of X G x1, ⟨xga1, xgg1, xex1, xhd1⟩, ⟨xga1, xgg1, xex1, xhd1, xca1, xcn, xct, xcm1⟩, fun f hf => by cases hf; exact xno1⟩
    | 2, hk => cases hk; exact ⟨PySem.W.mg_of X G x2, ⟨xga2, xgg2, xex2, xhd2⟩, ⟨xga2, xgg2, xex2, xhd2, xca2, xcn, xct, xcm2⟩, fun f hf => by cases hf; exact xno2⟩
    | 3, hk => cases hk; exact ⟨PySem.W.mg_of X G x3, ⟨xga3, xgg3, xex3, xhd3⟩, ⟨xga3, xgg3, xex3, xhd3, xca3, xcn, xct, xcm3⟩, fun f hf => by cases hf; exact xno3⟩
    | 4, hk => cases hk; exact ⟨PySem.W.mg_of X G x4, ⟨xga4, xgg4, xex4, xhd4⟩, ⟨xga4, xgg4, xex4, xhd4, xca4, xcn, xct, xcm4⟩, fun f hf => by cases hf; exact xno4⟩
    | 5, hk => cases hk; exact ⟨PySem.W.mg_of X G x5, ⟨xga5, xgg5, xex5, xhd5⟩, ⟨xga5, xgg5, xex5, xhd5, xca5, xcn, xct, xcm5⟩, fun f hf => by cases hf; exact xno5⟩
    | 6, hk => cases hk; exact ⟨PySem.W.mg_of X G x6, ⟨xga6, xgg6, xex6, xhd6⟩, ⟨xga6, xgg6, xex6, xhd6, xca6, xcn, xct, xcm6⟩, fun f hf => by cases hf; exact xno6⟩
    | k + 7, hk => exact absurd hk (by simp [Γ])
  · intro k hk
    match k, hk with
    | 0, hk => exact ⟨O0, I0, _, _, xi0, xit0, init_ok F100 ⟨rfl, rfl, rfl, by decide +kernel, rfl, by decide +kernel, by decide +kernel⟩ (show defBody si0 = initB _ _ _ _ _ _ _ _ _ _ _ _ _ _ _ from rfl) (by decide +kernel) (by decide +kernel) (by decide +kernel) (by decide +kernel) (by decide +kernel) O0 xno0 (PySem.W.mg_of X G y0) ⟨yr0, yg0⟩ yi0 (fun env => ⟨_, rfl⟩), B100⟩
    | 1, hk => exact ⟨O1, I1, _, _, xi1, xit1, init_ok F101 ⟨rfl, rfl, rfl, by decide +kernel, rfl, by decide +kernel, by decide +kernel⟩ (show defBody si1 = initB _ _ _ _ _ _ _ _ _ _ _ _ _ _ _ from rfl) (by decide +kernel) (by decide +kernel) (by decide +kernel) (by decide +kernel) (by decide +kernel) O1 xno1 (PySem.W.mg_of X G y0) ⟨yr0, yg0⟩ yi0 (fun env => ⟨_, rfl⟩), B101⟩
    | 2, hk => exact ⟨O2, I2, _, _, xi2, xit2, init_ok F102 ⟨rfl, rfl, rfl, by decide +kernel, rfl, by decide +kernel, by decide +kernel⟩ (show defBody si2 = initB _ _ _ _ _ _ _ _ _ _ _ _ _ _ _ from rfl) (by decide +kernel) (by decide +kernel) (by decide +kernel) (by decide +kernel) (by decide +kernel) O2 xno2 (PySem.W.mg_of X G y0) ⟨yr0, yg0⟩ yi0 (fun env => ⟨_, rfl⟩), B102⟩
    | 3, hk => exact ⟨O3, I3, _, _, xi3, xit3, init_ok F103 ⟨rfl, rfl, rfl, by decide +kernel, rfl, by decide +kernel, by decide +kernel⟩ (show defBody si3 = initB _ _ _ _ _ _ _ _ _ _ _ _ _ _ _ from rfl) (by decide +kernel) (by decide +kernel) (by decide +kernel) (by decide +kernel) (by decide +kernel) O3 xno3 (PySem.W.mg_of X G y0) ⟨yr0, yg0⟩ yi0 (fun env => ⟨_, rfl⟩), B103⟩
    | 4, hk => exact ⟨O4, I4, _, _, xi4, xit4, init_ok F104 ⟨rfl, rfl, rfl, by decide +kernel, rfl, by decide +kernel, by decide +kernel⟩ (show defBody si4 = initB _ _ _ _ _ _ _ _ _ _ _ _ _ _ _ from rfl) (by decide +kernel) (by decide +kernel) (by decide +kernel) (by decide +kernel) (by decide +kernel) O4 xno4 (PySem.W.mg_of X G y0) ⟨yr0, yg0⟩ yi0 (fun env => ⟨_, rfl⟩), B104⟩
    | 5, hk => exact ⟨O5, I5, _, _, xi5, xit5, init_ok F105 ⟨rfl, rfl, rfl, by decide +kernel, rfl, by decide +kernel, by decide +kernel⟩ (show defBody si5 = initB _ _ _ _ _ _ _ _ _ _ _ _ _ _ _ from rfl) (by decide +kernel) (by decide +kernel) (by decide +kernel) (by decide +kernel) (by decide +kernel) O5 xno5 (PySem.W.mg_of X G y0) ⟨yr0, yg0⟩ yi0 (fun env => ⟨_, rfl⟩), B105⟩
    | 6, hk => exact ⟨O6, I6, _, _, xi6, xit6, init_ok F106 ⟨rfl, rfl, rfl, by decide +kernel, rfl, by decide +kernel, by decide +kernel⟩ (show defBody si6 = initB _ _ _ _ _ _ _ _ _ _ _ _ _ _ _ from rfl) (by decide +kernel) (by decide +kernel) (by decide +kernel) (by decide +kernel) (by decide +kernel) O6 xno6 (PySem.W.mg_of X G y0) ⟨yr0, yg0⟩ yi0 (fun env => ⟨_, rfl⟩), B106⟩
    | k + 7, hk => exact absurd hk (by simp [Γ])
  · intro j x hj
    match j, hj with
    | 0, hj => cases hj; exact .inr ⟨PySem.W.mg_none_of X G ty0, (show bootBuiltins "LookupError" = some (.type "LookupError") by decide +kernel), by decide +kernel⟩
    | 1, hj => cases hj; exact .inr ⟨PySem.W.mg_none_of X G ty1, (show bootBuiltins "ArithmeticError" = some (.type "ArithmeticError") by decide +kernel), by decide +kernel⟩
    | 2, hj => cases hj; exact .inr ⟨PySem.W.mg_none_of X G ty2, (show bootBuiltins "RuntimeError" = some (.type "RuntimeError") by decide +kernel), by decide +kernel⟩
    | 3, hj => cases hj; exact .inl (PySem.W.mg_of X G ty3)
    | 4, hj => cases hj; exact .inr ⟨PySem.W.mg_none_of X G ty4, (show bootBuiltins "ValueError" = some (.type "ValueError") by decide +kernel), by decide +kernel⟩
    | 5, hj => cases hj; exact .inl (PySem.W.mg_of X G x0)
    | 6, hj => cases hj; exact .inl (PySem.W.mg_of X G x1)
    | 7, hj => cases hj; exact .inl (PySem.W.mg_of X G x2)
    | 8, hj => cases hj; exact .inl (PySem.W.mg_of X G x3)
    | 9, hj => cases hj; exact .inl (PySem.W.mg_of X G x4)
    | 10, hj => cases hj; exact .inl (PySem.W.mg_of X G x5)
    | 11, hj => cases hj; exact .inl (PySem.W.mg_of X G x6)
    | j + 12, hj => exact absurd hj (by simp [Γ])
  · intro k x hk hx
    match k, x, hk, hx with
    | 0, 0, _, _ => exact ⟨xs0_0, xq0_0⟩
    | 0, 1, _, _ => exact ⟨xs0_1, xq0_1⟩
    | 0, 2, _, _ => exact ⟨xs0_2, xq0_2⟩
    | 0, 3, _, _ => exact ⟨xs0_3, xq0_3⟩
    | 0, 4, _, _ => exact ⟨xs0_4, xq0_4⟩
    | 0, 5, _, _ => exact ⟨xs0_5, xq0_5⟩
    | 0, 6, _, _ => exact ⟨xs0_6, xq0_6⟩
    | 0, 7, _, _ => exact ⟨xs0_7, xq0_7⟩
    | 0, 8, _, _ => exact ⟨xs0_8, xq0_8⟩
    | 0, 9, _, _ => exact ⟨xs0_9, xq0_9⟩
    | 0, 10, _, _ => exact ⟨xs0_10, xq0_10⟩
    | 0, 11, _, _ => exact ⟨xs0_11, xq0_11⟩
    | 1, 0, _, _ => exact ⟨xs1_0, xq1_0⟩
    | 1, 1, _, _ => exact ⟨xs1_1, xq1_1⟩
    | 1, 2, _, _ => exact ⟨xs1_2, xq1_2⟩
    | 1, 3, _, _ => exact ⟨xs1_3, xq1_3⟩
    | 1, 4, _, _ => exact ⟨xs1_4, xq1_4⟩
    | 1, 5, _, _ => exact ⟨xs1_5, xq1_5⟩
    | 1, 6, _, _ => exact ⟨xs1_6, xq1_6⟩
    | 1, 7, _, _ => exact ⟨xs1_7, xq1_7⟩
    | 1, 8, _, _ => exact ⟨xs1_8, xq1_8⟩
    | 1, 9, _, _ => exact ⟨xs1_9, xq1_9⟩
    | 1, 10, _, _ => exact ⟨xs1_10, xq1_10⟩
    | 1, 11, _, _ => exact ⟨xs1_11, xq1_11⟩
    | 2, 0, _, _ => exact ⟨xs2_0, xq2_0⟩
    | 2, 1, _, _ => exact ⟨xs2_1, xq2_1⟩
    | 2, 2, _, _ => exact ⟨xs2_2, xq2_2⟩
    | 2, 3, _, _ => exact ⟨xs2_3, xq2_3⟩
    | 2, 4, _, _ => exact ⟨xs2_4, xq2_4⟩
    | 2, 5, _, _ => exact ⟨xs2_5, xq2_5⟩
    | 2, 6, _, _ => exact ⟨xs2_6, xq2_6⟩
    | 2, 7, _, _ => exact ⟨xs2_7, xq2_7⟩
    | 2, 8, _, _ => exact ⟨xs2_8, xq2_8⟩
    | 2, 9, _, _ => exact ⟨xs2_9, xq2_9⟩
    | 2, 10, _, _ => exact ⟨xs2_10, xq2_10⟩
    | 2, 11, _, _ => exact ⟨xs2_11, xq2_11⟩
    | 3, 0, _, _ => exact ⟨xs3_0, xq3_0⟩
    | 3, 1, _, _ => exact ⟨xs3_1, xq3_1⟩
    | 3, 2, _, _ => exact ⟨xs3_2, xq3_2⟩
    | 3, 3, _, _ => exact ⟨xs3_3, xq3_3⟩
    | 3, 4, _, _ => exact ⟨xs3_4, xq3_4⟩
    | 3, 5, _, _ => exact ⟨xs3_5, xq3_5⟩
    | 3, 6, _, _ => exact ⟨xs3_6, xq3_6⟩
    | 3, 7, _, _ => exact ⟨xs3_7, xq3_7⟩
    | 3, 8, _, _ => exact ⟨xs3_8, xq3_8⟩
    | 3, 9, _, _ => exact ⟨xs3_9, xq3_9⟩
    | 3, 10, _, _ => exact ⟨xs3_10, xq3_10⟩
    | 3, 11, _, _ => exact ⟨xs3_11, xq3_11⟩
    | 4, 0, _, _ => exact ⟨xs4_0, xq4_0⟩
    | 4, 1, _, _ => exact ⟨xs4_1, xq4_1⟩
    | 4, 2, _, _ => exact ⟨xs4_2, xq4_2⟩
    | 4, 3, _, _ => exact ⟨xs4_3, xq4_3⟩
    | 4, 4, _, _ => exact ⟨xs4_4, xq4_4⟩
    | 4, 5, _, _ => exact ⟨xs4_5, xq4_5⟩
    | 4, 6, _, _ => exact ⟨xs4_6, xq4_6⟩
    | 4, 7, _, _ => exact ⟨xs4_7, xq4_7⟩
    | 4, 8, _, _ => exact ⟨xs4_8, xq4_8⟩
    | 4, 9, _, _ => exact ⟨xs4_9, xq4_9⟩
    | 4, 10, _, _ => exact ⟨xs4_10, xq4_10⟩
    | 4, 11, _, _ => exact ⟨xs4_11, xq4_11⟩
    | 5, 0, _, _ => exact ⟨xs5_0, xq5_0⟩
    | 5, 1, _, _ => exact ⟨xs5_1, xq5_1⟩
    | 5, 2, _, _ => exact ⟨xs5_2, xq5_2⟩
    | 5, 3, _, _ => exact ⟨xs5_3, xq5_3⟩
    | 5, 4, _, _ => exact ⟨xs5_4, xq5_4⟩
    | 5, 5, _, _ => exact ⟨xs5_5, xq5_5⟩
    | 5, 6, _, _ => exact ⟨xs5_6, xq5_6⟩
    | 5, 7, _, _ => exact ⟨xs5_7, xq5_7⟩
    | 5, 8, _, _ => exact ⟨xs5_8, xq5_8⟩
    | 5, 9, _, _ => exact ⟨xs5_9, xq5_9⟩
    | 5, 10, _, _ => exact ⟨xs5_10, xq5_10⟩
    | 5, 11, _, _ => exact ⟨xs5_11, xq5_11⟩
    | 6, 0, _, _ => exact ⟨xs6_0, xq6_0⟩
    | 6, 1, _, _ => exact ⟨xs6_1, xq6_1⟩
    | 6, 2, _, _ => exact ⟨xs6_2, xq6_2⟩
    | 6, 3, _, _ => exact ⟨xs6_3, xq6_3⟩
    | 6, 4, _, _ => exact ⟨xs6_4, xq6_4⟩
    | 6, 5, _, _ => exact ⟨xs6_5, xq6_5⟩
    | 6, 6, _, _ => exact ⟨xs6_6, xq6_6⟩
    | 6, 7, _, _ => exact ⟨xs6_7, xq6_7⟩
    | 6, 8, _, _ => exact ⟨xs6_8, xq6_8⟩
    | 6, 9, _, _ => exact ⟨xs6_9, xq6_9⟩
    | 6, 10, _, _ => exact ⟨xs6_10, xq6_10⟩
    | 6, 11, _, _ => exact ⟨xs6_11, xq6_11⟩
    | k + 7, x, hk, _ => exact absurd hk (by simp)
    | _, x + 12, _, hx => exact absurd hx (by simp [Γ])
  · intro f n hf
    match f, hf with
    | 0, hf => cases hf; exact ⟨rfl, by show 0 < 1; decide⟩
    | f + 1, hf => exact absurd hf (by simp [Γ])
  · intro c f h
    exact absurd h (by simp [pg, isfL])
  · intro c f d h
    exact absurd h (by simp [pg, cstL])
  · intro c f n h
    exact absurd h (by simp [pg, prpL])
  · intro c m n h
    exact absurd h (by simp [pg, metL])
  · intro c i h
    exact absurd h (by simp [pg, iniL])
  · intro c x hc
    match c, hc with
    | c + 0, hc => exact absurd hc (by simp [Γ])
  · intro k c b h
    exact absurd h (by simp [pg, isaL])
  · intro c hc t ht
    exact absurd hc (by simp [Γ])
  · intro s x ks c hs hc
    exact absurd hs (by simp [Γ])
end Law

namespace Law
open PySem L2 PyProof.Rows PV
theorem gv_cur (r : Nat → List D → Store → R D) : (pg.gv r).cur = none := rfl
theorem gv_sub (r : Nat → List D → Store → R D) (k x : Nat) : (pg.gv r).sub k x = (subs.getD k []).getD x false := rfl
theorem gv_ef (r : Nat → List D → Store → R D) (k : Nat) : (pg.gv r).ef k = efs.getD k none := rfl
theorem gv_fu (r : Nat → List D → Store → R D) : (pg.gv r).fu = 10 := rfl
theorem gx0_0 (r : Nat → List D → Store → R D) : (pg.gv r).sub 0 0 = false := rfl
theorem gx0_1 (r : Nat → List D → Store → R D) : (pg.gv r).sub 0 1 = false := rfl
theorem gx0_2 (r : Nat → List D → Store → R D) : (pg.gv r).sub 0 2 = false := rfl
theorem gx0_3 (r : Nat → List D → Store → R D) : (pg.gv r).sub 0 3 = true := rfl
theorem gx0_4 (r : Nat → List D → Store → R D) : (pg.gv r).sub 0 4 = true := rfl
theorem gx0_5 (r : Nat → List D → Store → R D) : (pg.gv r).sub 0 5 = true := rfl
theorem gx0_6 (r : Nat → List D → Store → R D) : (pg.gv r).sub 0 6 = false := rfl
theorem gx0_7 (r : Nat → List D → Store → R D) : (pg.gv r).sub 0 7 = false := rfl
theorem gx0_8 (r : Nat → List D → Store → R D) : (pg.gv r).sub 0 8 = false := rfl
theorem gx0_9 (r : Nat → List D → Store → R D) : (pg.gv r).sub 0 9 = false := rfl
theorem gx0_10 (r : Nat → List D → Store → R D) : (pg.gv r).sub 0 10 = false := rfl
theorem gx0_11 (r : Nat → List D → Store → R D) : (pg.gv r).sub 0 11 = false := rfl
theorem gy0 (r : Nat → List D → Store → R D) : (pg.gv r).ef 0 = some 0 := rfl
theorem gw0 (r : Nat → List D → Store → R D) : ∀ d, xval (pg.gv r) 0 d = d := fun _ => rfl
theorem gx1_0 (r : Nat → List D → Store → R D) : (pg.gv r).sub 1 0 = false := rfl
theorem gx1_1 (r : Nat → List D → Store → R D) : (pg.gv r).sub 1 1 = false := rfl
theorem gx1_2 (r : Nat → List D → Store → R D) : (pg.gv r).sub 1 2 = false := rfl
theorem gx1_3 (r : Nat → List D → Store → R D) : (pg.gv r).sub 1 3 = true := rfl
theorem gx1_4 (r : Nat → List D → Store → R D) : (pg.gv r).sub 1 4 = true := rfl
theorem gx1_5 (r : Nat → List D → Store → R D) : (pg.gv r).sub 1 5 = false := rfl
theorem gx1_6 (r : Nat → List D → Store → R D) : (pg.gv r).sub 1 6 = true := rfl
theorem gx1_7 (r : Nat → List D → Store → R D) : (pg.gv r).sub 1 7 = false := rfl
theorem gx1_8 (r : Nat → List D → Store → R D) : (pg.gv r).sub 1 8 = false := rfl
theorem gx1_9 (r : Nat → List D → Store → R D) : (pg.gv r).sub 1 9 = false := rfl
theorem gx1_10 (r : Nat → List D → Store → R D) : (pg.gv r).sub 1 10 = false := rfl
theorem gx1_11 (r : Nat → List D → Store → R D) : (pg.gv r).sub 1 11 = false := rfl
theorem gy1 (r : Nat → List D → Store → R D) : (pg.gv r).ef 1 = some 0 := rfl
theorem gw1 (r : Nat → List D → Store → R D) : ∀ d, xval (pg.gv r) 1 d = d := fun _ => rfl
theorem gx2_0 (r : Nat → List D → Store → R D) : (pg.gv r).sub 2 0 = false := rfl
theorem gx2_1 (r : Nat → List D → Store → R D) : (pg.gv r).sub 2 1 = false := rfl
theorem gx2_2 (r : Nat → List D → Store → R D) : (pg.gv r).sub 2 2 = false := rfl
theorem gx2_3 (r : Nat → List D → Store → R D) : (pg.gv r).sub 2 3 = true := rfl
theorem gx2_4 (r : Nat → List D → Store → R D) : (pg.gv r).sub 2 4 = true := rfl
theorem gx2_5 (r : Nat → List D → Store → R D) : (pg.gv r).sub 2 5 = false := rfl
theorem gx2_6 (r : Nat → List D → Store → R D) : (pg.gv r).sub 2 6 = false := rfl
theorem gx2_7 (r : Nat → List D → Store → R D) : (pg.gv r).sub 2 7 = true := rfl
theorem gx2_8 (r : Nat → List D → Store → R D) : (pg.gv r).sub 2 8 = false := rfl
theorem gx2_9 (r : Nat → List D → Store → R D) : (pg.gv r).sub 2 9 = false := rfl
theorem gx2_10 (r : Nat → List D → Store → R D) : (pg.gv r).sub 2 10 = false := rfl
theorem gx2_11 (r : Nat → List D → Store → R D) : (pg.gv r).sub 2 11 = false := rfl
theorem gy2 (r : Nat → List D → Store → R D) : (pg.gv r).ef 2 = some 0 := rfl
theorem gw2 (r : Nat → List D → Store → R D) : ∀ d, xval (pg.gv r) 2 d = d := fun _ => rfl
theorem gx3_0 (r : Nat → List D → Store → R D) : (pg.gv r).sub 3 0 = false := rfl
theorem gx3_1 (r : Nat → List D → Store → R D) : (pg.gv r).sub 3 1 = false := rfl
theorem gx3_2 (r : Nat → List D → Store → R D) : (pg.gv r).sub 3 2 = false := rfl
theorem gx3_3 (r : Nat → List D → Store → R D) : (pg.gv r).sub 3 3 = true := rfl
theorem gx3_4 (r : Nat → List D → Store → R D) : (pg.gv r).sub 3 4 = true := rfl
theorem gx3_5 (r : Nat → List D → Store → R D) : (pg.gv r).sub 3 5 = false := rfl
theorem gx3_6 (r : Nat → List D → Store → R D) : (pg.gv r).sub 3 6 = false := rfl
theorem gx3_7 (r : Nat → List D → Store → R D) : (pg.gv r).sub 3 7 = false := rfl
theorem gx3_8 (r : Nat → List D → Store → R D) : (pg.gv r).sub 3 8 = true := rfl
theorem gx3_9 (r : Nat → List D → Store → R D) : (pg.gv r).sub 3 9 = false := rfl
theorem gx3_10 (r : Nat → List D → Store → R D) : (pg.gv r).sub 3 10 = false := rfl
theorem gx3_11 (r : Nat → List D → Store → R D) : (pg.gv r).sub 3 11 = false := rfl
theorem gy3 (r : Nat → List D → Store → R D) : (pg.gv r).ef 3 = some 0 := rfl
theorem gw3 (r : Nat → List D → Store → R D) : ∀ d, xval (pg.gv r) 3 d = d := fun _ => rfl
theorem gx4_0 (r : Nat → List D → Store → R D) : (pg.gv r).sub 4 0 = false := rfl
theorem gx4_1 (r : Nat → List D → Store → R D) : (pg.gv r).sub 4 1 = false := rfl
theorem gx4_2 (r : Nat → List D → Store → R D) : (pg.gv r).sub 4 2 = false := rfl
theorem gx4_3 (r : Nat → List D → Store → R D) : (pg.gv r).sub 4 3 = true := rfl
theorem gx4_4 (r : Nat → List D → Store → R D) : (pg.gv r).sub 4 4 = true := rfl
theorem gx4_5 (r : Nat → List D → Store → R D) : (pg.gv r).sub 4 5 = false := rfl
theorem gx4_6 (r : Nat → List D → Store → R D) : (pg.gv r).sub 4 6 = false := rfl
theorem gx4_7 (r : Nat → List D → Store → R D) : (pg.gv r).sub 4 7 = false := rfl
theorem gx4_8 (r : Nat → List D → Store → R D) : (pg.gv r).sub 4 8 = false := rfl
theorem gx4_9 (r : Nat → List D → Store → R D) : (pg.gv r).sub 4 9 = true := rfl
theorem gx4_10 (r : Nat → List D → Store → R D) : (pg.gv r).sub 4 10 = false := rfl
theorem gx4_11 (r : Nat → List D → Store → R D) : (pg.gv r).sub 4 11 = false := rfl
theorem gy4 (r : Nat → List D → Store → R D) : (pg.gv r).ef 4 = some 0 := rfl
theorem gw4 (r : Nat → List D → Store → R D) : ∀ d, xval (pg.gv r) 4 d = d := fun _ => rfl
theorem gx5_0 (r : Nat → List D → Store → R D) : (pg.gv r).sub 5 0 = false := rfl
theorem gx5_1 (r : Nat → List D → Store → R D) : (pg.gv r).sub 5 1 = false := rfl
theorem gx5_2 (r : Nat → List D → Store → R D) : (pg.gv r).sub 5 2 = false := rfl
theorem gx5_3 (r : Nat → List D → Store → R D) : (pg.gv r).sub 5 3 = true := rfl
theorem gx5_4 (r : Nat → List D → Store → R D) : (pg.gv r).sub 5 4 = true := rfl
theorem gx5_5 (r : Nat → List D → Store → R D) : (pg.gv r).sub 5 5 = false := rfl
theorem gx5_6 (r : Nat → List D → Store → R D) : (pg.gv r).sub 5 6 = false := rfl
theorem gx5_7 (r : Nat → List D → Store → R D) : (pg.gv r).sub 5 7 = false := rfl
theorem gx5_8 (r : Nat → List D → Store → R D) : (pg.gv r).sub 5 8 = false := rfl
theorem gx5_9 (r : Nat → List D → Store → R D) : (pg.gv r).sub 5 9 = false := rfl
theorem gx5_10 (r : Nat → List D → Store → R D) : (pg.gv r).sub 5 10 = true := rfl
theorem gx5_11 (r : Nat → List D → Store → R D) : (pg.gv r).sub 5 11 = false := rfl
theorem gy5 (r : Nat → List D → Store → R D) : (pg.gv r).ef 5 = some 0 := rfl
theorem gw5 (r : Nat → List D → Store → R D) : ∀ d, xval (pg.gv r) 5 d = d := fun _ => rfl
theorem gx6_0 (r : Nat → List D → Store → R D) : (pg.gv r).sub 6 0 = false := rfl
theorem gx6_1 (r : Nat → List D → Store → R D) : (pg.gv r).sub 6 1 = false := rfl
theorem gx6_2 (r : Nat → List D → Store → R D) : (pg.gv r).sub 6 2 = false := rfl
theorem gx6_3 (r : Nat → List D → Store → R D) : (pg.gv r).sub 6 3 = true := rfl
theorem gx6_4 (r : Nat → List D → Store → R D) : (pg.gv r).sub 6 4 = true := rfl
theorem gx6_5 (r : Nat → List D → Store → R D) : (pg.gv r).sub 6 5 = false := rfl
theorem gx6_6 (r : Nat → List D → Store → R D) : (pg.gv r).sub 6 6 = false := rfl
theorem gx6_7 (r : Nat → List D → Store → R D) : (pg.gv r).sub 6 7 = false := rfl
theorem gx6_8 (r : Nat → List D → Store → R D) : (pg.gv r).sub 6 8 = false := rfl
theorem gx6_9 (r : Nat → List D → Store → R D) : (pg.gv r).sub 6 9 = false := rfl
theorem gx6_10 (r : Nat → List D → Store → R D) : (pg.gv r).sub 6 10 = false := rfl
theorem gx6_11 (r : Nat → List D → Store → R D) : (pg.gv r).sub 6 11 = true := rfl
theorem gy6 (r : Nat → List D → Store → R D) : (pg.gv r).ef 6 = some 0 := rfl
theorem gw6 (r : Nat → List D → Store → R D) : ∀ d, xval (pg.gv r) 6 d = d := fun _ => rfl
theorem e0 (d : Nat) (a0 : D) (S : Store) : pg.cal (d + 1) 0 [a0] S = outR (ex (pg.gv (pg.run d)) c_law [some a0, none, none, none, none, none, none, none] S) := cal_plain pg d 0 [a0] S rfl rfl rfl rfl
theorem e1 (d : Nat) (a0 a1 : D) (S : Store) : pg.cal (d + 1) 1 [a0, a1] S = outR (ex (pg.gv (pg.run d)) c__law_source [some a0, some a1, none, none, none] S) := cal_plain pg d 1 [a0, a1] S rfl rfl rfl rfl
theorem e2 (d : Nat) (a0 a1 : D) (S : Store) : pg.cal (d + 1) 2 [a0, a1] S = outR (ex (pg.gv (pg.run d)) c__law_draw [some a0, some a1, none] S) := cal_plain pg d 2 [a0, a1] S rfl rfl rfl rfl
theorem e3 (d : Nat) (a0 : D) (S : Store) : pg.cal (d + 1) 3 [a0] S = outR (ex (pg.gv (pg.run d)) c__law_all [some a0, none] S) := cal_plain pg d 3 [a0] S rfl rfl rfl rfl
theorem e4 (d : Nat) (a0 : D) (S : Store) : pg.cal (d + 1) 4 [a0] S = outR (ex (pg.gv (pg.run d)) c__law_kinds [some a0, none] S) := cal_plain pg d 4 [a0] S rfl rfl rfl rfl
end Law

namespace Law
open PySem PV L2
theorem gv_cal {d : Nat} (f : Nat) (ds : List D) (S : Store) : (pg.gv (pg.run d)).cal f ds S = pg.cal d f ds S := rfl
def gv_mc := @gv_cal
def gv_new := @gv_cal
theorem small8 {m : Int} (h : m.natAbs < 4294967296) : m.natAbs < 2 ^ 8000 := Nat.lt_of_lt_of_le h (Nat.pow_le_pow_right (n := 2) (i := 32) (by decide) (by decide))
section
variable {d : Nat} {S : Store} {p : Nat}
theorem draw_ok {m : Int} (hS : Src S p) (h0 : 0 < m) (h1 : m ≤ 1000000) : ∃ (g : Int) (S' : Store), pg.cal (d + 1) 2 [.ref p, .int m] S = .ok (.int g) S' ∧ 0 ≤ g ∧ g < m ∧ Adv p S S' := by
  rw [e2]
  exact draw_core hS h0 (small8 (by omega))
theorem source_ok {ns : List Int} {k : Nat} (hk : k ≤ 1000) : ∃ S1, pg.cal (d + 1) 1 [.scr ns, .int (k : Nat)] S = .ok (.ref S.length) S1 ∧ Src S1 S.length := by
  obtain ⟨n, s, h, s0, s1⟩ := pool_core (G := pg.gv (pg.run d)) (S := S) (ns := ns) hk
  refine ⟨_, ?_, Src.new (S := S) (n := n) s0 s1⟩
  rw [e1]
  exact h
def sevenB (c : Nat) : List D := [.bl (decide (c = 0)), .bl (decide (c = 1)), .bl (decide (c = 2)), .bl (decide (c = 3)), .bl (decide (c = 4)), .bl (decide (c = 5)), .bl (decide (c = 6))]
theorem kinds_ok {c : Nat} (hc : c < 7) (v : D) : pg.cal (d + 1) 4 [.err c v] S = .ok (.lst (sevenB c)) S := by
  match c, hc with
  | 0, _ => rfl
  | 1, _ => rfl
  | 2, _ => rfl
  | 3, _ => rfl
  | 4, _ => rfl
  | 5, _ => rfl
  | 6, _ => rfl
theorem all_ok (v : D) : pg.cal (d + 1) 3 [v] S = .ok (.lst [.err 0 v, .err 1 v, .err 2 v, .err 3 v, .err 4 v, .err 5 v, .err 6 v]) S := rfl
theorem places_ok {c : Nat} (hc : c < 7) (r : Nat → List D → Store → PV.R D) (a0 a1 a2 a3 a4 a6 a7 : Option D) : compL ((.one 7)) (evT (pg.gv r) .nil) (ev (pg.gv r) (.cmp .eq (.var 7) (.var 5))) [a0, a1, a2, a3, a4, some (.int (c : Nat)), a6, a7] (rangeD 0 7) S = .ok (sevenB c) S := by
  match c, hc with
  | 0, _ => rfl
  | 1, _ => rfl
  | 2, _ => rfl
  | 3, _ => rfl
  | 4, _ => rfl
  | 5, _ => rfl
  | 6, _ => rfl
theorem same_ok {c : Nat} (hc : c < 7) : cmpD .ne (.lst (sevenB c)) (.lst (sevenB c)) S = some false := by
  match c, hc with
  | 0, _ => rfl
  | 1, _ => rfl
  | 2, _ => rfl
  | 3, _ => rfl
  | 4, _ => rfl
  | 5, _ => rfl
  | 6, _ => rfl
theorem repr_b {S : Store} {x : D} {t : Str} (h : reprD S x = some t) : biD .repr [x] S = .ok (.str t) S := by
  show (match reprD S x with | some t => PV.R.ok (D.str t) S | none => .stuck) = _
  rw [h]
end
end Law

namespace Law
open PySem PV L2
section
variable {S : Store} {p : Nat}
/-- what is shown of an item -/
def Shown (x : D) : Prop := ∀ S, ∃ t, reprD S x = some t
theorem shown_of {x : D} (h : okD 9 3 x = true) : Shown x := fun S => repr_ok (n := 9) (k := 3) h (by decide) (by decide)
theorem dictText_le (t : Str) : (PySem.dictText [t]).length ≤ t.length + 5 := by
  unfold PySem.dictText
  rw [strLen_append, strLen_append]
  have h := join_length_add [t] (by simp)
  rw [piled_sum] at h
  have e1 : (("{" : String) : Str).length = 1 := rfl
  have e2 : (("}" : String) : Str).length = 1 := rfl
  have e3 : sumL (List.map (·.length) [t]) = t.length + 2 := rfl
  rw [e1, e2]
  rw [e3] at h
  omega
theorem shown_dct {i : Int} (h : i.natAbs.log2 < 1000) : Shown (.dct [.int 1] [.int i]) := fun S => by
  have e : toP S (deref S (.dct [.int 1] [.int i])) = some (.dict [(.int 1, .int i)]) := rfl
  unfold reprD
  rw [e]
  refine ⟨PyData.shown (.dict [(.int 1, .int i)]), if_pos ?_⟩
  have h1 : (PyData.shown (.dict [(.int 1, .int i)])).length ≤ 2000 := by
    have e2 : PyData.shown (.dict [(.int 1, .int i)]) = PySem.dictText [PyData.shown (.int 1) ++ ": " ++ PyData.shown (.int i)] := by
      simp only [PyData.shown, PyData.shownKv]
    rw [e2]
    have h2 := dictText_le (PyData.shown (.int 1) ++ ": " ++ PyData.shown (.int i))
    rw [strLen_append, strLen_append] at h2
    have h3 : (PyData.shown (.int i)).length ≤ 1921 := by
      have := PyProof.Rows.int_text_len_1921 (i := i) (by omega)
      simpa only [PyData.shown] using this
    have h4 : (PyData.shown (.int 1)).length ≤ 10 := by
      have e : PyData.shown (.int 1) = (toString (1 : Int) : String) := by simp only [PyData.shown]
      rw [e]
      decide +kernel
    have h5 : ((": " : String) : Str).length = 2 := rfl
    rw [h5] at h2
    omega
  have f1 : fits (PyData.shown (.dict [(.int 1, .int i)])).length = true := decide_eq_true (by omega)
  have f2 : PyData.showable (.dict [(.int 1, .int i)]) = true := by
    simp only [PyData.showable, PyData.showableKv, Bool.and_true]
    rw [Bool.and_eq_true]
    exact ⟨by decide +kernel, decide_eq_true (by omega)⟩
  have f3 : flatDct (deref S (.dct [.int 1] [.int i])) = true := rfl
  have f4 : decide (PyData.depth (.dict [(.int 1, .int i)]) ≤ 60) = true := by
    simp [PyData.depth, PyData.depthKv]
  rw [f1, f2, f3, f4, Bool.or_true]
  rfl
def itemB : C := (.cons (.ifs (.or (.tcmp .ne (.call 4 (.cons (.var 6) .nil)) (.comp false (.one 7) (.rng (.con (.int 0)) (.con (.int 7))) .nil (.cmp .eq (.var 7) (.var 5)))) (.tcmp .ne (.bi .repr (.cons (.fld (.var 6) 0) .nil)) (.bi .repr (.cons (.var 4) .nil)))) (.cons (.ret (.con (.bl false))) .nil) .nil) (.cons (.ifs (.or (.not (.tst (.isx (.var 6) 3))) (.not (.tst (.isx (.var 6) 4)))) (.cons (.ret (.con (.bl false))) .nil) .nil) (.cons (.ifs (.tst (.isxt (.var 6) [0, 1, 2])) (.cons (.ret (.con (.bl false))) .nil) .nil) .nil)))
/-- every error of an item -/
theorem item_ok {ns : List Int} {k n : Int} {x : D} {t : Str} (A5 A6 A7 : Option D) (h : reprD S x = some t) : Wt (WN fun δ S' => S' = S ∧ ∃ B5 B6 B7, δ = [some (.scr ns), some (.int k), some (.ref p), some (.int n), some x, B5, B6, B7]) (ap [] (.s (forL (.tup [5, 6]) (ex (pg.gv (pg.run 5)) itemB) (enumD [.err 0 x, .err 1 x, .err 2 x, .err 3 x, .err 4 x, .err 5 x, .err 6 x]) [some (.scr ns), some (.int k), some (.ref p), some (.int n), some x, A5, A6, A7] S))) := by
  refine wt_for (fun i δ S1 => S1 = S ∧ ∃ B5 B6 B7, δ = [some (.scr ns), some (.int k), some (.ref p), some (.int n), some x, B5, B6, B7]) ⟨rfl, _, _, _, rfl⟩ (fun i y δ S1 hx hI => ?_) (fun δ S1 hI => WN.mk hI)
  obtain ⟨rfl, B5, B6, B7, rfl⟩ := hI
  have i7 : i < 7 := by
    have := (List.getElem?_eq_some_iff.mp hx).1
    simpa [enumD] using this
  have ey : y = .tup [.int (i : Nat), .err i x] := by
    match i, i7 with
    | 0, _ => exact (Option.some.inj hx).symm
    | 1, _ => exact (Option.some.inj hx).symm
    | 2, _ => exact (Option.some.inj hx).symm
    | 3, _ => exact (Option.some.inj hx).symm
    | 4, _ => exact (Option.some.inj hx).symm
    | 5, _ => exact (Option.some.inj hx).symm
    | 6, _ => exact (Option.some.inj hx).symm
  subst ey
  have k1 := kinds_ok (d := 4) (S := S1) i7 x
  have k2 := places_ok (S := S1) i7 (pg.run 5) (some (.scr ns)) (some (.int k)) (some (.ref p)) (some (.int n)) (some x) (some (.err i x)) B7
  have k3 := same_ok (S := S1) i7
  have k4 := repr_b h
  have k5 : fldD (pg.gv (pg.run 5)) (.err i x) 0 S1 = .ok x S1 := by
    match i, i7 with
    | 0, _ => rfl
    | 1, _ => rfl
    | 2, _ => rfl
    | 3, _ => rfl
    | 4, _ => rfl
    | 5, _ => rfl
    | 6, _ => rfl
  have k6 : isxD (pg.gv (pg.run 5)) S1 (.err i x) 3 = some true ∧ isxD (pg.gv (pg.run 5)) S1 (.err i x) 4 = some true ∧ isxtD (pg.gv (pg.run 5)) S1 (.err i x) [0, 1, 2] = some false := by
    match i, i7 with
    | 0, _ => exact ⟨rfl, rfl, rfl⟩
    | 1, _ => exact ⟨rfl, rfl, rfl⟩
    | 2, _ => exact ⟨rfl, rfl, rfl⟩
    | 3, _ => exact ⟨rfl, rfl, rfl⟩
    | 4, _ => exact ⟨rfl, rfl, rfl⟩
    | 5, _ => exact ⟨rfl, rfl, rfl⟩
    | 6, _ => exact ⟨rfl, rfl, rfl⟩
  have i0 : inR 0 = true := rfl
  have i7' : inR 7 = true := rfl
  have f7 : fits (sevenB i).length = true := rfl
  (simp -implicitDefEqProofs only [↓k5, ↓k6.1, ↓k6.2.1, ↓k6.2.2, itemB, w_var, k_get, v_con, v_glob, k_opt, k_bnd, f_nil, g_one, g_two, g_three, g_four, g_deep, p_nil, p_one, p_two, s_nil, o_nil, t_nil, x_nil, w_hnam, w_hbar, w_eget, w_eis, w_new, w_case, m_nil, km_some, km_none, km_ite, ms_one, ms_seq, ms_nil, ms_c, msr_s, msr_n, msr_i, mq_wild, mq_cap, mq_str, mq_int, ci_fix, fi_fix, n_lrng, q_frz, q_frzA, E_bin, E_neg, E_not, E_and, E_or, E_ite, E_cmp, E_chain, E_tup, E_lst, E_call, E_callk, E_bi, E_isi, E_idx, E_sl, E_rev, E_comp, E_comp2, E_fld, E_mcall, E_newk, E_iso, E_isit, E_lrng, E_lset, E_sset, E_mkx, E_mkxk, E_isx, E_isxt, E_popl, E_dct1, E_eqo, E_app, E_frz, S_mkx, S_mkxk, S_isx, S_isxt, S_popl, S_dct1, S_eqo, S_var, S_con, S_glob, S_bin, S_neg, S_not, S_and, S_or, S_ite, S_cmp, S_chain, S_tup, S_lst, S_dct, S_call, S_callk, S_bi, S_isi, S_idx, S_sl, S_rev, S_comp, S_eget, S_eis, S_app, S_frz, S_fld, S_mcall, S_new, S_newk, S_iso, S_isit, S_lrng, S_lset, S_sset, S_comp2, S_star, O_cons, T_not, T_and, T_or, T_tst, T_cmp, T_chain, T_ch3, I_rng, I_enum, I_zip, I_tst, X_set, X_stI, X_stA, X_match, X_expr, X_ret, X_ifs, X_for, X_raise, X_try, Q_set, Q_stI, Q_expr, Q_ifs, Q_for, Q_while, Q_try, Q_stA, Q_match, Q_ret, Q_raise, K_bin1, K_bin2, K_neg, K_not, K_cmp1, K_cmp2, K_ch1, K_idx1, K_ix2, K_sl1, K_sl2, K_sl3, K_rev, K_isi, K_app2, K_frz, K_con1, K_con2, K_star2, K_tup, K_lst, K_call, K_ck1, K_ck2, K_bi, K_comp1, K_rng1, K_rng2, K_enum, K_zip1, K_zip2, K_itst, K_tst, K_tcmp1, K_tcmp2, K_tch1, K_tnot, K_oc, K_set, K_stI1, K_stI2, K_stI3, K_expr, K_ret, K_for, K_comp21, K_fld, K_mc1, K_mc2, K_new, K_nk1, K_nk2, K_newF, K_newT, K_newX, K_iso, K_isit, K_lrng1, K_lrng2, K_mkx, K_isx, K_isxt, K_popl, K_dc1, K_dc2, K_eqo1, K_eqo2, K_lset, K_sset, K_t31, K_t32, K_t33, K_stA1, K_stA2, K_mat, K_seq, K_seqRt, K_seqX, K_seqB, K_seqC, K_raise, K_try, K_tryN, K_tryX, K_hret, K_loop, K_loopC, K_loopB, K_loopR, K_loopX, K_outN, K_outR, K_outX, X_bin1X, X_bin2X, X_negX, X_notX, X_and1X, X_or1X, X_cmp1X, X_cmp2X, X_ch1X, X_ch2X, X_idx1X, X_ix2X, X_sl1X, X_sl2X, X_sl3X, X_revX, X_isiX, X_app1X, X_app2X, X_frzX, X_con1X, X_con2X, X_star1X, X_star2X, X_tupX, X_lstX, X_callX, X_ck1X, X_ck2X, X_biX, X_comp1X, X_rng1X, X_rng2X, X_enumX, X_zip1X, X_zip2X, X_itstX, X_tcmp1X, X_tcmp2X, X_tch1X, X_tch2X, X_tnotX, X_tandX, X_torX, X_iteX, X_ocX, X_setX, X_stI1X, X_stI2X, X_stI3X, X_exprX, X_retX, X_ifsX, X_for_X, X_raiseX, X_comp21X, X_fldX, X_mc1X, X_mc2X, X_newX, X_nk1X, X_nk2X, X_isoX, X_isitX, X_lrng1X, X_lrng2X, X_lsetX, X_ssetX, X_mkxX, X_isxX, X_isxtX, X_poplX, X_dc1X, X_dc2X, X_eqo1X, X_eqo2X, X_t31X, X_t32X, X_t33X, X_stA1X, X_stA2X, X_matX, X_tstX, K_tand, K_tor, K_ite, K_ifs, K_and1, K_or1, K_ch2, K_tch2, K_starT, K_starL, K_app1, B_star, B_cmp, B_tcmp, B_app, B_mc, B_new, B_t3, B_iteI, B_iteD, B_iteB, B_iteL, B_iteS, B_ret, B_out, B_for, U_d, fd_err, ix_err, ixt_err, dc_new, a_addI, a_subI, a_mulI, a_divI, a_modI, a_powI, a_addL, a_addT, a_mulL, t_blD, t_intD, t_nonD, t_tupD, t_lstD, m_ltI, m_leI, m_gtI, m_geI, m_eqI, m_neI, m_eqS, m_neS, m_isB, m_isnB, m_isN, m_isnN, m_eqT2, m_neT2, ob_s, od_s, l_newF, l_newT, n_int, n_rng, n_enum, i_tup, i_lst, i_scr, ii_tup, ii_lst, sq_tup, sq_lst, at_0, at_1, at_2, at_3, b_len1, b_len2, b_len3, b_max2, b_min2, b_abs, b_intB, b_intI, b_repr, b_all, b_any, List.getElem?_cons_zero, List.getElem?_cons_succ, List.set_cons_zero, List.set_cons_succ, if_true, if_false, Bool.not_true, Bool.not_false, Bool.false_eq_true, fits_1, List.length_cons, List.length_nil, List.cons_append, List.nil_append, List.append_nil, k_bind, k_bindX, ↓reduceIte, Nat.reduceLeDiff, Nat.reduceAdd, Nat.reduceEqDiff, Int.reduceEq, Int.reduceNeg, Int.reduceLT, Int.reduceLE, Int.reduceAdd, Int.reduceSub, Int.reduceMul, Int.reduceNe, Nat.reduceMul, Nat.reduceLT, Int.cast_ofNat_Int, decide_true, decide_false, Bool.and_true, Bool.true_and, Bool.false_and, Bool.and_false, eq_self, Bool.or_true, Bool.or_false, Bool.true_or, Bool.false_or, gx0_0, gx0_1, gx0_2, gx0_3, gx0_4, gx0_5, gx0_6, gx0_7, gx0_8, gx0_9, gx0_10, gx0_11, gy0, gw0, gx1_0, gx1_1, gx1_2, gx1_3, gx1_4, gx1_5, gx1_6, gx1_7, gx1_8, gx1_9, gx1_10, gx1_11, gy1, gw1, gx2_0, gx2_1, gx2_2, gx2_3, gx2_4, gx2_5, gx2_6, gx2_7, gx2_8, gx2_9, gx2_10, gx2_11, gy2, gw2, gx3_0, gx3_1, gx3_2, gx3_3, gx3_4, gx3_5, gx3_6, gx3_7, gx3_8, gx3_9, gx3_10, gx3_11, gy3, gw3, gx4_0, gx4_1, gx4_2, gx4_3, gx4_4, gx4_5, gx4_6, gx4_7, gx4_8, gx4_9, gx4_10, gx4_11, gy4, gw4, gx5_0, gx5_1, gx5_2, gx5_3, gx5_4, gx5_5, gx5_6, gx5_7, gx5_8, gx5_9, gx5_10, gx5_11, gy5, gw5, gx6_0, gx6_1, gx6_2, gx6_3, gx6_4, gx6_5, gx6_6, gx6_7, gx6_8, gx6_9, gx6_10, gx6_11, gy6, gw6, gv_cal, k1, i0, i7', k2, f7, k3, k4, k5, k6.1, k6.2.1, k6.2.2])
  exact WN.mk ⟨rfl, _, _, _, rfl⟩
def turnB : C := (.cons (.set (.one 2) (.call 1 (.cons (.var 0) (.cons (.var 1) .nil)))) (.cons (.set (.one 3) (.bin .sub (.call 2 (.cons (.var 2) (.cons (.bin .pow (.con (.int 10)) (.con (.int 6))) .nil))) (.con (.int 500)))) (.cons (.set (.one 4) (.idx (.lst false (.cons (.var 3) (.cons (.con .non) (.cons (.con (.bl true)) (.cons (.con (.str "text")) (.cons (.tup (.cons (.con (.int 1)) (.cons (.con (.int 2)) .nil))) (.cons (.lst false (.cons (.var 3) .nil)) (.cons (.dct1 false (.con (.int 1)) (.var 3)) (.cons (.tup .nil) (.cons (.tup (.cons (.tup (.cons (.con (.int 0)) (.cons (.con (.int 1)) .nil))) .nil)) .nil)))))))))) (.call 2 (.cons (.var 2) (.cons (.con (.int 9)) .nil))))) (.cons (.for_ (.tup [5, 6]) (.enum (.call 3 (.cons (.var 4) .nil))) (.cons (.ifs (.or (.tcmp .ne (.call 4 (.cons (.var 6) .nil)) (.comp false (.one 7) (.rng (.con (.int 0)) (.con (.int 7))) .nil (.cmp .eq (.var 7) (.var 5)))) (.tcmp .ne (.bi .repr (.cons (.fld (.var 6) 0) .nil)) (.bi .repr (.cons (.var 4) .nil)))) (.cons (.ret (.con (.bl false))) .nil) .nil) (.cons (.ifs (.or (.not (.tst (.isx (.var 6) 3))) (.not (.tst (.isx (.var 6) 4)))) (.cons (.ret (.con (.bl false))) .nil) .nil) (.cons (.ifs (.tst (.isxt (.var 6) [0, 1, 2])) (.cons (.ret (.con (.bl false))) .nil) .nil) .nil)))) .nil))))
theorem turn_ok {ns : List Int} {k : Nat} (hk : k ≤ 1000) {A2 A3 A4 A5 A6 A7 : Option D} : Wt (WN fun δ S' => ∃ B2 B3 B4 B5 B6 B7, δ = [some (.scr ns), some (.int ((k : Nat) : Int)), B2, B3, B4, B5, B6, B7]) (ap [] (.s (ex (pg.gv (pg.run 5)) turnB [some (.scr ns), some (.int ((k : Nat) : Int)), A2, A3, A4, A5, A6, A7] S))) := by
  obtain ⟨S1, h1, P1⟩ := source_ok (d := 4) (S := S) (ns := ns) (k := k) hk
  generalize S.length = p at h1 P1
  obtain ⟨g, S2, h2, g0, g1, C2⟩ := draw_ok (d := 4) (m := 1000000) P1 (by decide) (by decide)
  have p6 : ((10 : Int).natAbs < 18446744073709551616) = True := eq_true (by decide)
  have e6 : (10 : Int) ^ (6 : Int).toNat = 1000000 := rfl
  obtain ⟨j, S3, h3, j0, j1, C3⟩ := draw_ok (d := 4) (m := 9) (C2.src.app [.dead]) (by decide) (by decide)
  have dn : ∀ S : Store, dctD false S.length (.int 1) (.int (g - 500)) (S ++ [.dct [] []]) = .ok (.dct [.int 1] [.int (g - 500)]) (S ++ [.dead]) := fun S => dc_new S
  (simp -implicitDefEqProofs only [turnB, w_var, k_get, v_con, v_glob, k_opt, k_bnd, f_nil, g_one, g_two, g_three, g_four, g_deep, p_nil, p_one, p_two, s_nil, o_nil, t_nil, x_nil, w_hnam, w_hbar, w_eget, w_eis, w_new, w_case, m_nil, km_some, km_none, km_ite, ms_one, ms_seq, ms_nil, ms_c, msr_s, msr_n, msr_i, mq_wild, mq_cap, mq_str, mq_int, ci_fix, fi_fix, n_lrng, q_frz, q_frzA, E_bin, E_neg, E_not, E_and, E_or, E_ite, E_cmp, E_chain, E_tup, E_lst, E_call, E_callk, E_bi, E_isi, E_idx, E_sl, E_rev, E_comp, E_comp2, E_fld, E_mcall, E_newk, E_iso, E_isit, E_lrng, E_lset, E_sset, E_mkx, E_mkxk, E_isx, E_isxt, E_popl, E_dct1, E_eqo, E_app, E_frz, S_mkx, S_mkxk, S_isx, S_isxt, S_popl, S_dct1, S_eqo, S_var, S_con, S_glob, S_bin, S_neg, S_not, S_and, S_or, S_ite, S_cmp, S_chain, S_tup, S_lst, S_dct, S_call, S_callk, S_bi, S_isi, S_idx, S_sl, S_rev, S_comp, S_eget, S_eis, S_app, S_frz, S_fld, S_mcall, S_new, S_newk, S_iso, S_isit, S_lrng, S_lset, S_sset, S_comp2, S_star, O_cons, T_not, T_and, T_or, T_tst, T_cmp, T_chain, T_ch3, I_rng, I_enum, I_zip, I_tst, X_set, X_stI, X_stA, X_match, X_expr, X_ret, X_ifs, X_for, X_raise, X_try, Q_set, Q_stI, Q_expr, Q_ifs, Q_for, Q_while, Q_try, Q_stA, Q_match, Q_ret, Q_raise, K_bin1, K_bin2, K_neg, K_not, K_cmp1, K_cmp2, K_ch1, K_idx1, K_ix2, K_sl1, K_sl2, K_sl3, K_rev, K_isi, K_app2, K_frz, K_con1, K_con2, K_star2, K_tup, K_lst, K_call, K_ck1, K_ck2, K_bi, K_comp1, K_rng1, K_rng2, K_enum, K_zip1, K_zip2, K_itst, K_tst, K_tcmp1, K_tcmp2, K_tch1, K_tnot, K_oc, K_set, K_stI1, K_stI2, K_stI3, K_expr, K_ret, K_for, K_comp21, K_fld, K_mc1, K_mc2, K_new, K_nk1, K_nk2, K_newF, K_newT, K_newX, K_iso, K_isit, K_lrng1, K_lrng2, K_mkx, K_isx, K_isxt, K_popl, K_dc1, K_dc2, K_eqo1, K_eqo2, K_lset, K_sset, K_t31, K_t32, K_t33, K_stA1, K_stA2, K_mat, K_seq, K_seqRt, K_seqX, K_seqB, K_seqC, K_raise, K_try, K_tryN, K_tryX, K_hret, K_loop, K_loopC, K_loopB, K_loopR, K_loopX, K_outN, K_outR, K_outX, X_bin1X, X_bin2X, X_negX, X_notX, X_and1X, X_or1X, X_cmp1X, X_cmp2X, X_ch1X, X_ch2X, X_idx1X, X_ix2X, X_sl1X, X_sl2X, X_sl3X, X_revX, X_isiX, X_app1X, X_app2X, X_frzX, X_con1X, X_con2X, X_star1X, X_star2X, X_tupX, X_lstX, X_callX, X_ck1X, X_ck2X, X_biX, X_comp1X, X_rng1X, X_rng2X, X_enumX, X_zip1X, X_zip2X, X_itstX, X_tcmp1X, X_tcmp2X, X_tch1X, X_tch2X, X_tnotX, X_tandX, X_torX, X_iteX, X_ocX, X_setX, X_stI1X, X_stI2X, X_stI3X, X_exprX, X_retX, X_ifsX, X_for_X, X_raiseX, X_comp21X, X_fldX, X_mc1X, X_mc2X, X_newX, X_nk1X, X_nk2X, X_isoX, X_isitX, X_lrng1X, X_lrng2X, X_lsetX, X_ssetX, X_mkxX, X_isxX, X_isxtX, X_poplX, X_dc1X, X_dc2X, X_eqo1X, X_eqo2X, X_t31X, X_t32X, X_t33X, X_stA1X, X_stA2X, X_matX, X_tstX, K_tand, K_tor, K_ite, K_ifs, K_and1, K_or1, K_ch2, K_tch2, K_starT, K_starL, K_app1, B_star, B_cmp, B_tcmp, B_app, B_mc, B_new, B_t3, B_iteI, B_iteD, B_iteB, B_iteL, B_iteS, B_ret, B_out, B_for, U_d, fd_err, ix_err, ixt_err, dc_new, a_addI, a_subI, a_mulI, a_divI, a_modI, a_powI, a_addL, a_addT, a_mulL, t_blD, t_intD, t_nonD, t_tupD, t_lstD, m_ltI, m_leI, m_gtI, m_geI, m_eqI, m_neI, m_eqS, m_neS, m_isB, m_isnB, m_isN, m_isnN, m_eqT2, m_neT2, ob_s, od_s, l_newF, l_newT, n_int, n_rng, n_enum, i_tup, i_lst, i_scr, ii_tup, ii_lst, sq_tup, sq_lst, at_0, at_1, at_2, at_3, b_len1, b_len2, b_len3, b_max2, b_min2, b_abs, b_intB, b_intI, b_repr, b_all, b_any, List.getElem?_cons_zero, List.getElem?_cons_succ, List.set_cons_zero, List.set_cons_succ, if_true, if_false, Bool.not_true, Bool.not_false, Bool.false_eq_true, fits_1, List.length_cons, List.length_nil, List.cons_append, List.nil_append, List.append_nil, k_bind, k_bindX, ↓reduceIte, Nat.reduceLeDiff, Nat.reduceAdd, Nat.reduceEqDiff, Int.reduceEq, Int.reduceNeg, Int.reduceLT, Int.reduceLE, Int.reduceAdd, Int.reduceSub, Int.reduceMul, Int.reduceNe, Nat.reduceMul, Nat.reduceLT, Int.cast_ofNat_Int, decide_true, decide_false, Bool.and_true, Bool.true_and, Bool.false_and, Bool.and_false, eq_self, Bool.or_true, Bool.or_false, Bool.true_or, Bool.false_or, gx0_0, gx0_1, gx0_2, gx0_3, gx0_4, gx0_5, gx0_6, gx0_7, gx0_8, gx0_9, gx0_10, gx0_11, gy0, gw0, gx1_0, gx1_1, gx1_2, gx1_3, gx1_4, gx1_5, gx1_6, gx1_7, gx1_8, gx1_9, gx1_10, gx1_11, gy1, gw1, gx2_0, gx2_1, gx2_2, gx2_3, gx2_4, gx2_5, gx2_6, gx2_7, gx2_8, gx2_9, gx2_10, gx2_11, gy2, gw2, gx3_0, gx3_1, gx3_2, gx3_3, gx3_4, gx3_5, gx3_6, gx3_7, gx3_8, gx3_9, gx3_10, gx3_11, gy3, gw3, gx4_0, gx4_1, gx4_2, gx4_3, gx4_4, gx4_5, gx4_6, gx4_7, gx4_8, gx4_9, gx4_10, gx4_11, gy4, gw4, gx5_0, gx5_1, gx5_2, gx5_3, gx5_4, gx5_5, gx5_6, gx5_7, gx5_8, gx5_9, gx5_10, gx5_11, gy5, gw5, gx6_0, gx6_1, gx6_2, gx6_3, gx6_4, gx6_5, gx6_6, gx6_7, gx6_8, gx6_9, gx6_10, gx6_11, gy6, gw6, gv_cal, h1, p6, e6, h2, dn, h3])
  obtain ⟨x, a1, a2⟩ := at_mem (l := [D.int (g - 500), D.non, D.bl true, D.str (PySem.Str.ofString "text"), D.tup [D.int 1, D.int 2], D.lst [D.int (g - 500)], D.dct [D.int 1] [D.int (g - 500)], D.tup [], D.tup [D.tup [D.int 0, D.int 1]]]) j0 j1
  have lg : (g - 500).natAbs.log2 < 1000 := Nat.lt_of_le_of_lt (log_lt (k := 32) (by omega)) (by decide)
  have lo : decide ((g - 500).natAbs.log2 < 1920) = true := decide_eq_true (by omega)
  have sh : Shown x := by
    simp only [List.mem_cons, List.not_mem_nil, or_false] at a2
    rcases a2 with rfl | rfl | rfl | rfl | rfl | rfl | rfl | rfl | rfl
    · exact shown_of (by simp [okD, lo])
    · exact shown_of rfl
    · exact shown_of rfl
    · exact shown_of (by decide +kernel)
    · exact shown_of (by decide +kernel)
    · exact shown_of (by simp [okD, lo])
    · exact shown_dct lg
    · exact shown_of rfl
    · exact shown_of (by decide +kernel)
  have al := all_ok (d := 4) (S := S3) x
  (simp -implicitDefEqProofs only [w_var, k_get, v_con, v_glob, k_opt, k_bnd, f_nil, g_one, g_two, g_three, g_four, g_deep, p_nil, p_one, p_two, s_nil, o_nil, t_nil, x_nil, w_hnam, w_hbar, w_eget, w_eis, w_new, w_case, m_nil, km_some, km_none, km_ite, ms_one, ms_seq, ms_nil, ms_c, msr_s, msr_n, msr_i, mq_wild, mq_cap, mq_str, mq_int, ci_fix, fi_fix, n_lrng, q_frz, q_frzA, E_bin, E_neg, E_not, E_and, E_or, E_ite, E_cmp, E_chain, E_tup, E_lst, E_call, E_callk, E_bi, E_isi, E_idx, E_sl, E_rev, E_comp, E_comp2, E_fld, E_mcall, E_newk, E_iso, E_isit, E_lrng, E_lset, E_sset, E_mkx, E_mkxk, E_isx, E_isxt, E_popl, E_dct1, E_eqo, E_app, E_frz, S_mkx, S_mkxk, S_isx, S_isxt, S_popl, S_dct1, S_eqo, S_var, S_con, S_glob, S_bin, S_neg, S_not, S_and, S_or, S_ite, S_cmp, S_chain, S_tup, S_lst, S_dct, S_call, S_callk, S_bi, S_isi, S_idx, S_sl, S_rev, S_comp, S_eget, S_eis, S_app, S_frz, S_fld, S_mcall, S_new, S_newk, S_iso, S_isit, S_lrng, S_lset, S_sset, S_comp2, S_star, O_cons, T_not, T_and, T_or, T_tst, T_cmp, T_chain, T_ch3, I_rng, I_enum, I_zip, I_tst, X_set, X_stI, X_stA, X_match, X_expr, X_ret, X_ifs, X_for, X_raise, X_try, Q_set, Q_stI, Q_expr, Q_ifs, Q_for, Q_while, Q_try, Q_stA, Q_match, Q_ret, Q_raise, K_bin1, K_bin2, K_neg, K_not, K_cmp1, K_cmp2, K_ch1, K_idx1, K_ix2, K_sl1, K_sl2, K_sl3, K_rev, K_isi, K_app2, K_frz, K_con1, K_con2, K_star2, K_tup, K_lst, K_call, K_ck1, K_ck2, K_bi, K_comp1, K_rng1, K_rng2, K_enum, K_zip1, K_zip2, K_itst, K_tst, K_tcmp1, K_tcmp2, K_tch1, K_tnot, K_oc, K_set, K_stI1, K_stI2, K_stI3, K_expr, K_ret, K_for, K_comp21, K_fld, K_mc1, K_mc2, K_new, K_nk1, K_nk2, K_newF, K_newT, K_newX, K_iso, K_isit, K_lrng1, K_lrng2, K_mkx, K_isx, K_isxt, K_popl, K_dc1, K_dc2, K_eqo1, K_eqo2, K_lset, K_sset, K_t31, K_t32, K_t33, K_stA1, K_stA2, K_mat, K_seq, K_seqRt, K_seqX, K_seqB, K_seqC, K_raise, K_try, K_tryN, K_tryX, K_hret, K_loop, K_loopC, K_loopB, K_loopR, K_loopX, K_outN, K_outR, K_outX, X_bin1X, X_bin2X, X_negX, X_notX, X_and1X, X_or1X, X_cmp1X, X_cmp2X, X_ch1X, X_ch2X, X_idx1X, X_ix2X, X_sl1X, X_sl2X, X_sl3X, X_revX, X_isiX, X_app1X, X_app2X, X_frzX, X_con1X, X_con2X, X_star1X, X_star2X, X_tupX, X_lstX, X_callX, X_ck1X, X_ck2X, X_biX, X_comp1X, X_rng1X, X_rng2X, X_enumX, X_zip1X, X_zip2X, X_itstX, X_tcmp1X, X_tcmp2X, X_tch1X, X_tch2X, X_tnotX, X_tandX, X_torX, X_iteX, X_ocX, X_setX, X_stI1X, X_stI2X, X_stI3X, X_exprX, X_retX, X_ifsX, X_for_X, X_raiseX, X_comp21X, X_fldX, X_mc1X, X_mc2X, X_newX, X_nk1X, X_nk2X, X_isoX, X_isitX, X_lrng1X, X_lrng2X, X_lsetX, X_ssetX, X_mkxX, X_isxX, X_isxtX, X_poplX, X_dc1X, X_dc2X, X_eqo1X, X_eqo2X, X_t31X, X_t32X, X_t33X, X_stA1X, X_stA2X, X_matX, X_tstX, K_tand, K_tor, K_ite, K_ifs, K_and1, K_or1, K_ch2, K_tch2, K_starT, K_starL, K_app1, B_star, B_cmp, B_tcmp, B_app, B_mc, B_new, B_t3, B_iteI, B_iteD, B_iteB, B_iteL, B_iteS, B_ret, B_out, B_for, U_d, fd_err, ix_err, ixt_err, dc_new, a_addI, a_subI, a_mulI, a_divI, a_modI, a_powI, a_addL, a_addT, a_mulL, t_blD, t_intD, t_nonD, t_tupD, t_lstD, m_ltI, m_leI, m_gtI, m_geI, m_eqI, m_neI, m_eqS, m_neS, m_isB, m_isnB, m_isN, m_isnN, m_eqT2, m_neT2, ob_s, od_s, l_newF, l_newT, n_int, n_rng, n_enum, i_tup, i_lst, i_scr, ii_tup, ii_lst, sq_tup, sq_lst, at_0, at_1, at_2, at_3, b_len1, b_len2, b_len3, b_max2, b_min2, b_abs, b_intB, b_intI, b_repr, b_all, b_any, List.getElem?_cons_zero, List.getElem?_cons_succ, List.set_cons_zero, List.set_cons_succ, if_true, if_false, Bool.not_true, Bool.not_false, Bool.false_eq_true, fits_1, List.length_cons, List.length_nil, List.cons_append, List.nil_append, List.append_nil, k_bind, k_bindX, ↓reduceIte, Nat.reduceLeDiff, Nat.reduceAdd, Nat.reduceEqDiff, Int.reduceEq, Int.reduceNeg, Int.reduceLT, Int.reduceLE, Int.reduceAdd, Int.reduceSub, Int.reduceMul, Int.reduceNe, Nat.reduceMul, Nat.reduceLT, Int.cast_ofNat_Int, decide_true, decide_false, Bool.and_true, Bool.true_and, Bool.false_and, Bool.and_false, eq_self, Bool.or_true, Bool.or_false, Bool.true_or, Bool.false_or, gx0_0, gx0_1, gx0_2, gx0_3, gx0_4, gx0_5, gx0_6, gx0_7, gx0_8, gx0_9, gx0_10, gx0_11, gy0, gw0, gx1_0, gx1_1, gx1_2, gx1_3, gx1_4, gx1_5, gx1_6, gx1_7, gx1_8, gx1_9, gx1_10, gx1_11, gy1, gw1, gx2_0, gx2_1, gx2_2, gx2_3, gx2_4, gx2_5, gx2_6, gx2_7, gx2_8, gx2_9, gx2_10, gx2_11, gy2, gw2, gx3_0, gx3_1, gx3_2, gx3_3, gx3_4, gx3_5, gx3_6, gx3_7, gx3_8, gx3_9, gx3_10, gx3_11, gy3, gw3, gx4_0, gx4_1, gx4_2, gx4_3, gx4_4, gx4_5, gx4_6, gx4_7, gx4_8, gx4_9, gx4_10, gx4_11, gy4, gw4, gx5_0, gx5_1, gx5_2, gx5_3, gx5_4, gx5_5, gx5_6, gx5_7, gx5_8, gx5_9, gx5_10, gx5_11, gy5, gw5, gx6_0, gx6_1, gx6_2, gx6_3, gx6_4, gx6_5, gx6_6, gx6_7, gx6_8, gx6_9, gx6_10, gx6_11, gy6, gw6, gv_cal, a1, al])
  obtain ⟨t, ht⟩ := sh S3
  refine wt_nx (item_ok A5 A6 A7 ht) fun δ S' hI => ?_
  obtain ⟨rfl, B5, B6, B7, rfl⟩ := hI
  (simp -implicitDefEqProofs only [w_var, k_get, v_con, v_glob, k_opt, k_bnd, f_nil, g_one, g_two, g_three, g_four, g_deep, p_nil, p_one, p_two, s_nil, o_nil, t_nil, x_nil, w_hnam, w_hbar, w_eget, w_eis, w_new, w_case, m_nil, km_some, km_none, km_ite, ms_one, ms_seq, ms_nil, ms_c, msr_s, msr_n, msr_i, mq_wild, mq_cap, mq_str, mq_int, ci_fix, fi_fix, n_lrng, q_frz, q_frzA, E_bin, E_neg, E_not, E_and, E_or, E_ite, E_cmp, E_chain, E_tup, E_lst, E_call, E_callk, E_bi, E_isi, E_idx, E_sl, E_rev, E_comp, E_comp2, E_fld, E_mcall, E_newk, E_iso, E_isit, E_lrng, E_lset, E_sset, E_mkx, E_mkxk, E_isx, E_isxt, E_popl, E_dct1, E_eqo, E_app, E_frz, S_mkx, S_mkxk, S_isx, S_isxt, S_popl, S_dct1, S_eqo, S_var, S_con, S_glob, S_bin, S_neg, S_not, S_and, S_or, S_ite, S_cmp, S_chain, S_tup, S_lst, S_dct, S_call, S_callk, S_bi, S_isi, S_idx, S_sl, S_rev, S_comp, S_eget, S_eis, S_app, S_frz, S_fld, S_mcall, S_new, S_newk, S_iso, S_isit, S_lrng, S_lset, S_sset, S_comp2, S_star, O_cons, T_not, T_and, T_or, T_tst, T_cmp, T_chain, T_ch3, I_rng, I_enum, I_zip, I_tst, X_set, X_stI, X_stA, X_match, X_expr, X_ret, X_ifs, X_for, X_raise, X_try, Q_set, Q_stI, Q_expr, Q_ifs, Q_for, Q_while, Q_try, Q_stA, Q_match, Q_ret, Q_raise, K_bin1, K_bin2, K_neg, K_not, K_cmp1, K_cmp2, K_ch1, K_idx1, K_ix2, K_sl1, K_sl2, K_sl3, K_rev, K_isi, K_app2, K_frz, K_con1, K_con2, K_star2, K_tup, K_lst, K_call, K_ck1, K_ck2, K_bi, K_comp1, K_rng1, K_rng2, K_enum, K_zip1, K_zip2, K_itst, K_tst, K_tcmp1, K_tcmp2, K_tch1, K_tnot, K_oc, K_set, K_stI1, K_stI2, K_stI3, K_expr, K_ret, K_for, K_comp21, K_fld, K_mc1, K_mc2, K_new, K_nk1, K_nk2, K_newF, K_newT, K_newX, K_iso, K_isit, K_lrng1, K_lrng2, K_mkx, K_isx, K_isxt, K_popl, K_dc1, K_dc2, K_eqo1, K_eqo2, K_lset, K_sset, K_t31, K_t32, K_t33, K_stA1, K_stA2, K_mat, K_seq, K_seqRt, K_seqX, K_seqB, K_seqC, K_raise, K_try, K_tryN, K_tryX, K_hret, K_loop, K_loopC, K_loopB, K_loopR, K_loopX, K_outN, K_outR, K_outX, X_bin1X, X_bin2X, X_negX, X_notX, X_and1X, X_or1X, X_cmp1X, X_cmp2X, X_ch1X, X_ch2X, X_idx1X, X_ix2X, X_sl1X, X_sl2X, X_sl3X, X_revX, X_isiX, X_app1X, X_app2X, X_frzX, X_con1X, X_con2X, X_star1X, X_star2X, X_tupX, X_lstX, X_callX, X_ck1X, X_ck2X, X_biX, X_comp1X, X_rng1X, X_rng2X, X_enumX, X_zip1X, X_zip2X, X_itstX, X_tcmp1X, X_tcmp2X, X_tch1X, X_tch2X, X_tnotX, X_tandX, X_torX, X_iteX, X_ocX, X_setX, X_stI1X, X_stI2X, X_stI3X, X_exprX, X_retX, X_ifsX, X_for_X, X_raiseX, X_comp21X, X_fldX, X_mc1X, X_mc2X, X_newX, X_nk1X, X_nk2X, X_isoX, X_isitX, X_lrng1X, X_lrng2X, X_lsetX, X_ssetX, X_mkxX, X_isxX, X_isxtX, X_poplX, X_dc1X, X_dc2X, X_eqo1X, X_eqo2X, X_t31X, X_t32X, X_t33X, X_stA1X, X_stA2X, X_matX, X_tstX, K_tand, K_tor, K_ite, K_ifs, K_and1, K_or1, K_ch2, K_tch2, K_starT, K_starL, K_app1, B_star, B_cmp, B_tcmp, B_app, B_mc, B_new, B_t3, B_iteI, B_iteD, B_iteB, B_iteL, B_iteS, B_ret, B_out, B_for, U_d, fd_err, ix_err, ixt_err, dc_new, a_addI, a_subI, a_mulI, a_divI, a_modI, a_powI, a_addL, a_addT, a_mulL, t_blD, t_intD, t_nonD, t_tupD, t_lstD, m_ltI, m_leI, m_gtI, m_geI, m_eqI, m_neI, m_eqS, m_neS, m_isB, m_isnB, m_isN, m_isnN, m_eqT2, m_neT2, ob_s, od_s, l_newF, l_newT, n_int, n_rng, n_enum, i_tup, i_lst, i_scr, ii_tup, ii_lst, sq_tup, sq_lst, at_0, at_1, at_2, at_3, b_len1, b_len2, b_len3, b_max2, b_min2, b_abs, b_intB, b_intI, b_repr, b_all, b_any, List.getElem?_cons_zero, List.getElem?_cons_succ, List.set_cons_zero, List.set_cons_succ, if_true, if_false, Bool.not_true, Bool.not_false, Bool.false_eq_true, fits_1, List.length_cons, List.length_nil, List.cons_append, List.nil_append, List.append_nil, k_bind, k_bindX, ↓reduceIte, Nat.reduceLeDiff, Nat.reduceAdd, Nat.reduceEqDiff, Int.reduceEq, Int.reduceNeg, Int.reduceLT, Int.reduceLE, Int.reduceAdd, Int.reduceSub, Int.reduceMul, Int.reduceNe, Nat.reduceMul, Nat.reduceLT, Int.cast_ofNat_Int, decide_true, decide_false, Bool.and_true, Bool.true_and, Bool.false_and, Bool.and_false, eq_self, Bool.or_true, Bool.or_false, Bool.true_or, Bool.false_or, gx0_0, gx0_1, gx0_2, gx0_3, gx0_4, gx0_5, gx0_6, gx0_7, gx0_8, gx0_9, gx0_10, gx0_11, gy0, gw0, gx1_0, gx1_1, gx1_2, gx1_3, gx1_4, gx1_5, gx1_6, gx1_7, gx1_8, gx1_9, gx1_10, gx1_11, gy1, gw1, gx2_0, gx2_1, gx2_2, gx2_3, gx2_4, gx2_5, gx2_6, gx2_7, gx2_8, gx2_9, gx2_10, gx2_11, gy2, gw2, gx3_0, gx3_1, gx3_2, gx3_3, gx3_4, gx3_5, gx3_6, gx3_7, gx3_8, gx3_9, gx3_10, gx3_11, gy3, gw3, gx4_0, gx4_1, gx4_2, gx4_3, gx4_4, gx4_5, gx4_6, gx4_7, gx4_8, gx4_9, gx4_10, gx4_11, gy4, gw4, gx5_0, gx5_1, gx5_2, gx5_3, gx5_4, gx5_5, gx5_6, gx5_7, gx5_8, gx5_9, gx5_10, gx5_11, gy5, gw5, gx6_0, gx6_1, gx6_2, gx6_3, gx6_4, gx6_5, gx6_6, gx6_7, gx6_8, gx6_9, gx6_10, gx6_11, gy6, gw6, gv_cal, gv_mc, gv_new, sts_one, sts_tup, wd_nil, wd_cons, g_cD, i_cD0, i_cD1])
  exact WN.mk ⟨_, _, _, _, _, _, rfl⟩
end
theorem law_ok (ns : List Int) (hl : ns.length ≤ 63) : ∃ S, pg.cal 6 0 [.scr ns] [] = .ok (.bl true) S := by
  rw [e0]
  obtain ⟨v, S, e, rfl⟩ : ∃ v S', outR (ex (pg.gv (pg.run 5)) c_law [some (.scr ns), none, none, none, none, none, none, none] []) = .ok v S' ∧ v = .bl true := by
    refine wf_ex ?_
    have ht := turns_le (m := 10) (n := ns.length) (by decide)
    have i0 : inR 0 = true := rfl
    have i1 : inR (turns 10 ns.length) = true := inR_of (by omega) (by omega)
    unfold turns at i1
    (simp -implicitDefEqProofs only [w_var, k_get, v_con, v_glob, k_opt, k_bnd, f_nil, g_one, g_two, g_three, g_four, g_deep, p_nil, p_one, p_two, s_nil, o_nil, t_nil, x_nil, w_hnam, w_hbar, w_eget, w_eis, w_new, w_case, m_nil, km_some, km_none, km_ite, ms_one, ms_seq, ms_nil, ms_c, msr_s, msr_n, msr_i, mq_wild, mq_cap, mq_str, mq_int, ci_fix, fi_fix, n_lrng, q_frz, q_frzA, E_bin, E_neg, E_not, E_and, E_or, E_ite, E_cmp, E_chain, E_tup, E_lst, E_call, E_callk, E_bi, E_isi, E_idx, E_sl, E_rev, E_comp, E_comp2, E_fld, E_mcall, E_newk, E_iso, E_isit, E_lrng, E_lset, E_sset, E_mkx, E_mkxk, E_isx, E_isxt, E_popl, E_dct1, E_eqo, E_app, E_frz, S_mkx, S_mkxk, S_isx, S_isxt, S_popl, S_dct1, S_eqo, S_var, S_con, S_glob, S_bin, S_neg, S_not, S_and, S_or, S_ite, S_cmp, S_chain, S_tup, S_lst, S_dct, S_call, S_callk, S_bi, S_isi, S_idx, S_sl, S_rev, S_comp, S_eget, S_eis, S_app, S_frz, S_fld, S_mcall, S_new, S_newk, S_iso, S_isit, S_lrng, S_lset, S_sset, S_comp2, S_star, O_cons, T_not, T_and, T_or, T_tst, T_cmp, T_chain, T_ch3, I_rng, I_enum, I_zip, I_tst, X_set, X_stI, X_stA, X_match, X_expr, X_ret, X_ifs, X_for, X_raise, X_try, Q_set, Q_stI, Q_expr, Q_ifs, Q_for, Q_while, Q_try, Q_stA, Q_match, Q_ret, Q_raise, K_bin1, K_bin2, K_neg, K_not, K_cmp1, K_cmp2, K_ch1, K_idx1, K_ix2, K_sl1, K_sl2, K_sl3, K_rev, K_isi, K_app2, K_frz, K_con1, K_con2, K_star2, K_tup, K_lst, K_call, K_ck1, K_ck2, K_bi, K_comp1, K_rng1, K_rng2, K_enum, K_zip1, K_zip2, K_itst, K_tst, K_tcmp1, K_tcmp2, K_tch1, K_tnot, K_oc, K_set, K_stI1, K_stI2, K_stI3, K_expr, K_ret, K_for, K_comp21, K_fld, K_mc1, K_mc2, K_new, K_nk1, K_nk2, K_newF, K_newT, K_newX, K_iso, K_isit, K_lrng1, K_lrng2, K_mkx, K_isx, K_isxt, K_popl, K_dc1, K_dc2, K_eqo1, K_eqo2, K_lset, K_sset, K_t31, K_t32, K_t33, K_stA1, K_stA2, K_mat, K_seq, K_seqRt, K_seqX, K_seqB, K_seqC, K_raise, K_try, K_tryN, K_tryX, K_hret, K_loop, K_loopC, K_loopB, K_loopR, K_loopX, K_outN, K_outR, K_outX, X_bin1X, X_bin2X, X_negX, X_notX, X_and1X, X_or1X, X_cmp1X, X_cmp2X, X_ch1X, X_ch2X, X_idx1X, X_ix2X, X_sl1X, X_sl2X, X_sl3X, X_revX, X_isiX, X_app1X, X_app2X, X_frzX, X_con1X, X_con2X, X_star1X, X_star2X, X_tupX, X_lstX, X_callX, X_ck1X, X_ck2X, X_biX, X_comp1X, X_rng1X, X_rng2X, X_enumX, X_zip1X, X_zip2X, X_itstX, X_tcmp1X, X_tcmp2X, X_tch1X, X_tch2X, X_tnotX, X_tandX, X_torX, X_iteX, X_ocX, X_setX, X_stI1X, X_stI2X, X_stI3X, X_exprX, X_retX, X_ifsX, X_for_X, X_raiseX, X_comp21X, X_fldX, X_mc1X, X_mc2X, X_newX, X_nk1X, X_nk2X, X_isoX, X_isitX, X_lrng1X, X_lrng2X, X_lsetX, X_ssetX, X_mkxX, X_isxX, X_isxtX, X_poplX, X_dc1X, X_dc2X, X_eqo1X, X_eqo2X, X_t31X, X_t32X, X_t33X, X_stA1X, X_stA2X, X_matX, X_tstX, K_tand, K_tor, K_ite, K_ifs, K_and1, K_or1, K_ch2, K_tch2, K_starT, K_starL, K_app1, B_star, B_cmp, B_tcmp, B_app, B_mc, B_new, B_t3, B_iteI, B_iteD, B_iteB, B_iteL, B_iteS, B_ret, B_out, B_for, U_d, fd_err, ix_err, ixt_err, dc_new, a_addI, a_subI, a_mulI, a_divI, a_modI, a_powI, a_addL, a_addT, a_mulL, t_blD, t_intD, t_nonD, t_tupD, t_lstD, m_ltI, m_leI, m_gtI, m_geI, m_eqI, m_neI, m_eqS, m_neS, m_isB, m_isnB, m_isN, m_isnN, m_eqT2, m_neT2, ob_s, od_s, l_newF, l_newT, n_int, n_rng, n_enum, i_tup, i_lst, i_scr, ii_tup, ii_lst, sq_tup, sq_lst, at_0, at_1, at_2, at_3, b_len1, b_len2, b_len3, b_max2, b_min2, b_abs, b_intB, b_intI, b_repr, b_all, b_any, List.getElem?_cons_zero, List.getElem?_cons_succ, List.set_cons_zero, List.set_cons_succ, if_true, if_false, Bool.not_true, Bool.not_false, Bool.false_eq_true, fits_1, List.length_cons, List.length_nil, List.cons_append, List.nil_append, List.append_nil, k_bind, k_bindX, ↓reduceIte, Nat.reduceLeDiff, Nat.reduceAdd, Nat.reduceEqDiff, Int.reduceEq, Int.reduceNeg, Int.reduceLT, Int.reduceLE, Int.reduceAdd, Int.reduceSub, Int.reduceMul, Int.reduceNe, Nat.reduceMul, Nat.reduceLT, Int.cast_ofNat_Int, decide_true, decide_false, Bool.and_true, Bool.true_and, Bool.false_and, Bool.and_false, eq_self, Bool.or_true, Bool.or_false, Bool.true_or, Bool.false_or, gx0_0, gx0_1, gx0_2, gx0_3, gx0_4, gx0_5, gx0_6, gx0_7, gx0_8, gx0_9, gx0_10, gx0_11, gy0, gw0, gx1_0, gx1_1, gx1_2, gx1_3, gx1_4, gx1_5, gx1_6, gx1_7, gx1_8, gx1_9, gx1_10, gx1_11, gy1, gw1, gx2_0, gx2_1, gx2_2, gx2_3, gx2_4, gx2_5, gx2_6, gx2_7, gx2_8, gx2_9, gx2_10, gx2_11, gy2, gw2, gx3_0, gx3_1, gx3_2, gx3_3, gx3_4, gx3_5, gx3_6, gx3_7, gx3_8, gx3_9, gx3_10, gx3_11, gy3, gw3, gx4_0, gx4_1, gx4_2, gx4_3, gx4_4, gx4_5, gx4_6, gx4_7, gx4_8, gx4_9, gx4_10, gx4_11, gy4, gw4, gx5_0, gx5_1, gx5_2, gx5_3, gx5_4, gx5_5, gx5_6, gx5_7, gx5_8, gx5_9, gx5_10, gx5_11, gy5, gw5, gx6_0, gx6_1, gx6_2, gx6_3, gx6_4, gx6_5, gx6_6, gx6_7, gx6_8, gx6_9, gx6_10, gx6_11, gy6, gw6, gv_cal, gv_mc, gv_new, sts_one, sts_tup, wd_nil, wd_cons, g_cD, i_cD0, i_cD1, c_law, i0, i1])
    refine wt_rng (by unfold turns at ht; omega) (fun i δ S => ∃ B1 B2 B3 B4 B5 B6 B7, δ = [some (.scr ns), B1, B2, B3, B4, B5, B6, B7]) ⟨_, _, _, _, _, _, _, rfl⟩ (fun i δ S hi hI => ?_) (fun δ S hI => ?_)
    · obtain ⟨B1, B2, B3, B4, B5, B6, B7, rfl⟩ := hI
      (simp -implicitDefEqProofs only [w_var, k_get, v_con, v_glob, k_opt, k_bnd, f_nil, g_one, g_two, g_three, g_four, g_deep, p_nil, p_one, p_two, s_nil, o_nil, t_nil, x_nil, w_hnam, w_hbar, w_eget, w_eis, w_new, w_case, m_nil, km_some, km_none, km_ite, ms_one, ms_seq, ms_nil, ms_c, msr_s, msr_n, msr_i, mq_wild, mq_cap, mq_str, mq_int, ci_fix, fi_fix, n_lrng, q_frz, q_frzA, E_bin, E_neg, E_not, E_and, E_or, E_ite, E_cmp, E_chain, E_tup, E_lst, E_call, E_callk, E_bi, E_isi, E_idx, E_sl, E_rev, E_comp, E_comp2, E_fld, E_mcall, E_newk, E_iso, E_isit, E_lrng, E_lset, E_sset, E_mkx, E_mkxk, E_isx, E_isxt, E_popl, E_dct1, E_eqo, E_app, E_frz, S_mkx, S_mkxk, S_isx, S_isxt, S_popl, S_dct1, S_eqo, S_var, S_con, S_glob, S_bin, S_neg, S_not, S_and, S_or, S_ite, S_cmp, S_chain, S_tup, S_lst, S_dct, S_call, S_callk, S_bi, S_isi, S_idx, S_sl, S_rev, S_comp, S_eget, S_eis, S_app, S_frz, S_fld, S_mcall, S_new, S_newk, S_iso, S_isit, S_lrng, S_lset, S_sset, S_comp2, S_star, O_cons, T_not, T_and, T_or, T_tst, T_cmp, T_chain, T_ch3, I_rng, I_enum, I_zip, I_tst, X_set, X_stI, X_stA, X_match, X_expr, X_ret, X_ifs, X_for, X_raise, X_try, Q_set, Q_stI, Q_expr, Q_ifs, Q_for, Q_while, Q_try, Q_stA, Q_match, Q_ret, Q_raise, K_bin1, K_bin2, K_neg, K_not, K_cmp1, K_cmp2, K_ch1, K_idx1, K_ix2, K_sl1, K_sl2, K_sl3, K_rev, K_isi, K_app2, K_frz, K_con1, K_con2, K_star2, K_tup, K_lst, K_call, K_ck1, K_ck2, K_bi, K_comp1, K_rng1, K_rng2, K_enum, K_zip1, K_zip2, K_itst, K_tst, K_tcmp1, K_tcmp2, K_tch1, K_tnot, K_oc, K_set, K_stI1, K_stI2, K_stI3, K_expr, K_ret, K_for, K_comp21, K_fld, K_mc1, K_mc2, K_new, K_nk1, K_nk2, K_newF, K_newT, K_newX, K_iso, K_isit, K_lrng1, K_lrng2, K_mkx, K_isx, K_isxt, K_popl, K_dc1, K_dc2, K_eqo1, K_eqo2, K_lset, K_sset, K_t31, K_t32, K_t33, K_stA1, K_stA2, K_mat, K_seq, K_seqRt, K_seqX, K_seqB, K_seqC, K_raise, K_try, K_tryN, K_tryX, K_hret, K_loop, K_loopC, K_loopB, K_loopR, K_loopX, K_outN, K_outR, K_outX, X_bin1X, X_bin2X, X_negX, X_notX, X_and1X, X_or1X, X_cmp1X, X_cmp2X, X_ch1X, X_ch2X, X_idx1X, X_ix2X, X_sl1X, X_sl2X, X_sl3X, X_revX, X_isiX, X_app1X, X_app2X, X_frzX, X_con1X, X_con2X, X_star1X, X_star2X, X_tupX, X_lstX, X_callX, X_ck1X, X_ck2X, X_biX, X_comp1X, X_rng1X, X_rng2X, X_enumX, X_zip1X, X_zip2X, X_itstX, X_tcmp1X, X_tcmp2X, X_tch1X, X_tch2X, X_tnotX, X_tandX, X_torX, X_iteX, X_ocX, X_setX, X_stI1X, X_stI2X, X_stI3X, X_exprX, X_retX, X_ifsX, X_for_X, X_raiseX, X_comp21X, X_fldX, X_mc1X, X_mc2X, X_newX, X_nk1X, X_nk2X, X_isoX, X_isitX, X_lrng1X, X_lrng2X, X_lsetX, X_ssetX, X_mkxX, X_isxX, X_isxtX, X_poplX, X_dc1X, X_dc2X, X_eqo1X, X_eqo2X, X_t31X, X_t32X, X_t33X, X_stA1X, X_stA2X, X_matX, X_tstX, K_tand, K_tor, K_ite, K_ifs, K_and1, K_or1, K_ch2, K_tch2, K_starT, K_starL, K_app1, B_star, B_cmp, B_tcmp, B_app, B_mc, B_new, B_t3, B_iteI, B_iteD, B_iteB, B_iteL, B_iteS, B_ret, B_out, B_for, U_d, fd_err, ix_err, ixt_err, dc_new, a_addI, a_subI, a_mulI, a_divI, a_modI, a_powI, a_addL, a_addT, a_mulL, t_blD, t_intD, t_nonD, t_tupD, t_lstD, m_ltI, m_leI, m_gtI, m_geI, m_eqI, m_neI, m_eqS, m_neS, m_isB, m_isnB, m_isN, m_isnN, m_eqT2, m_neT2, ob_s, od_s, l_newF, l_newT, n_int, n_rng, n_enum, i_tup, i_lst, i_scr, ii_tup, ii_lst, sq_tup, sq_lst, at_0, at_1, at_2, at_3, b_len1, b_len2, b_len3, b_max2, b_min2, b_abs, b_intB, b_intI, b_repr, b_all, b_any, List.getElem?_cons_zero, List.getElem?_cons_succ, List.set_cons_zero, List.set_cons_succ, if_true, if_false, Bool.not_true, Bool.not_false, Bool.false_eq_true, fits_1, List.length_cons, List.length_nil, List.cons_append, List.nil_append, List.append_nil, k_bind, k_bindX, ↓reduceIte, Nat.reduceLeDiff, Nat.reduceAdd, Nat.reduceEqDiff, Int.reduceEq, Int.reduceNeg, Int.reduceLT, Int.reduceLE, Int.reduceAdd, Int.reduceSub, Int.reduceMul, Int.reduceNe, Nat.reduceMul, Nat.reduceLT, Int.cast_ofNat_Int, decide_true, decide_false, Bool.and_true, Bool.true_and, Bool.false_and, Bool.and_false, eq_self, Bool.or_true, Bool.or_false, Bool.true_or, Bool.false_or, gx0_0, gx0_1, gx0_2, gx0_3, gx0_4, gx0_5, gx0_6, gx0_7, gx0_8, gx0_9, gx0_10, gx0_11, gy0, gw0, gx1_0, gx1_1, gx1_2, gx1_3, gx1_4, gx1_5, gx1_6, gx1_7, gx1_8, gx1_9, gx1_10, gx1_11, gy1, gw1, gx2_0, gx2_1, gx2_2, gx2_3, gx2_4, gx2_5, gx2_6, gx2_7, gx2_8, gx2_9, gx2_10, gx2_11, gy2, gw2, gx3_0, gx3_1, gx3_2, gx3_3, gx3_4, gx3_5, gx3_6, gx3_7, gx3_8, gx3_9, gx3_10, gx3_11, gy3, gw3, gx4_0, gx4_1, gx4_2, gx4_3, gx4_4, gx4_5, gx4_6, gx4_7, gx4_8, gx4_9, gx4_10, gx4_11, gy4, gw4, gx5_0, gx5_1, gx5_2, gx5_3, gx5_4, gx5_5, gx5_6, gx5_7, gx5_8, gx5_9, gx5_10, gx5_11, gy5, gw5, gx6_0, gx6_1, gx6_2, gx6_3, gx6_4, gx6_5, gx6_6, gx6_7, gx6_8, gx6_9, gx6_10, gx6_11, gy6, gw6, gv_cal, gv_mc, gv_new, sts_one, sts_tup, wd_nil, wd_cons, g_cD, i_cD0, i_cD1])
      refine (turn_ok (k := i) (by unfold turns at ht; omega)).mono fun z hz => ?_
      obtain ⟨δ, S', rfl, C2, C3, C4, C5, C6, C7, rfl⟩ := hz
      exact ⟨_, _, rfl, _, _, _, _, _, _, _, rfl⟩
    · obtain ⟨B1, B2, B3, B4, B5, B6, B7, rfl⟩ := hI
      (simp -implicitDefEqProofs only [w_var, k_get, v_con, v_glob, k_opt, k_bnd, f_nil, g_one, g_two, g_three, g_four, g_deep, p_nil, p_one, p_two, s_nil, o_nil, t_nil, x_nil, w_hnam, w_hbar, w_eget, w_eis, w_new, w_case, m_nil, km_some, km_none, km_ite, ms_one, ms_seq, ms_nil, ms_c, msr_s, msr_n, msr_i, mq_wild, mq_cap, mq_str, mq_int, ci_fix, fi_fix, n_lrng, q_frz, q_frzA, E_bin, E_neg, E_not, E_and, E_or, E_ite, E_cmp, E_chain, E_tup, E_lst, E_call, E_callk, E_bi, E_isi, E_idx, E_sl, E_rev, E_comp, E_comp2, E_fld, E_mcall, E_newk, E_iso, E_isit, E_lrng, E_lset, E_sset, E_mkx, E_mkxk, E_isx, E_isxt, E_popl, E_dct1, E_eqo, E_app, E_frz, S_mkx, S_mkxk, S_isx, S_isxt, S_popl, S_dct1, S_eqo, S_var, S_con, S_glob, S_bin, S_neg, S_not, S_and, S_or, S_ite, S_cmp, S_chain, S_tup, S_lst, S_dct, S_call, S_callk, S_bi, S_isi, S_idx, S_sl, S_rev, S_comp, S_eget, S_eis, S_app, S_frz, S_fld, S_mcall, S_new, S_newk, S_iso, S_isit, S_lrng, S_lset, S_sset, S_comp2, S_star, O_cons, T_not, T_and, T_or, T_tst, T_cmp, T_chain, T_ch3, I_rng, I_enum, I_zip, I_tst, X_set, X_stI, X_stA, X_match, X_expr, X_ret, X_ifs, X_for, X_raise, X_try, Q_set, Q_stI, Q_expr, Q_ifs, Q_for, Q_while, Q_try, Q_stA, Q_match, Q_ret, Q_raise, K_bin1, K_bin2, K_neg, K_not, K_cmp1, K_cmp2, K_ch1, K_idx1, K_ix2, K_sl1, K_sl2, K_sl3, K_rev, K_isi, K_app2, K_frz, K_con1, K_con2, K_star2, K_tup, K_lst, K_call, K_ck1, K_ck2, K_bi, K_comp1, K_rng1, K_rng2, K_enum, K_zip1, K_zip2, K_itst, K_tst, K_tcmp1, K_tcmp2, K_tch1, K_tnot, K_oc, K_set, K_stI1, K_stI2, K_stI3, K_expr, K_ret, K_for, K_comp21, K_fld, K_mc1, K_mc2, K_new, K_nk1, K_nk2, K_newF, K_newT, K_newX, K_iso, K_isit, K_lrng1, K_lrng2, K_mkx, K_isx, K_isxt, K_popl, K_dc1, K_dc2, K_eqo1, K_eqo2, K_lset, K_sset, K_t31, K_t32, K_t33, K_stA1, K_stA2, K_mat, K_seq, K_seqRt, K_seqX, K_seqB, K_seqC, K_raise, K_try, K_tryN, K_tryX, K_hret, K_loop, K_loopC, K_loopB, K_loopR, K_loopX, K_outN, K_outR, K_outX, X_bin1X, X_bin2X, X_negX, X_notX, X_and1X, X_or1X, X_cmp1X, X_cmp2X, X_ch1X, X_ch2X, X_idx1X, X_ix2X, X_sl1X, X_sl2X, X_sl3X, X_revX, X_isiX, X_app1X, X_app2X, X_frzX, X_con1X, X_con2X, X_star1X, X_star2X, X_tupX, X_lstX, X_callX, X_ck1X, X_ck2X, X_biX, X_comp1X, X_rng1X, X_rng2X, X_enumX, X_zip1X, X_zip2X, X_itstX, X_tcmp1X, X_tcmp2X, X_tch1X, X_tch2X, X_tnotX, X_tandX, X_torX, X_iteX, X_ocX, X_setX, X_stI1X, X_stI2X, X_stI3X, X_exprX, X_retX, X_ifsX, X_for_X, X_raiseX, X_comp21X, X_fldX, X_mc1X, X_mc2X, X_newX, X_nk1X, X_nk2X, X_isoX, X_isitX, X_lrng1X, X_lrng2X, X_lsetX, X_ssetX, X_mkxX, X_isxX, X_isxtX, X_poplX, X_dc1X, X_dc2X, X_eqo1X, X_eqo2X, X_t31X, X_t32X, X_t33X, X_stA1X, X_stA2X, X_matX, X_tstX, K_tand, K_tor, K_ite, K_ifs, K_and1, K_or1, K_ch2, K_tch2, K_starT, K_starL, K_app1, B_star, B_cmp, B_tcmp, B_app, B_mc, B_new, B_t3, B_iteI, B_iteD, B_iteB, B_iteL, B_iteS, B_ret, B_out, B_for, U_d, fd_err, ix_err, ixt_err, dc_new, a_addI, a_subI, a_mulI, a_divI, a_modI, a_powI, a_addL, a_addT, a_mulL, t_blD, t_intD, t_nonD, t_tupD, t_lstD, m_ltI, m_leI, m_gtI, m_geI, m_eqI, m_neI, m_eqS, m_neS, m_isB, m_isnB, m_isN, m_isnN, m_eqT2, m_neT2, ob_s, od_s, l_newF, l_newT, n_int, n_rng, n_enum, i_tup, i_lst, i_scr, ii_tup, ii_lst, sq_tup, sq_lst, at_0, at_1, at_2, at_3, b_len1, b_len2, b_len3, b_max2, b_min2, b_abs, b_intB, b_intI, b_repr, b_all, b_any, List.getElem?_cons_zero, List.getElem?_cons_succ, List.set_cons_zero, List.set_cons_succ, if_true, if_false, Bool.not_true, Bool.not_false, Bool.false_eq_true, fits_1, List.length_cons, List.length_nil, List.cons_append, List.nil_append, List.append_nil, k_bind, k_bindX, ↓reduceIte, Nat.reduceLeDiff, Nat.reduceAdd, Nat.reduceEqDiff, Int.reduceEq, Int.reduceNeg, Int.reduceLT, Int.reduceLE, Int.reduceAdd, Int.reduceSub, Int.reduceMul, Int.reduceNe, Nat.reduceMul, Nat.reduceLT, Int.cast_ofNat_Int, decide_true, decide_false, Bool.and_true, Bool.true_and, Bool.false_and, Bool.and_false, eq_self, Bool.or_true, Bool.or_false, Bool.true_or, Bool.false_or, gx0_0, gx0_1, gx0_2, gx0_3, gx0_4, gx0_5, gx0_6, gx0_7, gx0_8, gx0_9, gx0_10, gx0_11, gy0, gw0, gx1_0, gx1_1, gx1_2, gx1_3, gx1_4, gx1_5, gx1_6, gx1_7, gx1_8, gx1_9, gx1_10, gx1_11, gy1, gw1, gx2_0, gx2_1, gx2_2, gx2_3, gx2_4, gx2_5, gx2_6, gx2_7, gx2_8, gx2_9, gx2_10, gx2_11, gy2, gw2, gx3_0, gx3_1, gx3_2, gx3_3, gx3_4, gx3_5, gx3_6, gx3_7, gx3_8, gx3_9, gx3_10, gx3_11, gy3, gw3, gx4_0, gx4_1, gx4_2, gx4_3, gx4_4, gx4_5, gx4_6, gx4_7, gx4_8, gx4_9, gx4_10, gx4_11, gy4, gw4, gx5_0, gx5_1, gx5_2, gx5_3, gx5_4, gx5_5, gx5_6, gx5_7, gx5_8, gx5_9, gx5_10, gx5_11, gy5, gw5, gx6_0, gx6_1, gx6_2, gx6_3, gx6_4, gx6_5, gx6_6, gx6_7, gx6_8, gx6_9, gx6_10, gx6_11, gy6, gw6, gv_cal, gv_mc, gv_new, sts_one, sts_tup, wd_nil, wd_cons, g_cD, i_cD0, i_cD1])
      exact WD.mk rfl
  exact ⟨S, e⟩
end Law

open PySem PySem.W PyProof.Rows
set_option maxRecDepth 100000 in
set_option maxHeartbeats 0 in
theorem PySem.Challenge.cw_countedlights_k26_exceptions_holds : PySem.Challenge.rw_countedlights_k26_exceptions.Holds := by
  w_on; o_law; k_head; (case hw => w_witness2)
  k_fill
  refine PV.walk_pv (l := PySem.Challenge.rw_countedlights_k26_exceptions) (n := 63) (dep := 6) (li := 0) (Γ := Law.Γ) (p := Law.pg) rfl (by decide) rfl ⟨rfl, by decide, by decide⟩ rfl (fun w h Y => PySem.W.kIn_of Y) ?F Law.law_ok
  case F =>
    intro w mg h KX G
    refine' Law.all_mk KX G ?q_a0 ?q_l0 ?q_c0 ?q_k0 ?q_a1 ?q_l1 ?q_c1 ?q_k1 ?q_a2 ?q_l2 ?q_c2 ?q_k2 ?q_a3 ?q_l3 ?q_c3 ?q_k3 ?q_a4 ?q_l4 ?q_c4 ?q_k4 ?q_y0 ?q_yr0 ?q_yg0 ?q_yi0 ?q_x0 ?q_xga0 ?q_xgg0 ?q_xex0 ?q_xhd0 ?q_xca0 ?q_xcm0 ?q_xty0 ?q_xk0 ?q_xno0 ?q_xl0 ?q_xv0 ?q_xsa0 ?q_xi0 ?q_xit0 ?q_l100 ?q_c100 ?q_k100 ?q_x1 ?q_xga1 ?q_xgg1 ?q_xex1 ?q_xhd1 ?q_xca1 ?q_xcm1 ?q_xty1 ?q_xk1 ?q_xno1 ?q_xl1 ?q_xv1 ?q_xsa1 ?q_xi1 ?q_xit1 ?q_l101 ?q_c101 ?q_k101 ?q_x2 ?q_xga2 ?q_xgg2 ?q_xex2 ?q_xhd2 ?q_xca2 ?q_xcm2 ?q_xty2 ?q_xk2 ?q_xno2 ?q_xl2 ?q_xv2 ?q_xsa2 ?q_xi2 ?q_xit2 ?q_l102 ?q_c102 ?q_k102 ?q_x3 ?q_xga3 ?q_xgg3 ?q_xex3 ?q_xhd3 ?q_xca3 ?q_xcm3 ?q_xty3 ?q_xk3 ?q_xno3 ?q_xl3 ?q_xv3 ?q_xsa3 ?q_xi3 ?q_xit3 ?q_l103 ?q_c103 ?q_k103 ?q_x4 ?q_xga4 ?q_xgg4 ?q_xex4 ?q_xhd4 ?q_xca4 ?q_xcm4 ?q_xty4 ?q_xk4 ?q_xno4 ?q_xl4 ?q_xv4 ?q_xsa4 ?q_xi4 ?q_xit4 ?q_l104 ?q_c104 ?q_k104 ?q_x5 ?q_xga5 ?q_xgg5 ?q_xex5 ?q_xhd5 ?q_xca5 ?q_xcm5 ?q_xty5 ?q_xk5 ?q_xno5 ?q_xl5 ?q_xv5 ?q_xsa5 ?q_xi5 ?q_xit5 ?q_l105 ?q_c105 ?q_k105 ?q_x6 ?q_xga6 ?q_xgg6 ?q_xex6 ?q_xhd6 ?q_xca6 ?q_xcm6 ?q_xty6 ?q_xk6 ?q_xno6 ?q_xl6 ?q_xv6 ?q_xsa6 ?q_xi6 ?q_xit6 ?q_l106 ?q_c106 ?q_k106 ?q_xcn ?q_xct ?q_ty0 ?q_ty1 ?q_ty2 ?q_ty3 ?q_ty4 ?q_xs0_0 ?q_xq0_0 ?q_xs0_1 ?q_xq0_1 ?q_xs0_2 ?q_xq0_2 ?q_xs0_3 ?q_xq0_3 ?q_xs0_4 ?q_xq0_4 ?q_xs0_5 ?q_xq0_5 ?q_xs0_6 ?q_xq0_6 ?q_xs0_7 ?q_xq0_7 ?q_xs0_8 ?q_xq0_8 ?q_xs0_9 ?q_xq0_9 ?q_xs0_10 ?q_xq0_10 ?q_xs0_11 ?q_xq0_11 ?q_xs1_0 ?q_xq1_0 ?q_xs1_1 ?q_xq1_1 ?q_xs1_2 ?q_xq1_2 ?q_xs1_3 ?q_xq1_3 ?q_xs1_4 ?q_xq1_4 ?q_xs1_5 ?q_xq1_5 ?q_xs1_6 ?q_xq1_6 ?q_xs1_7 ?q_xq1_7 ?q_xs1_8 ?q_xq1_8 ?q_xs1_9 ?q_xq1_9 ?q_xs1_10 ?q_xq1_10 ?q_xs1_11 ?q_xq1_11 ?q_xs2_0 ?q_xq2_0 ?q_xs2_1 ?q_xq2_1 ?q_xs2_2 ?q_xq2_2 ?q_xs2_3 ?q_xq2_3 ?q_xs2_4 ?q_xq2_4 ?q_xs2_5 ?q_xq2_5 ?q_xs2_6 ?q_xq2_6 ?q_xs2_7 ?q_xq2_7 ?q_xs2_8 ?q_xq2_8 ?q_xs2_9 ?q_xq2_9 ?q_xs2_10 ?q_xq2_10 ?q_xs2_11 ?q_xq2_11 ?q_xs3_0 ?q_xq3_0 ?q_xs3_1 ?q_xq3_1 ?q_xs3_2 ?q_xq3_2 ?q_xs3_3 ?q_xq3_3 ?q_xs3_4 ?q_xq3_4 ?q_xs3_5 ?q_xq3_5 ?q_xs3_6 ?q_xq3_6 ?q_xs3_7 ?q_xq3_7 ?q_xs3_8 ?q_xq3_8 ?q_xs3_9 ?q_xq3_9 ?q_xs3_10 ?q_xq3_10 ?q_xs3_11 ?q_xq3_11 ?q_xs4_0 ?q_xq4_0 ?q_xs4_1 ?q_xq4_1 ?q_xs4_2 ?q_xq4_2 ?q_xs4_3 ?q_xq4_3 ?q_xs4_4 ?q_xq4_4 ?q_xs4_5 ?q_xq4_5 ?q_xs4_6 ?q_xq4_6 ?q_xs4_7 ?q_xq4_7 ?q_xs4_8 ?q_xq4_8 ?q_xs4_9 ?q_xq4_9 ?q_xs4_10 ?q_xq4_10 ?q_xs4_11 ?q_xq4_11 ?q_xs5_0 ?q_xq5_0 ?q_xs5_1 ?q_xq5_1 ?q_xs5_2 ?q_xq5_2 ?q_xs5_3 ?q_xq5_3 ?q_xs5_4 ?q_xq5_4 ?q_xs5_5 ?q_xq5_5 ?q_xs5_6 ?q_xq5_6 ?q_xs5_7 ?q_xq5_7 ?q_xs5_8 ?q_xq5_8 ?q_xs5_9 ?q_xq5_9 ?q_xs5_10 ?q_xq5_10 ?q_xs5_11 ?q_xq5_11 ?q_xs6_0 ?q_xq6_0 ?q_xs6_1 ?q_xq6_1 ?q_xs6_2 ?q_xq6_2 ?q_xs6_3 ?q_xq6_3 ?q_xs6_4 ?q_xq6_4 ?q_xs6_5 ?q_xq6_5 ?q_xs6_6 ?q_xq6_6 ?q_xs6_7 ?q_xq6_7 ?q_xs6_8 ?q_xq6_8 ?q_xs6_9 ?q_xq6_9 ?q_xs6_10 ?q_xq6_10 ?q_xs6_11 ?q_xq6_11 ?q_z_len ?q_z_max ?q_z_min ?q_z_abs ?q_z_all ?q_z_any ?q_z_sum ?q_z_list ?q_z_tuple ?q_z_repr ?q_z_int ?q_z_isinstance ?q_z_bool ?q_z_str ?q_z_dict ?q_z_range ?q_z_enumerate ?q_z_zip ?q_z_set ?q_z_sorted
    (case q_a0 => first | k_is | rfl | k_exc | kernel_rfl)
    (case q_l0 => first | k_is | rfl | k_exc | kernel_rfl)
    (case q_c0 => first | k_is | rfl | k_exc | kernel_rfl)
    (case q_k0 => first | k_is | rfl | k_exc | kernel_rfl)
    (case q_a1 => first | k_is | rfl | k_exc | kernel_rfl)
    (case q_l1 => first | k_is | rfl | k_exc | kernel_rfl)
    (case q_c1 => first | k_is | rfl | k_exc | kernel_rfl)
    (case q_k1 => first | k_is | rfl | k_exc | kernel_rfl)
    (case q_a2 => first | k_is | rfl | k_exc | kernel_rfl)
    (case q_l2 => first | k_is | rfl | k_exc | kernel_rfl)
    (case q_c2 => first | k_is | rfl | k_exc | kernel_rfl)
    (case q_k2 => first | k_is | rfl | k_exc | kernel_rfl)
    (case q_a3 => first | k_is | rfl | k_exc | kernel_rfl)
    (case q_l3 => first | k_is | rfl | k_exc | kernel_rfl)
    (case q_c3 => first | k_is | rfl | k_exc | kernel_rfl)
    (case q_k3 => first | k_is | rfl | k_exc | kernel_rfl)
    (case q_a4 => first | k_is | rfl | k_exc | kernel_rfl)
    (case q_l4 => first | k_is | rfl | k_exc | kernel_rfl)
    (case q_c4 => first | k_is | rfl | k_exc | kernel_rfl)
    (case q_k4 => first | k_is | rfl | k_exc | kernel_rfl)
    (case q_y0 => first | k_is | rfl | k_exc | kernel_rfl)
    (case q_yr0 => first | k_is | rfl | k_exc | kernel_rfl)
    (case q_yg0 => first | k_is | rfl | k_exc | kernel_rfl)
    (case q_yi0 => first | k_is | rfl | k_exc | kernel_rfl)
    (case q_x0 => first | k_is | rfl | k_exc | kernel_rfl)
    (case q_xga0 => first | k_is | rfl | k_exc | kernel_rfl)
    (case q_xgg0 => first | k_is | rfl | k_exc | kernel_rfl)
    (case q_xex0 => first | k_is | rfl | k_exc | kernel_rfl)
    (case q_xhd0 => first | k_is | rfl | k_exc | kernel_rfl)
    (case q_xca0 => first | k_is | rfl | k_exc | kernel_rfl)
    (case q_xcm0 => first | k_is | rfl | k_exc | kernel_rfl)
    (case q_xty0 => first | k_is | rfl | k_exc | kernel_rfl)
    (case q_xk0 => first | k_is | rfl | k_exc | kernel_rfl)
    (case q_xno0 => first | k_is | rfl | k_exc | kernel_rfl)
    (case q_xl0 => first | k_is | rfl | k_exc | kernel_rfl)
    (case q_xv0 => first | k_is | rfl | k_exc | kernel_rfl)
    (case q_xsa0 => first | k_is | rfl | k_exc | kernel_rfl)
    (case q_xi0 => first | k_is | rfl | k_exc | kernel_rfl)
    (case q_xit0 => first | k_is | rfl | k_exc | kernel_rfl)
    (case q_l100 => first | k_is | rfl | k_exc | kernel_rfl)
    (case q_c100 => first | k_is | rfl | k_exc | kernel_rfl)
    (case q_k100 => first | k_is | rfl | k_exc | kernel_rfl)
    (case q_x1 => first | k_is | rfl | k_exc | kernel_rfl)
    (case q_xga1 => first | k_is | rfl | k_exc | kernel_rfl)
    (case q_xgg1 => first | k_is | rfl | k_exc | kernel_rfl)
    (case q_xex1 => first | k_is | rfl | k_exc | kernel_rfl)
    (case q_xhd1 => first | k_is | rfl | k_exc | kernel_rfl)
    (case q_xca1 => first | k_is | rfl | k_exc | kernel_rfl)
    (case q_xcm1 => first | k_is | rfl | k_exc | kernel_rfl)
    (case q_xty1 => first | k_is | rfl | k_exc | kernel_rfl)
    (case q_xk1 => first | k_is | rfl | k_exc | kernel_rfl)
    (case q_xno1 => first | k_is | rfl | k_exc | kernel_rfl)
    (case q_xl1 => first | k_is | rfl | k_exc | kernel_rfl)
    (case q_xv1 => first | k_is | rfl | k_exc | kernel_rfl)
    (case q_xsa1 => first | k_is | rfl | k_exc | kernel_rfl)
    (case q_xi1 => first | k_is | rfl | k_exc | kernel_rfl)
    (case q_xit1 => first | k_is | rfl | k_exc | kernel_rfl)
    (case q_l101 => first | k_is | rfl | k_exc | kernel_rfl)
    (case q_c101 => first | k_is | rfl | k_exc | kernel_rfl)
    (case q_k101 => first | k_is | rfl | k_exc | kernel_rfl)
    (case q_x2 => first | k_is | rfl | k_exc | kernel_rfl)
    (case q_xga2 => first | k_is | rfl | k_exc | kernel_rfl)
    (case q_xgg2 => first | k_is | rfl | k_exc | kernel_rfl)
    (case q_xex2 => first | k_is | rfl | k_exc | kernel_rfl)
    (case q_xhd2 => first | k_is | rfl | k_exc | kernel_rfl)
    (case q_xca2 => first | k_is | rfl | k_exc | kernel_rfl)
    (case q_xcm2 => first | k_is | rfl | k_exc | kernel_rfl)
    (case q_xty2 => first | k_is | rfl | k_exc | kernel_rfl)
    (case q_xk2 => first | k_is | rfl | k_exc | kernel_rfl)
    (case q_xno2 => first | k_is | rfl | k_exc | kernel_rfl)
    (case q_xl2 => first | k_is | rfl | k_exc | kernel_rfl)
    (case q_xv2 => first | k_is | rfl | k_exc | kernel_rfl)
    (case q_xsa2 => first | k_is | rfl | k_exc | kernel_rfl)
    (case q_xi2 => first | k_is | rfl | k_exc | kernel_rfl)
    (case q_xit2 => first | k_is | rfl | k_exc | kernel_rfl)
    (case q_l102 => first | k_is | rfl | k_exc | kernel_rfl)
    (case q_c102 => first | k_is | rfl | k_exc | kernel_rfl)
    (case q_k102 => first | k_is | rfl | k_exc | kernel_rfl)
    (case q_x3 => first | k_is | rfl | k_exc | kernel_rfl)
    (case q_xga3 => first | k_is | rfl | k_exc | kernel_rfl)
    (case q_xgg3 => first | k_is | rfl | k_exc | kernel_rfl)
    (case q_xex3 => first | k_is | rfl | k_exc | kernel_rfl)
    (case q_xhd3 => first | k_is | rfl | k_exc | kernel_rfl)
    (case q_xca3 => first | k_is | rfl | k_exc | kernel_rfl)
    (case q_xcm3 => first | k_is | rfl | k_exc | kernel_rfl)
    (case q_xty3 => first | k_is | rfl | k_exc | kernel_rfl)
    (case q_xk3 => first | k_is | rfl | k_exc | kernel_rfl)
    (case q_xno3 => first | k_is | rfl | k_exc | kernel_rfl)
    (case q_xl3 => first | k_is | rfl | k_exc | kernel_rfl)
    (case q_xv3 => first | k_is | rfl | k_exc | kernel_rfl)
    (case q_xsa3 => first | k_is | rfl | k_exc | kernel_rfl)
    (case q_xi3 => first | k_is | rfl | k_exc | kernel_rfl)
    (case q_xit3 => first | k_is | rfl | k_exc | kernel_rfl)
    (case q_l103 => first | k_is | rfl | k_exc | kernel_rfl)
    (case q_c103 => first | k_is | rfl | k_exc | kernel_rfl)
    (case q_k103 => first | k_is | rfl | k_exc | kernel_rfl)
    (case q_x4 => first | k_is | rfl | k_exc | kernel_rfl)
    (case q_xga4 => first | k_is | rfl | k_exc | kernel_rfl)
    (case q_xgg4 => first | k_is | rfl | k_exc | kernel_rfl)
    (case q_xex4 => first | k_is | rfl | k_exc | kernel_rfl)
    (case q_xhd4 => first | k_is | rfl | k_exc | kernel_rfl)
    (case q_xca4 => first | k_is | rfl | k_exc | kernel_rfl)
    (case q_xcm4 => first | k_is | rfl | k_exc | kernel_rfl)
    (case q_xty4 => first | k_is | rfl | k_exc | kernel_rfl)
    (case q_xk4 => first | k_is | rfl | k_exc | kernel_rfl)
    (case q_xno4 => first | k_is | rfl | k_exc | kernel_rfl)
    (case q_xl4 => first | k_is | rfl | k_exc | kernel_rfl)
    (case q_xv4 => first | k_is | rfl | k_exc | kernel_rfl)
    (case q_xsa4 => first | k_is | rfl | k_exc | kernel_rfl)
    (case q_xi4 => first | k_is | rfl | k_exc | kernel_rfl)
    (case q_xit4 => first | k_is | rfl | k_exc | kernel_rfl)
    (case q_l104 => first | k_is | rfl | k_exc | kernel_rfl)
    (case q_c104 => first | k_is | rfl | k_exc | kernel_rfl)
    (case q_k104 => first | k_is | rfl | k_exc | kernel_rfl)
    (case q_x5 => first | k_is | rfl | k_exc | kernel_rfl)
    (case q_xga5 => first | k_is | rfl | k_exc | kernel_rfl)
    (case q_xgg5 => first | k_is | rfl | k_exc | kernel_rfl)
    (case q_xex5 => first | k_is | rfl | k_exc | kernel_rfl)
    (case q_xhd5 => first | k_is | rfl | k_exc | kernel_rfl)
    (case q_xca5 => first | k_is | rfl | k_exc | kernel_rfl)
    (case q_xcm5 => first | k_is | rfl | k_exc | kernel_rfl)
    (case q_xty5 => first | k_is | rfl | k_exc | kernel_rfl)
    (case q_xk5 => first | k_is | rfl | k_exc | kernel_rfl)
    (case q_xno5 => first | k_is | rfl | k_exc | kernel_rfl)
    (case q_xl5 => first | k_is | rfl | k_exc | kernel_rfl)
    (case q_xv5 => first | k_is | rfl | k_exc | kernel_rfl)
    (case q_xsa5 => first | k_is | rfl | k_exc | kernel_rfl)
    (case q_xi5 => first | k_is | rfl | k_exc | kernel_rfl)
    (case q_xit5 => first | k_is | rfl | k_exc | kernel_rfl)
    (case q_l105 => first | k_is | rfl | k_exc | kernel_rfl)
    (case q_c105 => first | k_is | rfl | k_exc | kernel_rfl)
    (case q_k105 => first | k_is | rfl | k_exc | kernel_rfl)
    (case q_x6 => first | k_is | rfl | k_exc | kernel_rfl)
    (case q_xga6 => first | k_is | rfl | k_exc | kernel_rfl)
    (case q_xgg6 => first | k_is | rfl | k_exc | kernel_rfl)
    (case q_xex6 => first | k_is | rfl | k_exc | kernel_rfl)
    (case q_xhd6 => first | k_is | rfl | k_exc | kernel_rfl)
    (case q_xca6 => first | k_is | rfl | k_exc | kernel_rfl)
    (case q_xcm6 => first | k_is | rfl | k_exc | kernel_rfl)
    (case q_xty6 => first | k_is | rfl | k_exc | kernel_rfl)
    (case q_xk6 => first | k_is | rfl | k_exc | kernel_rfl)
    (case q_xno6 => first | k_is | rfl | k_exc | kernel_rfl)
    (case q_xl6 => first | k_is | rfl | k_exc | kernel_rfl)
    (case q_xv6 => first | k_is | rfl | k_exc | kernel_rfl)
    (case q_xsa6 => first | k_is | rfl | k_exc | kernel_rfl)
    (case q_xi6 => first | k_is | rfl | k_exc | kernel_rfl)
    (case q_xit6 => first | k_is | rfl | k_exc | kernel_rfl)
    (case q_l106 => first | k_is | rfl | k_exc | kernel_rfl)
    (case q_c106 => first | k_is | rfl | k_exc | kernel_rfl)
    (case q_k106 => first | k_is | rfl | k_exc | kernel_rfl)
    (case q_xcn => first | k_is | rfl | k_exc | kernel_rfl)
    (case q_xct => first | k_is | rfl | k_exc | kernel_rfl)
    (case q_ty0 => first | k_is | rfl | k_exc | kernel_rfl)
    (case q_ty1 => first | k_is | rfl | k_exc | kernel_rfl)
    (case q_ty2 => first | k_is | rfl | k_exc | kernel_rfl)
    (case q_ty3 => first | k_is | rfl | k_exc | kernel_rfl)
    (case q_ty4 => first | k_is | rfl | k_exc | kernel_rfl)
    (case q_xs0_0 => first | k_is | rfl | k_exc | kernel_rfl)
    (case q_xq0_0 => first | k_is | rfl | k_exc | kernel_rfl)
    (case q_xs0_1 => first | k_is | rfl | k_exc | kernel_rfl)
    (case q_xq0_1 => first | k_is | rfl | k_exc | kernel_rfl)
    (case q_xs0_2 => first | k_is | rfl | k_exc | kernel_rfl)
    (case q_xq0_2 => first | k_is | rfl | k_exc | kernel_rfl)
    (case q_xs0_3 => first | k_is | rfl | k_exc | kernel_rfl)
    (case q_xq0_3 => first | k_is | rfl | k_exc | kernel_rfl)
    (case q_xs0_4 => first | k_is | rfl | k_exc | kernel_rfl)
    (case q_xq0_4 => first | k_is | rfl | k_exc | kernel_rfl)
    (case q_xs0_5 => first | k_is | rfl | k_exc | kernel_rfl)
    (case q_xq0_5 => first | k_is | rfl | k_exc | kernel_rfl)
    (case q_xs0_6 => first | k_is | rfl | k_exc | kernel_rfl)
    (case q_xq0_6 => first | k_is | rfl | k_exc | kernel_rfl)
    (case q_xs0_7 => first | k_is | rfl | k_exc | kernel_rfl)
    (case q_xq0_7 => first | k_is | rfl | k_exc | kernel_rfl)
    (case q_xs0_8 => first | k_is | rfl | k_exc | kernel_rfl)
    (case q_xq0_8 => first | k_is | rfl | k_exc | kernel_rfl)
    (case q_xs0_9 => first | k_is | rfl | k_exc | kernel_rfl)
    (case q_xq0_9 => first | k_is | rfl | k_exc | kernel_rfl)
    (case q_xs0_10 => first | k_is | rfl | k_exc | kernel_rfl)
    (case q_xq0_10 => first | k_is | rfl | k_exc | kernel_rfl)
    (case q_xs0_11 => first | k_is | rfl | k_exc | kernel_rfl)
    (case q_xq0_11 => first | k_is | rfl | k_exc | kernel_rfl)
    (case q_xs1_0 => first | k_is | rfl | k_exc | kernel_rfl)
    (case q_xq1_0 => first | k_is | rfl | k_exc | kernel_rfl)
    (case q_xs1_1 => first | k_is | rfl | k_exc | kernel_rfl)
    (case q_xq1_1 => first | k_is | rfl | k_exc | kernel_rfl)
    (case q_xs1_2 => first | k_is | rfl | k_exc | kernel_rfl)
    (case q_xq1_2 => first | k_is | rfl | k_exc | kernel_rfl)
    (case q_xs1_3 => first | k_is | rfl | k_exc | kernel_rfl)
    (case q_xq1_3 => first | k_is | rfl | k_exc | kernel_rfl)
    (case q_xs1_4 => first | k_is | rfl | k_exc | kernel_rfl)
    (case q_xq1_4 => first | k_is | rfl | k_exc | kernel_rfl)
    (case q_xs1_5 => first | k_is | rfl | k_exc | kernel_rfl)
    (case q_xq1_5 => first | k_is | rfl | k_exc | kernel_rfl)
    (case q_xs1_6 => first | k_is | rfl | k_exc | kernel_rfl)
    (case q_xq1_6 => first | k_is | rfl | k_exc | kernel_rfl)
    (case q_xs1_7 => first | k_is | rfl | k_exc | kernel_rfl)
    (case q_xq1_7 => first | k_is | rfl | k_exc | kernel_rfl)
    (case q_xs1_8 => first | k_is | rfl | k_exc | kernel_rfl)
    (case q_xq1_8 => first | k_is | rfl | k_exc | kernel_rfl)
    (case q_xs1_9 => first | k_is | rfl | k_exc | kernel_rfl)
    (case q_xq1_9 => first | k_is | rfl | k_exc | kernel_rfl)
    (case q_xs1_10 => first | k_is | rfl | k_exc | kernel_rfl)
    (case q_xq1_10 => first | k_is | rfl | k_exc | kernel_rfl)
    (case q_xs1_11 => first | k_is | rfl | k_exc | kernel_rfl)
    (case q_xq1_11 => first | k_is | rfl | k_exc | kernel_rfl)
    (case q_xs2_0 => first | k_is | rfl | k_exc | kernel_rfl)
    (case q_xq2_0 => first | k_is | rfl | k_exc | kernel_rfl)
    (case q_xs2_1 => first | k_is | rfl | k_exc | kernel_rfl)
    (case q_xq2_1 => first | k_is | rfl | k_exc | kernel_rfl)
    (case q_xs2_2 => first | k_is | rfl | k_exc | kernel_rfl)
    (case q_xq2_2 => first | k_is | rfl | k_exc | kernel_rfl)
    (case q_xs2_3 => first | k_is | rfl | k_exc | kernel_rfl)
    (case q_xq2_3 => first | k_is | rfl | k_exc | kernel_rfl)
    (case q_xs2_4 => first | k_is | rfl | k_exc | kernel_rfl)
    (case q_xq2_4 => first | k_is | rfl | k_exc | kernel_rfl)
    (case q_xs2_5 => first | k_is | rfl | k_exc | kernel_rfl)
    (case q_xq2_5 => first | k_is | rfl | k_exc | kernel_rfl)
    (case q_xs2_6 => first | k_is | rfl | k_exc | kernel_rfl)
    (case q_xq2_6 => first | k_is | rfl | k_exc | kernel_rfl)
    (case q_xs2_7 => first | k_is | rfl | k_exc | kernel_rfl)
    (case q_xq2_7 => first | k_is | rfl | k_exc | kernel_rfl)
    (case q_xs2_8 => first | k_is | rfl | k_exc | kernel_rfl)
    (case q_xq2_8 => first | k_is | rfl | k_exc | kernel_rfl)
    (case q_xs2_9 => first | k_is | rfl | k_exc | kernel_rfl)
    (case q_xq2_9 => first | k_is | rfl | k_exc | kernel_rfl)
    (case q_xs2_10 => first | k_is | rfl | k_exc | kernel_rfl)
    (case q_xq2_10 => first | k_is | rfl | k_exc | kernel_rfl)
    (case q_xs2_11 => first | k_is | rfl | k_exc | kernel_rfl)
    (case q_xq2_11 => first | k_is | rfl | k_exc | kernel_rfl)
    (case q_xs3_0 => first | k_is | rfl | k_exc | kernel_rfl)
    (case q_xq3_0 => first | k_is | rfl | k_exc | kernel_rfl)
    (case q_xs3_1 => first | k_is | rfl | k_exc | kernel_rfl)
    (case q_xq3_1 => first | k_is | rfl | k_exc | kernel_rfl)
    (case q_xs3_2 => first | k_is | rfl | k_exc | kernel_rfl)
    (case q_xq3_2 => first | k_is | rfl | k_exc | kernel_rfl)
    (case q_xs3_3 => first | k_is | rfl | k_exc | kernel_rfl)
    (case q_xq3_3 => first | k_is | rfl | k_exc | kernel_rfl)
    (case q_xs3_4 => first | k_is | rfl | k_exc | kernel_rfl)
    (case q_xq3_4 => first | k_is | rfl | k_exc | kernel_rfl)
    (case q_xs3_5 => first | k_is | rfl | k_exc | kernel_rfl)
    (case q_xq3_5 => first | k_is | rfl | k_exc | kernel_rfl)
    (case q_xs3_6 => first | k_is | rfl | k_exc | kernel_rfl)
    (case q_xq3_6 => first | k_is | rfl | k_exc | kernel_rfl)
    (case q_xs3_7 => first | k_is | rfl | k_exc | kernel_rfl)
    (case q_xq3_7 => first | k_is | rfl | k_exc | kernel_rfl)
    (case q_xs3_8 => first | k_is | rfl | k_exc | kernel_rfl)
    (case q_xq3_8 => first | k_is | rfl | k_exc | kernel_rfl)
    (case q_xs3_9 => first | k_is | rfl | k_exc | kernel_rfl)
    (case q_xq3_9 => first | k_is | rfl | k_exc | kernel_rfl)
    (case q_xs3_10 => first | k_is | rfl | k_exc | kernel_rfl)
    (case q_xq3_10 => first | k_is | rfl | k_exc | kernel_rfl)
    (case q_xs3_11 => first | k_is | rfl | k_exc | kernel_rfl)
    (case q_xq3_11 => first | k_is | rfl | k_exc | kernel_rfl)
    (case q_xs4_0 => first | k_is | rfl | k_exc | kernel_rfl)
    (case q_xq4_0 => first | k_is | rfl | k_exc | kernel_rfl)
    (case q_xs4_1 => first | k_is | rfl | k_exc | kernel_rfl)
    (case q_xq4_1 => first | k_is | rfl | k_exc | kernel_rfl)
    (case q_xs4_2 => first | k_is | rfl | k_exc | kernel_rfl)
    (case q_xq4_2 => first | k_is | rfl | k_exc | kernel_rfl)
    (case q_xs4_3 => first | k_is | rfl | k_exc | kernel_rfl)
    (case q_xq4_3 => first | k_is | rfl | k_exc | kernel_rfl)
    (case q_xs4_4 => first | k_is | rfl | k_exc | kernel_rfl)
    (case q_xq4_4 => first | k_is | rfl | k_exc | kernel_rfl)
    (case q_xs4_5 => first | k_is | rfl | k_exc | kernel_rfl)
    (case q_xq4_5 => first | k_is | rfl | k_exc | kernel_rfl)
    (case q_xs4_6 => first | k_is | rfl | k_exc | kernel_rfl)
    (case q_xq4_6 => first | k_is | rfl | k_exc | kernel_rfl)
    (case q_xs4_7 => first | k_is | rfl | k_exc | kernel_rfl)
    (case q_xq4_7 => first | k_is | rfl | k_exc | kernel_rfl)
    (case q_xs4_8 => first | k_is | rfl | k_exc | kernel_rfl)
    (case q_xq4_8 => first | k_is | rfl | k_exc | kernel_rfl)
    (case q_xs4_9 => first | k_is | rfl | k_exc | kernel_rfl)
    (case q_xq4_9 => first | k_is | rfl | k_exc | kernel_rfl)
    (case q_xs4_10 => first | k_is | rfl | k_exc | kernel_rfl)
    (case q_xq4_10 => first | k_is | rfl | k_exc | kernel_rfl)
    (case q_xs4_11 => first | k_is | rfl | k_exc | kernel_rfl)
    (case q_xq4_11 => first | k_is | rfl | k_exc | kernel_rfl)
    (case q_xs5_0 => first | k_is | rfl | k_exc | kernel_rfl)
    (case q_xq5_0 => first | k_is | rfl | k_exc | kernel_rfl)
    (case q_xs5_1 => first | k_is | rfl | k_exc | kernel_rfl)
    (case q_xq5_1 => first | k_is | rfl | k_exc | kernel_rfl)
    (case q_xs5_2 => first | k_is | rfl | k_exc | kernel_rfl)
    (case q_xq5_2 => first | k_is | rfl | k_exc | kernel_rfl)
    (case q_xs5_3 => first | k_is | rfl | k_exc | kernel_rfl)
    (case q_xq5_3 => first | k_is | rfl | k_exc | kernel_rfl)
    (case q_xs5_4 => first | k_is | rfl | k_exc | kernel_rfl)
    (case q_xq5_4 => first | k_is | rfl | k_exc | kernel_rfl)
    (case q_xs5_5 => first | k_is | rfl | k_exc | kernel_rfl)
    (case q_xq5_5 => first | k_is | rfl | k_exc | kernel_rfl)
    (case q_xs5_6 => first | k_is | rfl | k_exc | kernel_rfl)
    (case q_xq5_6 => first | k_is | rfl | k_exc | kernel_rfl)
    (case q_xs5_7 => first | k_is | rfl | k_exc | kernel_rfl)
    (case q_xq5_7 => first | k_is | rfl | k_exc | kernel_rfl)
    (case q_xs5_8 => first | k_is | rfl | k_exc | kernel_rfl)
    (case q_xq5_8 => first | k_is | rfl | k_exc | kernel_rfl)
    (case q_xs5_9 => first | k_is | rfl | k_exc | kernel_rfl)
    (case q_xq5_9 => first | k_is | rfl | k_exc | kernel_rfl)
    (case q_xs5_10 => first | k_is | rfl | k_exc | kernel_rfl)
    (case q_xq5_10 => first | k_is | rfl | k_exc | kernel_rfl)
    (case q_xs5_11 => first | k_is | rfl | k_exc | kernel_rfl)
    (case q_xq5_11 => first | k_is | rfl | k_exc | kernel_rfl)
    (case q_xs6_0 => first | k_is | rfl | k_exc | kernel_rfl)
    (case q_xq6_0 => first | k_is | rfl | k_exc | kernel_rfl)
    (case q_xs6_1 => first | k_is | rfl | k_exc | kernel_rfl)
    (case q_xq6_1 => first | k_is | rfl | k_exc | kernel_rfl)
    (case q_xs6_2 => first | k_is | rfl | k_exc | kernel_rfl)
    (case q_xq6_2 => first | k_is | rfl | k_exc | kernel_rfl)
    (case q_xs6_3 => first | k_is | rfl | k_exc | kernel_rfl)
    (case q_xq6_3 => first | k_is | rfl | k_exc | kernel_rfl)
    (case q_xs6_4 => first | k_is | rfl | k_exc | kernel_rfl)
    (case q_xq6_4 => first | k_is | rfl | k_exc | kernel_rfl)
    (case q_xs6_5 => first | k_is | rfl | k_exc | kernel_rfl)
    (case q_xq6_5 => first | k_is | rfl | k_exc | kernel_rfl)
    (case q_xs6_6 => first | k_is | rfl | k_exc | kernel_rfl)
    (case q_xq6_6 => first | k_is | rfl | k_exc | kernel_rfl)
    (case q_xs6_7 => first | k_is | rfl | k_exc | kernel_rfl)
    (case q_xq6_7 => first | k_is | rfl | k_exc | kernel_rfl)
    (case q_xs6_8 => first | k_is | rfl | k_exc | kernel_rfl)
    (case q_xq6_8 => first | k_is | rfl | k_exc | kernel_rfl)
    (case q_xs6_9 => first | k_is | rfl | k_exc | kernel_rfl)
    (case q_xq6_9 => first | k_is | rfl | k_exc | kernel_rfl)
    (case q_xs6_10 => first | k_is | rfl | k_exc | kernel_rfl)
    (case q_xq6_10 => first | k_is | rfl | k_exc | kernel_rfl)
    (case q_xs6_11 => first | k_is | rfl | k_exc | kernel_rfl)
    (case q_xq6_11 => first | k_is | rfl | k_exc | kernel_rfl)
    (case q_z_len => first | k_is | rfl | k_exc | kernel_rfl)
    (case q_z_max => first | k_is | rfl | k_exc | kernel_rfl)
    (case q_z_min => first | k_is | rfl | k_exc | kernel_rfl)
    (case q_z_abs => first | k_is | rfl | k_exc | kernel_rfl)
    (case q_z_all => first | k_is | rfl | k_exc | kernel_rfl)
    (case q_z_any => first | k_is | rfl | k_exc | kernel_rfl)
    (case q_z_sum => first | k_is | rfl | k_exc | kernel_rfl)
    (case q_z_list => first | k_is | rfl | k_exc | kernel_rfl)
    (case q_z_tuple => first | k_is | rfl | k_exc | kernel_rfl)
    (case q_z_repr => first | k_is | rfl | k_exc | kernel_rfl)
    (case q_z_int => first | k_is | rfl | k_exc | kernel_rfl)
    (case q_z_isinstance => first | k_is | rfl | k_exc | kernel_rfl)
    (case q_z_bool => first | k_is | rfl | k_exc | kernel_rfl)
    (case q_z_str => first | k_is | rfl | k_exc | kernel_rfl)
    (case q_z_dict => first | k_is | rfl | k_exc | kernel_rfl)
    (case q_z_range => first | k_is | rfl | k_exc | kernel_rfl)
    (case q_z_enumerate => first | k_is | rfl | k_exc | kernel_rfl)
    (case q_z_zip => first | k_is | rfl | k_exc | kernel_rfl)
    (case q_z_set => first | k_is | rfl | k_exc | kernel_rfl)
    (case q_z_sorted => first | k_is | rfl | k_exc | kernel_rfl)

