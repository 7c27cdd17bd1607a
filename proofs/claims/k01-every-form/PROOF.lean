import PyProof.Rows.All
import Wide.All
import OpenK.AllK
import Wide.FinOn
import HandS.ForMost
import HandS.Exc
import HandS.Wide
import HandS.TupAny
import HandS.Flow
import HandS.ExcOwn
import HandS.Deep
import HandS.Conv
import HandS.IsInst
import HandS.RaiseMore
import HandS.StrMore
import HandS.Zip
import HandS.Iter
import HandS.Small
import HandS.WordsExc
import HandS.FStr
import KE.KStateDown
import HandS.Defaults
import HandS.Head0
import HandS.Head1
import HandS.Head2
import HandS.HeadEnd
import HandS.HeadHook1
import HandS.HeadHook2
import PySem.Challenge.RW_forgood_k01_every_form_of_a_row_is_read
set_option Elab.async false
set_option linter.all false
set_option maxRecDepth 100000
set_option maxHeartbeats 4000000
/-! Fa: values as trees, the relation to the abstract heap. -/
namespace Fg
open PySem PySem.Spec PyProof.Rows L2

/-- a value as a tree; `ref n` is the cell n of the store -/
inductive D where
  | non | bl (b : Bool) | int (i : Int) | str (x : Str) | ty (n : String) | gl (x : String) | ref (n : Nat)
  | tup (xs : List D) | lst (xs : List D)
  /-- a tuple of the module -/
  | ktup (xs : List D)
  /-- the law's list, not to be written -/
  | scr (xs : List D)
  | dk (kvs : List (Key × D)) | dt (kvs : List (List Key × D))
  | obj (c : String) (fs : List (String × D))
  | dead
  deriving Inhabited

/-- the store: what stands at each cell (a list, a dict, an object; dead: not to be used any more) -/
abbrev Store := List D
/-- the slots of a def's names -/
abbrev Slots := List (Option D)

/-- what the text is -/
structure GE where
  K : PySem.W.Frag
  /-- defs and classes by name -/
  gl : String → Option Addr
  cl : String → Option Addr

/-- B holds the tree d as the value v; μ: where the cells stand -/
inductive Rep (G : GE) (B : Hp) (μ : List Addr) : D → V → Prop
  | non : Rep G B μ .non .non
  | bl (b : Bool) : Rep G B μ (.bl b) (.bl b)
  | int (i : Int) : Rep G B μ (.int i) (.int i)
  | str (x : Str) : Rep G B μ (.str x) (.str x)
  | ty (n : String) : Rep G B μ (.ty n) (.ty n)
  | gl {x : String} {a : Addr} : G.gl x = some a → Rep G B μ (.gl x) (.ref a)
  | ref {n : Nat} {a : Addr} : μ[n]? = some a → Rep G B μ (.ref n) (.ref a)
  | tup {a : Addr} {vs : List V} {ds : List D} : B a = some (.tup vs) → ds.length = vs.length → (∀ (i : Nat) d v, ds[i]? = some d → vs[i]? = some v → Rep G B μ d v) → Rep G B μ (.tup ds) (.ref a)
  | ktup {a : Addr} {vs : List V} {ds : List D} : SqT G.K B a vs → ds.length = vs.length → (∀ (i : Nat) d v, ds[i]? = some d → vs[i]? = some v → Rep G B μ d v) → Rep G B μ (.ktup ds) (.ref a)
  | lst {a : Addr} {vs : List V} {ds : List D} : B a = some (.lst vs) → ds.length = vs.length → (∀ (i : Nat) d v, ds[i]? = some d → vs[i]? = some v → Rep G B μ d v) → Rep G B μ (.lst ds) (.ref a)
  | scr {a : Addr} {vs : List V} {ds : List D} : SqL G.K B a vs → ds.length = vs.length → (∀ (i : Nat) d v, ds[i]? = some d → vs[i]? = some v → Rep G B μ d v) → Rep G B μ (.scr ds) (.ref a)
  | dk {a : Addr} {ks : List (Key × V)} {kd : List (Key × D)} : Rd B a (.dK ks) → kd.map (·.1) = ks.map (·.1) → (∀ (i : Nat) p q, kd[i]? = some p → ks[i]? = some q → Rep G B μ p.2 q.2) → Rep G B μ (.dk kd) (.ref a)
  | dt {a : Addr} {ks : List (List Key × V)} {kd : List (List Key × D)} : Rd B a (.dT ks) → kd.map (·.1) = ks.map (·.1) → (∀ (i : Nat) p q, kd[i]? = some p → ks[i]? = some q → Rep G B μ p.2 q.2) → Rep G B μ (.dt kd) (.ref a)
  | obj {a C dx : Addr} {c : String} {fs : List (Str × V)} {fd : List (String × D)} : B a = some (.ins C dx fs) → G.cl c = some C → fd.map (fun p => Str.ofString p.1) = fs.map (·.1) → (∀ (i : Nat) p q, fd[i]? = some p → fs[i]? = some q → Rep G B μ p.2 q.2) → Rep G B μ (.obj c fd) (.ref a)
  | dead {v : V} : Rep G B μ .dead v

/-- lists of trees -/
def RepL (G : GE) (B : Hp) (μ : List Addr) (ds : List D) (vs : List V) : Prop :=
  ds.length = vs.length ∧ ∀ (i : Nat) d v, ds[i]? = some d → vs[i]? = some v → Rep G B μ d v
/-- named, keyed trees -/
def RepP {κ : Type} (G : GE) (B : Hp) (μ : List Addr) (ds : List (κ × D)) (vs : List (κ × V)) : Prop :=
  ds.map (·.1) = vs.map (·.1) ∧ ∀ (i : Nat) p q, ds[i]? = some p → vs[i]? = some q → Rep G B μ p.2 q.2

/-- an object's attributes -/
def RepF (G : GE) (B : Hp) (μ : List Addr) (ds : List (String × D)) (vs : List (Str × V)) : Prop :=
  ds.map (fun p => Str.ofString p.1) = vs.map (·.1) ∧ ∀ (i : Nat) p q, ds[i]? = some p → vs[i]? = some q → Rep G B μ p.2 q.2

/-- μ' goes on where μ ends -/
def Pre (μ μ' : List Addr) : Prop := ∀ (n : Nat) a, μ[n]? = some a → μ'[n]? = some a
theorem Pre.refl (μ : List Addr) : Pre μ μ := fun _ _ h => h
theorem Pre.trans {a b c : List Addr} (h : Pre a b) (k : Pre b c) : Pre a c := fun n x e => k n x (h n x e)
theorem Pre.app (μ ν : List Addr) : Pre μ (μ ++ ν) := fun n a e => by
  rw [List.getElem?_append_left (List.getElem?_eq_some_iff.mp e).1]; exact e

/-- what is read as u may be read as u -/
def Le (B B' : Hp) : Prop := ∀ a u, Rd B a u → Rd B' a u
theorem Same.rd {B B' : Hp} (h : Same B B') {a : Addr} {u : HO} (r : Rd B a u) : Rd B' a u := by
  rcases r with r | ⟨o, r⟩
  · exact .inl (h _ _ r)
  · exact .inr ⟨o, h _ _ r⟩
theorem Same.sqT {K : PySem.W.Frag} {B B' : Hp} (h : Same B B') {a : Addr} {xs : List V} (r : SqT K B a xs) : SqT K B' a xs := r.elim (fun r => .inl (Same.rd h r)) .inr
theorem Same.sqL {K : PySem.W.Frag} {B B' : Hp} (h : Same B B') {a : Addr} {xs : List V} (r : SqL K B a xs) : SqL K B' a xs := r.elim (fun r => .inl (Same.rd h r)) .inr

section
variable {G : GE} {B B' : Hp} {μ μ' : List Addr}
theorem Rep.mono (hB : Same B B') (hμ : Pre μ μ') {d : D} {v : V} (r : Rep G B μ d v) : Rep G B' μ' d v := by
  induction r with
  | non => exact .non
  | bl b => exact .bl b
  | int i => exact .int i
  | str x => exact .str x
  | ty n => exact .ty n
  | gl h => exact .gl h
  | ref h => exact .ref (hμ _ _ h)
  | tup h l _ ih => exact .tup (hB _ _ h) l ih
  | ktup h l _ ih => exact .ktup (Same.sqT hB h) l ih
  | lst h l _ ih => exact .lst (hB _ _ h) l ih
  | scr h l _ ih => exact .scr (Same.sqL hB h) l ih
  | dk h l _ ih => exact .dk (Same.rd hB h) l ih
  | dt h l _ ih => exact .dt (Same.rd hB h) l ih
  | obj h c l _ ih => exact .obj (hB _ _ h) c l ih
  | dead => exact .dead
theorem RepL.mono (hB : Same B B') (hμ : Pre μ μ') {ds : List D} {vs : List V} (r : RepL G B μ ds vs) : RepL G B' μ' ds vs := ⟨r.1, fun i d v h1 h2 => (r.2 i d v h1 h2).mono hB hμ⟩
theorem RepP.mono {κ : Type} (hB : Same B B') (hμ : Pre μ μ') {ds : List (κ × D)} {vs : List (κ × V)} (r : RepP G B μ ds vs) : RepP G B' μ' ds vs := ⟨r.1, fun i d v h1 h2 => (r.2 i d v h1 h2).mono hB hμ⟩
theorem RepF.mono (hB : Same B B') (hμ : Pre μ μ') {ds : List (String × D)} {vs : List (Str × V)} (r : RepF G B μ ds vs) : RepF G B' μ' ds vs := ⟨r.1, fun i d v h1 h2 => (r.2 i d v h1 h2).mono hB hμ⟩
theorem RepL.nil : RepL G B μ [] [] := ⟨rfl, fun i d v h _ => by simp at h⟩
theorem RepL.cons {d : D} {v : V} {ds : List D} {vs : List V} (h : Rep G B μ d v) (r : RepL G B μ ds vs) : RepL G B μ (d :: ds) (v :: vs) :=
  ⟨by simp [r.1], fun i d' v' h1 h2 => by
    cases i with
    | zero => simp at h1 h2; subst h1; subst h2; exact h
    | succ i => exact r.2 i d' v' (by simpa using h1) (by simpa using h2)⟩
theorem RepL.cons_inv {d : D} {ds : List D} {vs : List V} (r : RepL G B μ (d :: ds) vs) : ∃ v ws, vs = v :: ws ∧ Rep G B μ d v ∧ RepL G B μ ds ws := by
  cases vs with
  | nil => have := r.1; simp at this
  | cons v ws => exact ⟨v, ws, rfl, r.2 0 d v rfl rfl, ⟨by simpa using r.1, fun i d' v' h1 h2 => r.2 (i + 1) d' v' (by simpa using h1) (by simpa using h2)⟩⟩
theorem RepL.nil_inv {vs : List V} (r : RepL G B μ [] vs) : vs = [] := List.eq_nil_of_length_eq_zero r.1.symm
theorem RepL.get {ds : List D} {vs : List V} (r : RepL G B μ ds vs) {i : Nat} {d : D} (h : ds[i]? = some d) : ∃ v, vs[i]? = some v ∧ Rep G B μ d v := by
  have hi : i < vs.length := by rw [← r.1]; exact (List.getElem?_eq_some_iff.mp h).1
  exact ⟨vs[i], by simp [hi], r.2 i d _ h (by simp [hi])⟩
theorem RepL.app {ds es : List D} {vs ws : List V} (r : RepL G B μ ds vs) (q : RepL G B μ es ws) : RepL G B μ (ds ++ es) (vs ++ ws) := by
  refine ⟨by simp [r.1, q.1], fun i d v h1 h2 => ?_⟩
  by_cases hi : i < ds.length
  · rw [List.getElem?_append_left hi] at h1
    rw [List.getElem?_append_left (by rw [← r.1]; exact hi)] at h2
    exact r.2 i d v h1 h2
  · rw [List.getElem?_append_right (by omega)] at h1
    rw [List.getElem?_append_right (by rw [← r.1]; omega), ← r.1] at h2
    exact q.2 _ d v h1 h2
theorem RepL.take {ds : List D} {vs : List V} (r : RepL G B μ ds vs) (n : Nat) : RepL G B μ (ds.take n) (vs.take n) := by
  refine ⟨by simp [r.1], fun i d v h1 h2 => ?_⟩
  rw [List.getElem?_take] at h1 h2
  split at h1
  · rw [if_pos ‹_›] at h2; exact r.2 i d v h1 h2
  · cases h1
theorem RepL.drop {ds : List D} {vs : List V} (r : RepL G B μ ds vs) (n : Nat) : RepL G B μ (ds.drop n) (vs.drop n) := by
  refine ⟨by simp [r.1], fun i d v h1 h2 => ?_⟩
  rw [List.getElem?_drop] at h1 h2
  exact r.2 _ d v h1 h2
theorem RepL.set {ds : List D} {vs : List V} (r : RepL G B μ ds vs) (n : Nat) {d : D} {v : V} (h : Rep G B μ d v) : RepL G B μ (ds.set n d) (vs.set n v) := by
  refine ⟨by simp [r.1], fun i d' v' h1 h2 => ?_⟩
  by_cases hi : n = i
  · subst hi
    have l : n < ds.length := by have := (List.getElem?_eq_some_iff.mp h1).1; simpa using this
    rw [List.getElem?_set_self l] at h1
    rw [List.getElem?_set_self (by rw [← r.1]; exact l)] at h2
    cases h1; cases h2; exact h
  · rw [List.getElem?_set_ne hi] at h1 h2
    exact r.2 i d' v' h1 h2
theorem RepL.rev {ds : List D} {vs : List V} (r : RepL G B μ ds vs) : RepL G B μ ds.reverse vs.reverse := by
  refine ⟨by simp [r.1], fun i d v h1 h2 => ?_⟩
  have l : i < ds.length := by have := (List.getElem?_eq_some_iff.mp h1).1; simpa using this
  rw [List.getElem?_reverse l] at h1
  rw [List.getElem?_reverse (by rw [← r.1]; exact l), ← r.1] at h2
  exact r.2 _ d v h1 h2

/-- what stands at a cell -/
inductive CRep (G : GE) (B : Hp) (μ : List Addr) : D → HO → Prop
  | lst {ds : List D} {vs : List V} : RepL G B μ ds vs → CRep G B μ (.lst ds) (.lst vs)
  | dk {kd : List (Key × D)} {ks : List (Key × V)} : RepP G B μ kd ks → CRep G B μ (.dk kd) (.dK ks)
  | dt {kd : List (List Key × D)} {ks : List (List Key × V)} : RepP G B μ kd ks → CRep G B μ (.dt kd) (.dT ks)
  | obj {c : String} {C dx : Addr} {fd : List (String × D)} {fs : List (Str × V)} : G.cl c = some C → RepF G B μ fd fs → CRep G B μ (.obj c fd) (.ins C dx fs)
  | dead {o : HO} : CRep G B μ .dead o
theorem CRep.mono (hB : Same B B') (hμ : Pre μ μ') {d : D} {o : HO} (r : CRep G B μ d o) : CRep G B' μ' d o := by
  cases r with
  | lst h => exact .lst (h.mono hB hμ)
  | dk h => exact .dk (h.mono hB hμ)
  | dt h => exact .dt (h.mono hB hμ)
  | obj c h => exact .obj c (h.mono hB hμ)
  | dead => exact .dead
end

/-- the whole heap H: B (what never changes), the cells of the store st at μ, fx (what others hold and may change) -/
structure SR (G : GE) (fx B : Hp) (μ : List Addr) (st : Store) (H : Hp) : Prop where
  len : μ.length = st.length
  nd : μ.Nodup
  cell : ∀ (n : Nat) a d, μ[n]? = some a → st[n]? = some d → B a = none ∧ fx a = none ∧ ∃ o, H a = some o ∧ CRep G B μ d o
  fix : ∀ a o, fx a = some o → B a = none ∧ H a = some o
  rest : ∀ a, fx a = none → a ∉ μ → H a = B a

section
variable {G : GE} {fx B B' : Hp} {μ μ' : List Addr} {st : Store} {H H' : Hp}
theorem SR.sub (s : SR G fx B μ st H) : Same B H := fun a o e => by
  have h1 : fx a = none := by
    cases q : fx a with
    | none => rfl
    | some u => have := (s.fix a u q).1; rw [e] at this; cases this
  have h2 : a ∉ μ := fun hm => by
    obtain ⟨n, hn, e2⟩ := List.getElem_of_mem hm
    have e3 : μ[n]? = some a := by rw [List.getElem?_eq_getElem hn, e2]
    have h3 : n < st.length := by rw [← s.len]; exact hn
    have := (s.cell n a st[n] e3 (List.getElem?_eq_getElem h3)).1
    rw [e] at this; cases this
  rw [s.rest a h1 h2]; exact e
theorem SR.cellAt (s : SR G fx B μ st H) {n : Nat} {d : D} (h : st[n]? = some d) : ∃ a o, μ[n]? = some a ∧ B a = none ∧ fx a = none ∧ H a = some o ∧ CRep G B μ d o := by
  have hn : n < μ.length := by rw [s.len]; exact (List.getElem?_eq_some_iff.mp h).1
  obtain ⟨h1, h2, o, h3, h4⟩ := s.cell n μ[n] d (List.getElem?_eq_getElem hn) h
  exact ⟨μ[n], o, List.getElem?_eq_getElem hn, h1, h2, h3, h4⟩
/-- a new object that never changes -/
theorem SR.newB (s : SR G fx B μ st H) {p : Addr} {o : HO} (h : H p = none) : Same B (upd B p o) ∧ SR G fx (upd B p o) μ st (upd H p o) := by
  have hB : B p = none := s.sub.free h
  have sm : Same B (upd B p o) := fun b u e => by rw [upd_ne (ne_of_none e hB)]; exact e
  refine ⟨sm, s.len, s.nd, fun n a d h1 h2 => ?_, fun a u e => ?_, fun a h1 h2 => ?_⟩
  · obtain ⟨k1, k2, u, k3, k4⟩ := s.cell n a d h1 h2
    have ne : a ≠ p := ne_of_none k3 h
    exact ⟨by rw [upd_ne ne]; exact k1, k2, u, by rw [upd_ne ne]; exact k3, k4.mono sm (Pre.refl _)⟩
  · obtain ⟨k1, k2⟩ := s.fix a u e
    have ne : a ≠ p := ne_of_none k2 h
    exact ⟨by rw [upd_ne ne]; exact k1, by rw [upd_ne ne]; exact k2⟩
  · by_cases e : a = p
    · subst e; rw [upd_same, upd_same]
    · rw [upd_ne e, upd_ne e]; exact s.rest a h1 h2
/-- a new cell -/
theorem SR.newC (s : SR G fx B μ st H) {p : Addr} {o : HO} {d : D} (h : H p = none) (r : CRep G B (μ ++ [p]) d o) : SR G fx B (μ ++ [p]) (st ++ [d]) (upd H p o) := by
  have hB : B p = none := s.sub.free h
  have hf : fx p = none := by
    cases q : fx p with
    | none => rfl
    | some u => have := (s.fix p u q).2; rw [h] at this; cases this
  have hμ : p ∉ μ := fun hm => by
    obtain ⟨n, hn, e2⟩ := List.getElem_of_mem hm
    have h3 : n < st.length := by rw [← s.len]; exact hn
    obtain ⟨_, _, o, k, _⟩ := s.cell n p st[n] (by rw [List.getElem?_eq_getElem hn, e2]) (List.getElem?_eq_getElem h3)
    rw [h] at k; cases k
  refine ⟨by simp [s.len], List.nodup_append.mpr ⟨s.nd, by simp, fun a ha b hb e => by simp at hb; subst hb; subst e; exact hμ ha⟩, fun n a d' h1 h2 => ?_, fun a u e => ?_, fun a h1 h2 => ?_⟩
  · by_cases hn : n < μ.length
    · rw [List.getElem?_append_left hn] at h1
      rw [List.getElem?_append_left (by rw [← s.len]; exact hn)] at h2
      obtain ⟨k1, k2, u, k3, k4⟩ := s.cell n a d' h1 h2
      exact ⟨k1, k2, u, by rw [upd_ne (ne_of_none k3 h)]; exact k3, k4.mono (Same.refl _) (Pre.app _ _)⟩
    · rw [List.getElem?_append_right (by omega)] at h1
      rw [List.getElem?_append_right (by rw [← s.len]; omega), ← s.len] at h2
      have e0 : n - μ.length = 0 := by
        cases k : n - μ.length with
        | zero => rfl
        | succ m => rw [k] at h1; simp at h1
      rw [e0] at h1 h2
      simp at h1 h2
      subst h1; subst h2
      exact ⟨hB, hf, o, upd_same, r⟩
  · obtain ⟨k1, k2⟩ := s.fix a u e
    exact ⟨k1, by rw [upd_ne (ne_of_none k2 h)]; exact k2⟩
  · have ne : a ≠ p := fun e => h2 (by simp [e])
    rw [upd_ne ne]
    exact s.rest a h1 fun hm => h2 (by simp [hm])
/-- a cell written -/
theorem SR.write (s : SR G fx B μ st H) {n : Nat} {a : Addr} {o : HO} {d : D} (h : μ[n]? = some a) (r : CRep G B μ d o) : SR G fx B μ (st.set n d) (upd H a o) := by
  have hn : n < μ.length := (List.getElem?_eq_some_iff.mp h).1
  have hs : n < st.length := by rw [← s.len]; exact hn
  obtain ⟨c1, c2, _, _, _⟩ := s.cell n a st[n] h (List.getElem?_eq_getElem hs)
  refine ⟨by simp [s.len], s.nd, fun m b d' h1 h2 => ?_, fun b u e => ?_, fun b h1 h2 => ?_⟩
  · by_cases hm : n = m
    · subst hm
      rw [List.getElem?_set_self hs] at h2
      rw [h] at h1
      cases h1; cases h2
      exact ⟨c1, c2, o, upd_same, r⟩
    · rw [List.getElem?_set_ne hm] at h2
      obtain ⟨k1, k2, u, k3, k4⟩ := s.cell m b d' h1 h2
      have ne : b ≠ a := fun e => by
        subst e
        obtain ⟨hm', e1⟩ := List.getElem?_eq_some_iff.mp h1
        obtain ⟨hn', e2⟩ := List.getElem?_eq_some_iff.mp h
        exact hm ((List.getElem_inj s.nd).mp (e2.trans e1.symm))
      exact ⟨k1, k2, u, by rw [upd_ne ne]; exact k3, k4⟩
  · obtain ⟨k1, k2⟩ := s.fix b u e
    have ne : b ≠ a := fun z => by subst z; rw [e] at c2; cases c2
    exact ⟨k1, by rw [upd_ne ne]; exact k2⟩
  · have ne : b ≠ a := fun z => by subst z; exact h2 (List.mem_of_getElem? h)
    rw [upd_ne ne]; exact s.rest b h1 h2
end
end Fg

set_option maxHeartbeats 4000000
/-! Fb: the IR and its evaluator. -/
namespace Fg
open PySem PySem.Spec PyProof.Rows L2

/-- an equation that is not to be used by computing -/
theorem nrfl {α : Sort _} {a b : α} (h : a = b) : a = b := h
structure Exn where
  c : String
  fs : List (String × D)

/-- what evaluation comes to -/
inductive R (α : Type) where
  | ok (a : α) (st : Store) | exc (x : Exn) (st : Store) | no
def R.bind {α β : Type} (r : R α) (f : α → Store → R β) : R β := match r with | .ok a st => f a st | .exc x st => .exc x st | .no => .no
@[simp] theorem R.bind_ok {α β : Type} (a : α) (st : Store) (f : α → Store → R β) : (R.ok a st).bind f = f a st := nrfl rfl
@[simp] theorem R.bind_exc {α β : Type} (x : Exn) (st : Store) (f : α → Store → R β) : (R.exc x st : R α).bind f = .exc x st := nrfl rfl
@[simp] theorem R.bind_no {α β : Type} (f : α → Store → R β) : (R.no : R α).bind f = .no := nrfl rfl
def R.of {α : Type} (o : Option α) (st : Store) : R α := match o with | some a => .ok a st | none => .no
@[simp] theorem R.of_some {α : Type} (a : α) (st : Store) : R.of (some a) st = .ok a st := nrfl rfl
@[simp] theorem R.of_none {α : Type} (st : Store) : R.of (none : Option α) st = .no := nrfl rfl

mutual
inductive IE where
  | var (i : Nat) | con (d : D) | gl (x : String)
  | bin (c : Bool) (op : Operator) (a b : IE)
  | neg (a : IE) | notE (a : IE)
  | cmp (op : CmpOp) (a b : IE)
  | chain (op1 op2 : CmpOp) (a b c : IE)
  | and (a b : IE) | or (a b : IE)
  | ite (c a b : IE)
  | tup (es : IEs) | lst (c : Bool) (es : IEs) | dic (c : Bool) (ks vs : IEs)
  | idx (a i : IE) | slc (c : Bool) (a : IE) (lo hi : IE) | rev (c : Bool) (a : IE) | stp (c : Bool) (a : IE) (lo : IE) (k : Nat)
  | fld (a : IE) (f : String)
  | call (s : Bool) (f : String) (es : IEs) | make (s : Bool) (f : String) (es : IEs) | meth (s : Bool) (a : IE) (m : String) (es : IEs)
  | blt (c : Bool) (f : String) (es : IEs)
  | bm (c : Bool) (m : String) (a : IE) (es : IEs)
  | bty (n : String) | isi (es : IEs)
  | lc (c : Bool) (own : List Nat) (g : IG) (it : II) (cond elt : IE)
  | dc (c : Bool) (own : List Nat) (g : IG) (it : II) (cond k v : IE)
  | sortK (c : Bool) (a : IE) (f : String)
  | fstr (es : IEs)
inductive IEs where
  | nil | cons (e : IE) (es : IEs)
inductive II where
  | seq (e : IE) | str (e : IE) | rng1 (e : IE) | rng2 (a b : IE) | enum (e : IE) | zip (a b : IE) | items (e : IE) | vals (e : IE) | keys (e : IE) | rev (e : IE)
inductive IG where
  | nm (i : Nat) | tp (gs : IGs)
inductive IGs where
  | nil | cons (g : IG) (gs : IGs)
end

mutual
inductive IS where
  | set (i : Nat) (e : IE)
  | tgt (g : IG) (e : IE)
  | par (i j : Nat) (a b : IE)
  | sub (o i v : IE) | fst (o : IE) (f : String) (v : IE)
  | aug (i : Nat) (op : Operator) (e : IE) | augS (o i : IE) (op : Operator) (e : IE) | augF (o : IE) (f : String) (op : Operator) (e : IE)
  | ex (e : IE) | ret (e : IE) | retN
  | ife (c : IE) (a b : ISs)
  | for_ (g : IG) (it : II) (body : ISs)
  | whl (c : IE) (body : ISs)
  | rai (c : String) (es : IEs)
  | brk | cnt | pas
inductive ISs where
  | nil | cons (s : IS) (ss : ISs)
end

/-! ### values -/
def view (st : Store) : D → D
  | .ref n => (st[n]?).getD .dead
  | d => d
@[simp] theorem view_lst {st : Store} {xs : List D} : view st (.lst xs) = .lst xs := nrfl rfl
@[simp] theorem view_tup {st : Store} {xs : List D} : view st (.tup xs) = .tup xs := nrfl rfl
@[simp] theorem view_ktup {st : Store} {xs : List D} : view st (.ktup xs) = .ktup xs := nrfl rfl
@[simp] theorem view_scr {st : Store} {xs : List D} : view st (.scr xs) = .scr xs := nrfl rfl
@[simp] theorem view_dk {st : Store} {xs : List (Key × D)} : view st (.dk xs) = .dk xs := nrfl rfl
@[simp] theorem view_dt {st : Store} {xs : List (List Key × D)} : view st (.dt xs) = .dt xs := nrfl rfl
@[simp] theorem view_obj {st : Store} {c : String} {fs : List (String × D)} : view st (.obj c fs) = .obj c fs := nrfl rfl
@[simp] theorem view_int {st : Store} {i : Int} : view st (.int i) = .int i := nrfl rfl
@[simp] theorem view_str {st : Store} {i : Str} : view st (.str i) = .str i := nrfl rfl
@[simp] theorem view_bl {st : Store} {i : Bool} : view st (.bl i) = .bl i := nrfl rfl
@[simp] theorem view_non {st : Store} : view st .non = .non := nrfl rfl
theorem view_ref {st : Store} {n : Nat} {d : D} (h : st[n]? = some d) : view st (.ref n) = d := by simp [view, h]
def seqOf (st : Store) (d : D) : Option (List D) := match view st d with | .lst xs => some xs | .tup xs => some xs | .ktup xs => some xs | .scr xs => some xs | _ => none

/-- the truth of a value -/
def truthD (st : Store) (d : D) : Option Bool := match view st d with
  | .non => some false | .bl b => some b | .int i => some (i != 0)
  | .str x => if x.length ≤ sizeLine then some ((x.length : Int) != 0) else none
  | .lst xs => some (!xs.isEmpty) | .tup xs => some (!xs.isEmpty) | .dk kvs => some (!kvs.isEmpty) | _ => none

/-- a new list, dict, object: a cell, or for good -/
def alloc (c : Bool) (d : D) (st : Store) : R D := if c = true then .ok (.ref st.length) (st ++ [d]) else .ok d st
/-- a value of an operator: a list is new -/
def newR (c : Bool) (d : D) (st : Store) : R D := if c = true then (match d with | .lst xs => alloc true (.lst xs) st | .dk xs => alloc true (.dk xs) st | _ => .no) else .ok d st
@[simp] theorem newR_f {d : D} {st : Store} : newR false d st = .ok d st := nrfl rfl
@[simp] theorem newR_t {xs : List D} {st : Store} : newR true (.lst xs) st = .ok (.ref st.length) (st ++ [.lst xs]) := nrfl rfl
@[simp] theorem newR_tk {xs : List (Key × D)} {st : Store} : newR true (.dk xs) st = .ok (.ref st.length) (st ++ [.dk xs]) := nrfl rfl
@[simp] theorem alloc_t {d : D} {st : Store} : alloc true d st = .ok (.ref st.length) (st ++ [d]) := nrfl rfl
@[simp] theorem alloc_f {d : D} {st : Store} : alloc false d st = .ok d st := nrfl rfl

mutual
def D.py : D → Option PyData
  | .non => some .none | .bl b => some (.bool b) | .int i => some (.int i) | .str x => some (.str x)
  | .lst xs => (D.pys xs).map .list
  | .tup xs => (D.pys xs).map .tuple
  | _ => none
def D.pys : List D → Option (List PyData)
  | [] => some []
  | d :: ds => match D.py d, D.pys ds with | some p, some ps => some (p :: ps) | _, _ => none
end

/-- a key: an int, a text -/
def D.key : D → Option Key
  | .int i => some (.inl i) | .str x => some (.inr x) | _ => none
def keyD : Key → D
  | .inl i => .int i | .inr x => .str x
def keysOf : List D → Option (List Key)
  | [] => some []
  | d :: ds => match d.key, keysOf ds with | some k, some ks => some (k :: ks) | _, _ => none

section
variable {κ : Type} [DecidableEq κ]
def getK (kvs : List (κ × D)) (k : κ) : Option D := (kvs.find? fun kv => decide (kv.1 = k)).map (·.2)
def setK (kvs : List (κ × D)) (k : κ) (v : D) : List (κ × D) :=
  if (kvs.any fun kv => decide (kv.1 = k)) = true then kvs.map fun kv => if kv.1 = k then (kv.1, v) else kv else kvs ++ [(k, v)]
def delK (kvs : List (κ × D)) (k : κ) : List (κ × D) := kvs.filter fun kv => decide (kv.1 ≠ k)
end

/-- d[k] of a dict: none: no such form -/
def dGet (dv k : D) : Option (Option D) := match dv with
  | .dk kvs => k.key.map fun q => getK kvs q
  | .dt kvs => match k with | .tup ks => (keysOf ks).map fun q => getK kvs q | _ => none
  | _ => none
def dLen : D → Nat
  | .dk kvs => kvs.length | .dt kvs => kvs.length | _ => 0
def dPut (dv k v : D) : Option D := match dv with
  | .dk kvs => if kvs.length < sizeLine then k.key.map fun q => .dk (setK kvs q v) else none
  | .dt kvs => match k with | .tup ks => if kvs.length < sizeLine then (keysOf ks).map fun q => .dt (setK kvs q v) else none | _ => none
  | _ => none
def flatD : D → Bool
  | .non => true | .bl _ => true | .int _ => true | .str _ => true | _ => false
def eqF : D → D → Bool
  | .non, .non => true
  | .bl a, .bl b => a == b
  | .bl a, .int b => (if a then 1 else 0) == b
  | .int a, .bl b => a == (if b then 1 else 0)
  | .int a, .int b => a == b
  | .str a, .str b => a == b
  | _, _ => false

/-- a op b by values (refs seen through) -/
def binV (op : Operator) (a b : D) : Option D := match op, a, b with
  | .Add, .int i, .int j => some (.int (i + j))
  | .Sub, .int i, .int j => some (.int (i - j))
  | .Mult, .int i, .int j => if ((-(2 ^ 64) < i ∧ i < 2 ^ 64) ∨ (-(2 ^ 64) < j ∧ j < 2 ^ 64)) ∨ i.natAbs.log2 + j.natAbs.log2 < 1000000 then some (.int (i * j)) else none
  | .FloorDiv, .int i, .int j => if 0 < j ∧ j.natAbs.log2 < 9000 then some (.int (i / j)) else none
  | .Mod, .int i, .int j => if 0 < j then some (.int (i % j)) else none
  | .Pow, .int i, .int j => if 0 ≤ j ∧ j ≤ 1000000 ∧ i.natAbs < 2 ^ 64 then some (.int (i ^ j.toNat)) else none
  | .Add, .str x, .str y => if x.length + y.length ≤ sizeLine then some (.str (x ++ y)) else none
  | .Add, .lst xs, .lst ys => if xs.length + ys.length ≤ sizeLine then some (.lst (xs ++ ys)) else none
  | .Add, .tup xs, .tup ys => if xs.length + ys.length ≤ sizeLine then some (.tup (xs ++ ys)) else none
  | _, _, _ => none

def scalD : D → D → Bool
  | .non, .non => true | .non, .int _ => true | .int _, .non => true | .non, .bl _ => true | .bl _, .non => true | .non, .str _ => true | .str _, .non => true
  | .int _, .int _ => true | .bl _, .bl _ => true | .str _, .str _ => true
  | .int _, .str _ => true | .str _, .int _ => true | .bl _, .str _ => true | .str _, .bl _ => true
  | _, _ => false
/-- == of data -/
def eqD (a b : D) : Option Bool :=
  if scalD a b = true then some (eqF a b)
  else match a.py, b.py with
    | some p, some q => if SeqAt.shaped p = true ∧ SeqAt.shaped q = true then some (PyData.eqv p q) else none
    | _, _ => none
/-- x in y, by data -/
def inD (st : Store) (x y : D) : Option Bool := match view st y with
  | .dk kvs => (dGet (.dk kvs) x).map (·.isSome)
  | .dt kvs => (dGet (.dt kvs) x).map (·.isSome)
  | .str t => match x with | .str c => if c.length = 1 then some (decide ((c.cps.getD 0 0) ∈ t.cps.toList)) else none | _ => none
  | .ktup ys => if flatD x = true ∧ ys.all flatD = true then some (ys.any fun z => eqF z x) else none
  | .tup ys => if flatD x = true ∧ ys.all flatD = true then some (ys.any fun z => eqF z x) else none
  | .lst ys => if flatD x = true ∧ ys.all flatD = true then some (ys.any fun z => eqF z x) else
      match x.py, D.pys ys with
      | some p, some qs => if SeqAt.shaped p = true ∧ SeqAt.shaped (.list qs) = true then some (qs.any fun q => PyData.eqv q p) else none
      | _, _ => none
  | _ => none
def isNon : D → Bool
  | .non => true | _ => false
def isDead : D → Bool
  | .dead => true | _ => false
def cmpV (st : Store) (op : CmpOp) (a b : D) : Option Bool := match op with
  | .Eq => eqD (view st a) (view st b)
  | .NotEq => (eqD (view st a) (view st b)).map (!·)
  | .Lt => match a, b with | .int i, .int j => some (decide (i < j)) | .str x, .str y => some (decide (x.cps.toList < y.cps.toList)) | _, _ => none
  | .LtE => match a, b with | .int i, .int j => some (decide (i ≤ j)) | _, _ => none
  | .Gt => match a, b with | .int i, .int j => some (decide (j < i)) | _, _ => none
  | .GtE => match a, b with | .int i, .int j => some (decide (j ≤ i)) | _, _ => none
  | .Is => match b with | .non => if isDead a = true then none else some (isNon a) | _ => none
  | .IsNot => match b with | .non => if isDead a = true then none else some (!isNon a) | _ => none
  | .In => inD st a b
  | .NotIn => (inD st a b).map (!·)

/-- o[i] -/
def idxV (a i : D) : Option D := match a, i with
  | .lst xs, .int k => atI xs k
  | .tup xs, .int k => atI xs k
  | .scr xs, .int k => atI xs k
  | .str z, .int k => if z.length ≤ sizeLine then (atI z.cps.toList k).map fun c => .str ⟨#[c]⟩ else none
  | .dk kvs, k => k.key.bind fun q => getK kvs q
  | .dt kvs, .tup ks => (keysOf ks).bind fun q => getK kvs q
  | _, _ => none
def cutL {α : Type} (xs : List α) (lo hi : Option Int) : List α := (xs.drop (HT.sIx xs.length 0 lo)).take (HT.sIx xs.length xs.length hi - HT.sIx xs.length 0 lo)
def slcV (a : D) (l h : Option Int) : Option D := match a with
  | .lst xs => some (.lst (cutL xs l h))
  | .tup xs => some (.tup (cutL xs l h))
  | .scr xs => some (.lst (cutL xs l h))
  | .str z => if z.length ≤ sizeLine then some (.str (cutS z l h)) else none
  | _ => none
/-- a slice's bound, left out or an int -/
def partR (e : IE) (v : Store → R D) (st : Store) : R (Option Int) := match e with
  | .con .non => .ok none st
  | _ => (v st).bind fun d st1 => match d with | .int i => .ok (some i) st1 | _ => .no
def fldV (a : D) (f : String) : Option D := match a with
  | .obj _ fs => fs.lookup f
  | _ => none
def putA (f : String) (v : D) : List (String × D) → List (String × D)
  | [] => [(f, v)]
  | (g, u) :: r => if g = f then (g, v) :: r else (g, u) :: putA f v r

def intsOf : List D → Option (List Int)
  | [] => some []
  | .int i :: ds => (intsOf ds).map (i :: ·)
  | _ :: _ => none
def strsOf : List D → Option (List Str)
  | [] => some []
  | .str i :: ds => (strsOf ds).map (i :: ·)
  | _ :: _ => none
def blsOf : List D → Option (List Bool)
  | [] => some []
  | .bl i :: ds => (blsOf ds).map (i :: ·)
  | _ :: _ => none
def pairsOf : List D → Option (List (Key × D))
  | [] => some []
  | .tup [k, v] :: ds => match k.key, pairsOf ds with | some q, some r => some ((q, v) :: r) | _, _ => none
  | _ :: _ => none
def mergeD (kvs more : List (Key × D)) : List (Key × D) := more.foldl (fun acc kv => setK acc kv.1 kv.2) kvs

/-- a built-in function by values -/
def bltV (st : Store) (f : String) (as : List D) : Option D := match f, as with
  | "len", [a] => match view st a with
      | .lst xs => some (.int xs.length) | .tup xs => some (.int xs.length) | .str x => if x.length ≤ sizeLine then some (.int x.length) else none
      | .dk kvs => some (.int kvs.length) | .scr xs => some (.int xs.length) | _ => none
  | "int", [.int i] => some (.int i)
  | "int", [.bl b] => some (.int (if b then 1 else 0))
  | "int", [.str x] => match intText? x with | some n => if x.length ≤ 640 then some (.int n) else none | none => none
  | "abs", [.int i] => some (.int (if i < 0 then -i else i))
  | "str", [.int i] => if i.natAbs.log2 < 1920 then some (.str (toString i)) else none
  | "str", [.str x] => if x.length ≤ sizeLine then some (.str x) else none
  | "repr", [.int i] => if i.natAbs.log2 < 1920 then some (.str (toString i)) else none
  | "repr", [.str x] => if (reprText x).length ≤ sizeLine then some (.str (reprText x)) else none
  | "repr", [.bl b] => some (.str (if b then "True" else "False"))
  | "repr", [.non] => some (.str "None")
  | "min", [.int i, .int j] => some (.int (if j < i then j else i))
  | "max", [.int i, .int j] => some (.int (if j > i then j else i))
  | "sum", [a] => match view st a with | .lst xs => (intsOf xs).map fun ns => .int ns.sum | _ => none
  | "all", [a] => match view st a with | .lst xs => (blsOf xs).map fun bs => .bl (bs.all id) | _ => none
  | "any", [a] => match view st a with | .lst xs => (blsOf xs).map fun bs => .bl (bs.any id) | _ => none
  | "list", [a] => match view st a with | .lst xs => some (.lst xs) | .tup xs => some (.lst xs) | .dk kvs => some (.lst (kvs.map fun kv => keyD kv.1)) | _ => none
  | "tuple", [a] => match view st a with | .lst xs => some (.tup xs) | .tup xs => some (.tup xs) | _ => none
  | "dict", [a] => match view st a with | .dk kvs => some (.dk kvs) | .lst xs => if xs.length ≤ sizeLine then (pairsOf xs).map fun kvs => .dk (mergeD [] kvs) else none | _ => none
  | _, _ => none

/-- the kind of a built-in's value -/
inductive Kd where
  | lst | str | dk | dt | tup | oth
  deriving DecidableEq
def kd : D → Kd
  | .lst _ => .lst | .str _ => .str | .dk _ => .dk | .dt _ => .dt | .tup _ => .tup | _ => .oth
@[simp] theorem kd_lst {xs : List D} : kd (.lst xs) = .lst := nrfl rfl
@[simp] theorem kd_str {x : Str} : kd (.str x) = .str := nrfl rfl
@[simp] theorem kd_dk {xs : List (Key × D)} : kd (.dk xs) = .dk := nrfl rfl
@[simp] theorem kd_dt {xs : List (List Key × D)} : kd (.dt xs) = .dt := nrfl rfl
/-- a type: of one's own (true), built-in -/
abbrev TyK := Bool × String
/-- a value's type, by its name -/
def tyN : D → Option TyK
  | .non => some (false, "NoneType") | .bl _ => some (false, "bool") | .int _ => some (false, "int") | .str _ => some (false, "str") | .lst _ => some (false, "list") | .tup _ => some (false, "tuple") | .dk _ => some (false, "dict") | .obj c _ => some (true, c) | _ => none
def clN : D → Option TyK
  | .ty n => some (false, n) | .gl n => some (true, n) | _ => none
def clNs : List D → Option (List TyK)
  | [] => some []
  | d :: ds => match clN d, clNs ds with | some n, some ns => some (n :: ns) | _, _ => none
def kitL (kit : TyK → TyK → Option Bool) (t : TyK) : List TyK → Option Bool
  | [] => some false
  | c :: cs => match kit t c with | some true => some true | some false => kitL kit t cs | none => none
def isiV (kit : TyK → TyK → Option Bool) (st : Store) (as : List D) : Option Bool := match as with
  | [x, c] => match tyN (view st x) with
    | some t => match c with
      | .tup cs => match clNs cs with | some ns => kitL kit t ns | none => none
      | _ => match clN c with | some n => kit t n | none => none
    | none => none
  | _ => none
/-- a method of a built-in type by values: the value, and what stands behind it at the receiver -/
def bmV (st : Store) (m : String) (o : D) (as : List D) : Option (D × Option D) := match m, view st o, as with
  | "append", .lst xs, [y] => if xs.length < sizeLine then some (.non, some (.lst (xs ++ [y]))) else none
  | "pop", .lst xs, [] => xs.getLast?.map fun y => (y, some (.lst xs.dropLast))
  | "pop", .lst xs, [.int i] => if -(2 ^ 63) ≤ i ∧ i < 2 ^ 63 then (match ixN xs.length i with | some k => (xs[k]?).map fun y => (y, some (.lst (xs.eraseIdx k))) | none => none) else none
  | "reverse", .lst xs, [] => some (.non, some (.lst xs.reverse))
  | "extend", .lst xs, [b] => match view st b with | .lst zs => if xs.length + zs.length ≤ sizeLine then some (.non, some (.lst (xs ++ zs))) else none | _ => none
  | "index", .lst ys, [y] => if flatD y = true ∧ ys.all flatD = true then (ys.findIdx? fun z => eqF z y).map fun (j : Nat) => (.int j, none) else none
  | "join", .str a, [b] => match seqOf st b with
      | some xs => match strsOf xs with | some ys => if (ys.map (·.length)).sum + ys.length * a.length ≤ 16777216 then some (.str (Txt.join a ys), none) else none | none => none
      | none => none
  | "split", .str a, [.str b] => if (b.length == 0) = false ∧ a.length + 2 ≤ sizeLine then some (.lst ((Txt.split a b).map .str), none) else none
  | "get", dv, [k] => (dGet dv k).map fun o => (o.getD .non, none)
  | "get", dv, [k, z] => (dGet dv k).map fun o => (o.getD z, none)
  | _, _, _ => none
def tyOf : Kd → String
  | .lst => "list" | .str => "str" | .dk => "dict" | .dt => "dict" | .tup => "tuple" | .oth => "?"
/-- the methods that are served, by type -/
def bmOk (T m : String) : Bool := match T with
  | "list" => m == "append" || m == "pop" || m == "reverse" || m == "extend" || m == "index"
  | "str" => m == "join" || m == "split"
  | "dict" => m == "get"
  | _ => false
/-- methods that make a new list -/
def bmNew : String → Bool
  | "split" => true | _ => false

/-- what is done with a method's answer -/
def bmR (m : String) (c : Bool) (x : D) (st : Store) (r : Option (D × Option D)) : R D := match r with
  | some (v, none) => if bmNew m = true then newR c v st else if c = true then .no else .ok v st
  | some (v, some d) => match x with | .ref n => .ok v (st.set n d) | _ => .no
  | none => .no
/-! ### loops -/
/-- how what is walked must stand while it is walked -/
inductive Hold where
  | free | live (n : Nat) (c : D) | both (a b : Hold)
def Hold.ok : Hold → Store → Prop
  | .free, _ => True
  | .live n c, st => st[n]? = some c
  | .both a b, st => a.ok st ∧ b.ok st

open Classical in
noncomputable def lcLoop (f : D → Store → R (Option D)) (h : Hold) : List D → Store → R (List D)
  | [], st => if h.ok st then .ok [] st else .no
  | d :: ds, st => if h.ok st then (match f d st with
      | .ok o st1 => (match lcLoop f h ds st1 with | .ok r st2 => .ok (match o with | some x => x :: r | none => r) st2 | _ => .no)
      | _ => .no) else .no

structure Cf where
  L : Nat
  /-- a def (of no class: "") or a class's method -/
  call : String → String → List D → Store → R D
  /-- is there such a one -/
  has : String → String → Bool
  /-- the module's constants -/
  con : String → Option D
  /-- isinstance by names -/
  kit : TyK → TyK → Option Bool

/-- wiping the slots of a comprehension's own names -/
def wipeS (σ : Slots) : List Nat → Slots
  | [] => σ
  | v :: vs => (wipeS σ vs).set v none

mutual
def setG : IG → D → Slots → Option Slots
  | .nm i, d, σ => if i < σ.length then some (σ.set i (some d)) else none
  | .tp gs, .tup ds, σ => setGs gs ds σ
  | .tp _, _, _ => none
def setGs : IGs → List D → Slots → Option Slots
  | .nil, [], σ => some σ
  | .cons g gs, d :: ds, σ => match setG g d σ with | some σ1 => setGs gs ds σ1 | none => none
  | _, _, _ => none
end

/-! ### shutting: the cells from L on are taken out of the store -/
mutual
def D.sub (g : Nat → D) : D → D
  | .ref n => g n
  | .scr xs => .scr (D.subs g xs) | .ktup xs => .ktup (D.subs g xs) | .tup xs => .tup (D.subs g xs) | .lst xs => .lst (D.subs g xs)
  | .dk kvs => .dk (D.subK g kvs) | .dt kvs => .dt (D.subT g kvs) | .obj c fs => .obj c (D.subF g fs)
  | d => d
def D.subs (g : Nat → D) : List D → List D
  | [] => [] | d :: ds => D.sub g d :: D.subs g ds
def D.subK (g : Nat → D) : List (Key × D) → List (Key × D)
  | [] => [] | (k, d) :: ds => (k, D.sub g d) :: D.subK g ds
def D.subT (g : Nat → D) : List (List Key × D) → List (List Key × D)
  | [] => [] | (k, d) :: ds => (k, D.sub g d) :: D.subT g ds
def D.subF (g : Nat → D) : List (String × D) → List (String × D)
  | [] => [] | (k, d) :: ds => (k, D.sub g d) :: D.subF g ds
end
mutual
/-- no cell is named in it -/
def D.nr : D → Bool
  | .ref _ => false
  | .scr xs => D.nrs xs | .ktup xs => D.nrs xs | .tup xs => D.nrs xs | .lst xs => D.nrs xs
  | .dk kvs => D.nrK kvs | .dt kvs => D.nrT kvs | .obj _ fs => D.nrF fs
  | _ => true
def D.nrs : List D → Bool
  | [] => true | d :: ds => D.nr d && D.nrs ds
def D.nrK : List (Key × D) → Bool
  | [] => true | (_, d) :: ds => D.nr d && D.nrK ds
def D.nrT : List (List Key × D) → Bool
  | [] => true | (_, d) :: ds => D.nr d && D.nrT ds
def D.nrF : List (String × D) → Bool
  | [] => true | (_, d) :: ds => D.nr d && D.nrF ds
end
def shutG (L : Nat) (st : Store) : Nat → Nat → D
  | 0, n => if n < L then .ref n else .dead
  | k + 1, n => if n < L then .ref n else D.sub (shutG L st k) ((st[n]?).getD .dead)
/-- the outer cells are as they were, or name no cell -/
def OuterOk (st0 st : Store) : Prop := ∀ (i : Nat) d, i < st0.length → st[i]? = some d → st0[i]? = some d ∨ D.nr d = true
open Classical in
noncomputable def shut (st0 : Store) (r : R D) : R D := match r with
  | .ok d st => if st0.length ≤ st.length ∧ OuterOk st0 st then .ok (D.sub (shutG st0.length st 6) d) (st.take st0.length) else .no
  | .exc x st => if st0.length ≤ st.length ∧ OuterOk st0 st ∧ (x.fs.all fun p => D.nr p.2) = true then .exc x (st.take st0.length) else .no
  | .no => .no

/-- what a for walks -/
def hold (d : D) (st : Store) : Hold := match d with | .ref n => (match st[n]? with | some c => .live n c | none => .free) | _ => .free
def seqI (d : D) (st : Store) : Option (List D × Hold) := (seqOf st d).map fun xs => (xs, hold d st)
def rngI (lo hi : Int) : List D := (List.range (hi - lo).toNat).map fun (i : Nat) => .int (lo + i)
def rng1Of : D → Option (List D)
  | .int j => if -(2 ^ 62) ≤ j ∧ j < 2 ^ 62 then some (rngI 0 j) else none
  | _ => none
def rng2Of : D → D → Option (List D)
  | .int i, .int j => if -(2 ^ 62) ≤ i ∧ i < 2 ^ 62 ∧ -(2 ^ 62) ≤ j ∧ j < 2 ^ 62 then some (rngI i j) else none
  | _, _ => none

/-- a value's way and its test's -/
structure Ev where
  v : Store → R D
  t : Store → R Bool
/-- a test by the value's truth -/
def Ev.of (v : Store → R D) : Ev := ⟨v, fun st => (v st).bind fun x st1 => R.of (truthD st1 x) st1⟩
/-- a test of a truth value -/
def Ev.ofB (v : Store → R D) : Ev := ⟨v, fun st => (v st).bind fun x st1 => match x with | .bl b => .ok b st1 | _ => .no⟩
/-- a text's signs -/
def signsOf (x : Str) : List D := x.cps.toList.map fun c => .str ⟨#[c]⟩
def zipD (xs ys : List D) : List D := (xs.zip ys).map fun p => .tup [p.1, p.2]
def isLq : D → Bool
  | .lst _ => true | .scr _ => true | _ => false
def isTq : D → Bool
  | .tup _ => true | .ktup _ => true | _ => false
/-- zip of two lists, two tuples, a list with a tuple -/
def zipI (x y : D) (st : Store) : Option (List D × Hold) := match seqOf st x, seqOf st y with
  | some xs, some ys => if isTq (view st x) = true ∧ isLq (view st y) = true then none else some (zipD xs ys, .both (hold x st) (hold y st))
  | _, _ => none

mutual
noncomputable def evX (C : Cf) (σ : Slots) : IE → Ev
  | .var i => .of fun st => match σ[i]? with | some (some d) => .ok d st | _ => .no
  | .con d => .of fun st => .ok d st
  | .gl x => .of fun st => R.of (C.con x) st
  | .bin c op a b => .of fun st => ((evX C σ a).v st).bind fun x st1 => ((evX C σ b).v st1).bind fun y st2 =>
      match binV op (view st2 x) (view st2 y) with
      | some d => newR c d st2
      | none => .no
  | .neg a => .of fun st => ((evX C σ a).v st).bind fun x st1 => match x with | .int i => .ok (.int (-i)) st1 | _ => .no
  | .notE a => ⟨fun st => ((evX C σ a).v st).bind fun x st1 => match truthD st1 x with | some b => .ok (.bl (!b)) st1 | none => .no, fun st => ((evX C σ a).t st).bind fun b st1 => .ok (!b) st1⟩
  | .cmp op a b => .of fun st => ((evX C σ a).v st).bind fun x st1 => ((evX C σ b).v st1).bind fun y st2 =>
      match cmpV st2 op x y with | some r => .ok (.bl r) st2 | none => .no
  | .chain op1 op2 a b c => .ofB fun st => ((evX C σ a).v st).bind fun x st1 => ((evX C σ b).v st1).bind fun y st2 =>
      match cmpV st2 op1 x y with
      | some false => .ok (.bl false) st2
      | some true => ((evX C σ c).v st2).bind fun z st3 => match cmpV st3 op2 y z with | some r => .ok (.bl r) st3 | none => .no
      | none => .no
  | .and a b => ⟨fun st => ((evX C σ a).v st).bind fun x st1 => match truthD st1 x with | some true => (evX C σ b).v st1 | some false => .ok x st1 | none => .no,
      fun st => ((evX C σ a).t st).bind fun x st1 => if x = true then (evX C σ b).t st1 else .ok false st1⟩
  | .or a b => ⟨fun st => ((evX C σ a).v st).bind fun x st1 => match truthD st1 x with | some true => .ok x st1 | some false => (evX C σ b).v st1 | none => .no,
      fun st => ((evX C σ a).t st).bind fun x st1 => if x = true then .ok true st1 else (evX C σ b).t st1⟩
  | .ite c a b => .of fun st => ((evX C σ c).t st).bind fun x st1 => if x = true then (evX C σ a).v st1 else (evX C σ b).v st1
  | .tup es => .of fun st => (evEs C σ es st).bind fun xs st1 => if xs.length ≤ sizeLine then .ok (.tup xs) st1 else .no
  | .lst c es => .of fun st => (evEs C σ es st).bind fun xs st1 => if xs.length ≤ sizeLine then alloc c (.lst xs) st1 else .no
  | .dic c .nil .nil => .of fun st => alloc c (.dk []) st
  | .dic _ _ _ => .of fun _ => .no
  | .idx a i => .of fun st => ((evX C σ a).v st).bind fun x st1 => ((evX C σ i).v st1).bind fun y st2 => R.of (idxV (view st2 x) y) st2
  | .slc c a lo hi => .of fun st => ((evX C σ a).v st).bind fun x st1 => (partR lo (evX C σ lo).v st1).bind fun l st2 => (partR hi (evX C σ hi).v st2).bind fun h st3 =>
      match slcV (view st3 x) l h with
      | some d => newR c d st3
      | none => .no
  | .rev _ _ => .of fun _ => .no
  | .stp _ _ _ _ => .of fun _ => .no
  | .fld a f => .of fun st => ((evX C σ a).v st).bind fun x st1 => R.of (fldV (view st1 x) f) st1
  | .call s f es => .of fun st => if C.has "" f = true then (evEs C σ es st).bind fun xs st1 => if s = true then shut st1 (C.call "" f xs st1) else C.call "" f xs st1 else .no
  | .make s c es => .of fun st => if ¬ C.has c "__init__" = true then .no else (evEs C σ es st).bind fun xs st1 =>
      let r := (C.call c "__init__" (.ref st1.length :: xs) (st1 ++ [.obj c []])).bind fun v st2 => match v with | .non => .ok (.ref st1.length) st2 | _ => .no
      if s = true then shut st1 r else r
  | .meth s a m es => .of fun st => ((evX C σ a).v st).bind fun x st1 => match view st1 x with
      | .obj c fs => if (fs.lookup m).isSome = true ∨ ¬ C.has c m = true then .no else (evEs C σ es st1).bind fun xs st2 => if s = true then shut st2 (C.call c m (x :: xs) st2) else C.call c m (x :: xs) st2
      | _ => .no
  | .blt c f es => .of fun st => (evEs C σ es st).bind fun xs st1 => match bltV st1 f xs with
      | some d => newR c d st1
      | none => .no
  | .bty n => .of fun st => .ok (.ty n) st
  | .isi es => .of fun st => (evEs C σ es st).bind fun xs st1 => match isiV C.kit st1 xs with | some b => .ok (.bl b) st1 | none => .no
  | .bm c m a es => .of fun st => ((evX C σ a).v st).bind fun x st1 => if ¬ bmOk (tyOf (kd (view st1 x))) m = true then .no else (evEs C σ es st1).bind fun xs st2 => if ¬ kd (view st1 x) = kd (view st2 x) then .no else bmR m c x st2 (bmV st2 m x xs)
  | .lc c own g it cond elt => .of fun st => (evI C σ it st).bind fun p st1 =>
      (lcLoop (fun d st => match setG g d (wipeS σ own) with
        | some σ1 => ((evX C σ1 cond).t st).bind fun b st2 => if b = true then ((evX C σ1 elt).v st2).bind fun y st3 => .ok (some y) st3 else .ok none st2
        | none => .no) p.2 p.1 st1).bind fun ys st2 => if ys.length ≤ sizeLine then alloc c (.lst ys) st2 else .no
  | .dc _ _ _ _ _ _ _ => .of fun _ => .no
  | .sortK _ _ _ => .of fun _ => .no
  | .fstr es => .of fun st => (evJ C σ es Str.empty st).bind fun x st1 => .ok (.str x) st1
noncomputable def evEs (C : Cf) (σ : Slots) : IEs → Store → R (List D)
  | .nil, st => .ok [] st
  | .cons e es, st => ((evX C σ e).v st).bind fun x st1 => (evEs C σ es st1).bind fun xs st2 => .ok (x :: xs) st2
noncomputable def evJ (C : Cf) (σ : Slots) : IEs → Str → Store → R Str
  | .nil, acc, st => .ok acc st
  | .cons e es, acc, st => ((evX C σ e).v st).bind fun x st1 => match x with | .str y => if (acc ++ y).length ≤ sizeLine then evJ C σ es (acc ++ y) st1 else .no | _ => .no
noncomputable def evI (C : Cf) (σ : Slots) : II → Store → R (List D × Hold)
  | .seq e, st => ((evX C σ e).v st).bind fun x st1 => R.of (seqI x st1) st1
  | .rng1 e, st => ((evX C σ e).v st).bind fun x st1 => R.of ((rng1Of x).map fun r => (r, .free)) st1
  | .rng2 a b, st => ((evX C σ a).v st).bind fun x st1 => ((evX C σ b).v st1).bind fun y st2 => R.of ((rng2Of x y).map fun r => (r, .free)) st2
  | .str e, st => ((evX C σ e).v st).bind fun x st1 => match x with | .str t => .ok (signsOf t, .free) st1 | _ => .no
  | .zip a b, st => ((evX C σ a).v st).bind fun x st1 => ((evX C σ b).v st1).bind fun y st2 => R.of (zipI x y st2) st2
  | _, _ => .no
end
end Fg

set_option maxHeartbeats 4000000
/-! Fc: what an evaluation's end gives a reading. -/
namespace Fg
open PySem PySem.Spec PyProof.Rows L2

section
variable {G : GE} {fx B B' B1 : Hp} {μ μ' μ1 : List Addr} {st st1 : Store} {H H' : Hp}

/-- the slots -/
def SlR (G : GE) (B : Hp) (μ : List Addr) (sl : Slots) (σ : L2.St) : Prop :=
  sl.length = σ.length ∧ ∀ (i : Nat) d, sl[i]? = some (some d) → ∃ v, σ[i]? = some (some v) ∧ Rep G B μ d v
theorem SlR.mono (hB : Same B B') (hμ : Pre μ μ') {sl : Slots} {σ : L2.St} (r : SlR G B μ sl σ) : SlR G B' μ' sl σ :=
  ⟨r.1, fun i d h => let ⟨v, e, q⟩ := r.2 i d h; ⟨v, e, q.mono hB hμ⟩⟩
/-- an exception -/
def XRep (G : GE) (B : Hp) (μ : List Addr) (x : Exn) (cls : Value) (dd : Option Addr) : Prop :=
  ∃ C d fs, cls = .ref C ∧ G.cl x.c = some C ∧ dd = some d ∧ B d = some (.xd fs) ∧ RepF G B μ x.fs fs
theorem XRep.mono (hB : Same B B') (hμ : Pre μ μ') {x : Exn} {cls : Value} {dd : Option Addr} (r : XRep G B μ x cls dd) : XRep G B' μ' x cls dd := by
  obtain ⟨C, d, fs, h1, h2, h3, h4, h5⟩ := r
  exact ⟨C, d, fs, h1, h2, h3, hB _ _ h4, h5.mono hB hμ⟩

/-- what an evaluation's end must give; P: how a value is held -/
def End {α β : Type} (G : GE) (P : Hp → List Addr → Hp → α → β → Prop) (fx B : Hp) (μ : List Addr) (W : WX) (σ : L2.St) (r : R α) (Q : β → Hp → Prop) : Prop := match r with
  | .ok d st => ∀ B' μ' H' v, Same B B' → Pre μ μ' → SR G fx B' μ' st H' → P B' μ' H' d v → Q v H'
  | .exc x st => ∀ B' μ' H' cls dd, Same B B' → Pre μ μ' → SR G fx B' μ' st H' → XRep G B' μ' x cls dd → W cls dd σ H'
  | .no => False
variable {α β γ δ : Type} {P : Hp → List Addr → Hp → α → β → Prop} {P2 : Hp → List Addr → Hp → γ → δ → Prop} {W : WX} {σ : L2.St}
theorem End.mono {r : R α} {Q : β → Hp → Prop} (h : End G P fx B μ W σ r Q) (hB : Same B B1) (hμ : Pre μ μ1) : End G P fx B1 μ1 W σ r Q := by
  cases r with
  | ok d st => exact fun B' μ' H' v k1 k2 => h B' μ' H' v (hB.trans k1) (hμ.trans k2)
  | exc x st => exact fun B' μ' H' c d k1 k2 => h B' μ' H' c d (hB.trans k1) (hμ.trans k2)
  | no => exact h
theorem End.imp {r : R α} {Q Q' : β → Hp → Prop} (h : End G P fx B μ W σ r Q) (hq : ∀ v H, Q v H → Q' v H) : End G P fx B μ W σ r Q' := by
  cases r with
  | ok d st => exact fun B' μ' H' v k1 k2 k3 k4 => hq v H' (h B' μ' H' v k1 k2 k3 k4)
  | exc x st => exact h
  | no => exact h
/-- the first of two -/
theorem End.bind {r : R α} {f : α → Store → R γ} {Q : δ → Hp → Prop} (h : End G P2 fx B μ W σ (r.bind f) Q) :
    End G P fx B μ W σ r fun v H1 => ∃ B1 μ1 st1 d, Same B B1 ∧ Pre μ μ1 ∧ SR G fx B1 μ1 st1 H1 ∧ P B1 μ1 H1 d v ∧ End G P2 fx B1 μ1 W σ (f d st1) Q := by
  cases r with
  | ok d st => exact fun B' μ' H' v k1 k2 k3 k4 => ⟨B', μ', st, d, k1, k2, k3, k4, End.mono (r := f d st) h k1 k2⟩
  | exc x st => exact h
  | no => exact h
theorem End.ok {d : α} {v : β} {Q : β → Hp → Prop} (h : End G P fx B μ W σ (.ok d st) Q) (s : SR G fx B μ st H) (r : P B μ H d v) : Q v H := h B μ H v (Same.refl _) (Pre.refl _) s r
theorem End.exc {x : Exn} {cls : Value} {dd : Option Addr} {Q : β → Hp → Prop} (h : End G P fx B μ W σ (.exc x st) Q) (s : SR G fx B μ st H) (r : XRep G B μ x cls dd) : W cls dd σ H := h B μ H cls dd (Same.refl _) (Pre.refl _) s r

/-- how values, lists of values, truth values are held -/
abbrev PD (G : GE) : Hp → List Addr → Hp → D → V → Prop := fun B μ _ d v => Rep G B μ d v
abbrev PL (G : GE) : Hp → List Addr → Hp → List D → List V → Prop := fun B μ _ ds vs => RepL G B μ ds vs
abbrev PB : Hp → List Addr → Hp → Bool → Bool → Prop := fun _ _ _ b c => b = c
end

section
variable (G : GE) (W : WX) (C : Cf)
/-- the readings -/
def tev (e : IE) : TE := fun σ H Q => ∃ fx B μ st sl, SR G fx B μ st H ∧ SlR G B μ sl σ ∧ End G (PD G) fx B μ W σ ((evX C sl e).v st) Q
def tevT (e : IE) : TT := fun σ H Q => ∃ fx B μ st sl, SR G fx B μ st H ∧ SlR G B μ sl σ ∧ End G PB fx B μ W σ ((evX C sl e).t st) Q
def tevs (es : IEs) : TA := fun σ H Q => ∃ fx B μ st sl, SR G fx B μ st H ∧ SlR G B μ sl σ ∧ End G (PL G) fx B μ W σ (evEs C sl es st) Q
end
theorem PE.imp {X : Cx} {e : Expr} {t t' : TE} (h : PE X e t) (k : ∀ σ H Q, t' σ H Q → t σ H Q) : PE X e t' := ⟨fun pins s σ H Q I q => h.run pins s σ H Q I (k σ H Q q)⟩
theorem PT.imp {X : Cx} {e : Expr} {t t' : TT} (h : PT X e t) (k : ∀ σ H Q, t' σ H Q → t σ H Q) : PT X e t' := ⟨fun pins s σ H Q I q => h.run pins s σ H Q I (k σ H Q q)⟩
theorem PA.imp {X : Cx} {e : List Expr} {t t' : TA} (h : PA X e t) (k : ∀ σ H Q, t' σ H Q → t σ H Q) : PA X e t' := ⟨fun pos pins s σ H Q I q => h.run pos pins s σ H Q I (k σ H Q q)⟩
theorem PS.imp {X : Cx} {e : Stmt} {t t' : TS} (h : PS X e t) (k : ∀ D σ H, t' D σ H → t D σ H) : PS X e t' := ⟨fun pins s σ H D I q => h.run pins s σ H D I (k D σ H q)⟩
theorem PSs.imp {X : Cx} {e : List Stmt} {t t' : TS} (h : PSs X e t) (k : ∀ D σ H, t' D σ H → t D σ H) : PSs X e t' := ⟨fun pins s σ H D I q => h.run pins s σ H D I (k D σ H q)⟩

/-! ### what a value is, read through the store -/
section
variable {G : GE} {fx B : Hp} {μ : List Addr} {st : Store} {H : Hp}
theorem Rep.up (s : SR G fx B μ st H) {d : D} {v : V} (r : Rep G B μ d v) : Rep G H μ d v := r.mono s.sub (Pre.refl _)
theorem viewRef (s : SR G fx B μ st H) {n : Nat} {v : V} {d : D} (r : Rep G B μ (.ref n) v) (e : view st (.ref n) = d) (hd : d ≠ .dead) : ∃ a o, v = .ref a ∧ μ[n]? = some a ∧ st[n]? = some d ∧ H a = some o ∧ CRep G B μ d o := by
  cases r with
  | ref h =>
    rename_i a
    have hn : n < st.length := by rw [← s.len]; exact (List.getElem?_eq_some_iff.mp h).1
    have e1 : st[n]? = some st[n] := List.getElem?_eq_getElem hn
    have e2 : st[n] = d := by rw [← e]; simp [view, e1]
    obtain ⟨_, _, o, k1, k2⟩ := s.cell n a st[n] h e1
    exact ⟨a, o, rfl, h, by rw [e1, e2], k1, by rw [← e2]; exact k2⟩
theorem view_lst_inv (s : SR G fx B μ st H) {d : D} {v : V} {xs : List D} (r : Rep G B μ d v) (e : view st d = .lst xs) : ∃ a vs, v = .ref a ∧ H a = some (.lst vs) ∧ RepL G B μ xs vs := by
  cases d with
  | ref n =>
    obtain ⟨a, o, h1, h2, h3, h4, h5⟩ := viewRef s r e (by intro h; cases h)
    cases h5 with
    | lst q => exact ⟨a, _, h1, h4, q⟩
  | lst ys =>
    cases e
    cases r with
    | lst h l q => exact ⟨_, _, rfl, s.sub _ _ h, l, q⟩
  | _ => cases e
theorem view_scr_inv (s : SR G fx B μ st H) {d : D} {v : V} {xs : List D} (r : Rep G B μ d v) (e : view st d = .scr xs) : ∃ a vs, v = .ref a ∧ SqL G.K H a vs ∧ RepL G B μ xs vs := by
  cases d with
  | ref n =>
    obtain ⟨a, o, h1, h2, h3, h4, h5⟩ := viewRef s r e (by intro h; cases h)
    cases h5
  | scr ys =>
    cases e
    cases r with
    | scr h l q => exact ⟨_, _, rfl, Same.sqL s.sub h, l, q⟩
  | _ => cases e
theorem view_tup_inv (s : SR G fx B μ st H) {d : D} {v : V} {xs : List D} (r : Rep G B μ d v) (e : view st d = .tup xs) : ∃ a vs, v = .ref a ∧ H a = some (.tup vs) ∧ RepL G B μ xs vs := by
  cases d with
  | ref n =>
    obtain ⟨a, o, h1, h2, h3, h4, h5⟩ := viewRef s r e (by intro h; cases h)
    cases h5
  | tup ys =>
    cases e
    cases r with
    | tup h l q => exact ⟨_, _, rfl, s.sub _ _ h, l, q⟩
  | _ => cases e
theorem view_ktup_inv (s : SR G fx B μ st H) {d : D} {v : V} {xs : List D} (r : Rep G B μ d v) (e : view st d = .ktup xs) : ∃ a vs, v = .ref a ∧ SqT G.K H a vs ∧ RepL G B μ xs vs := by
  cases d with
  | ref n =>
    obtain ⟨a, o, h1, h2, h3, h4, h5⟩ := viewRef s r e (by intro h; cases h)
    cases h5
  | ktup ys =>
    cases e
    cases r with
    | ktup h l q => exact ⟨_, _, rfl, Same.sqT s.sub h, l, q⟩
  | _ => cases e
theorem view_dk_inv (s : SR G fx B μ st H) {d : D} {v : V} {xs : List (Key × D)} (r : Rep G B μ d v) (e : view st d = .dk xs) : ∃ a vs, v = .ref a ∧ Rd H a (.dK vs) ∧ RepP G B μ xs vs := by
  cases d with
  | ref n =>
    obtain ⟨a, o, h1, h2, h3, h4, h5⟩ := viewRef s r e (by intro h; cases h)
    cases h5 with
    | dk q => exact ⟨a, _, h1, .inl h4, q⟩
  | dk ys =>
    cases e
    cases r with
    | dk h l q => exact ⟨_, _, rfl, Same.rd s.sub h, l, q⟩
  | _ => cases e
theorem view_dt_inv (s : SR G fx B μ st H) {d : D} {v : V} {xs : List (List Key × D)} (r : Rep G B μ d v) (e : view st d = .dt xs) : ∃ a vs, v = .ref a ∧ Rd H a (.dT vs) ∧ RepP G B μ xs vs := by
  cases d with
  | ref n =>
    obtain ⟨a, o, h1, h2, h3, h4, h5⟩ := viewRef s r e (by intro h; cases h)
    cases h5 with
    | dt q => exact ⟨a, _, h1, .inl h4, q⟩
  | dt ys =>
    cases e
    cases r with
    | dt h l q => exact ⟨_, _, rfl, Same.rd s.sub h, l, q⟩
  | _ => cases e
theorem view_obj_inv (s : SR G fx B μ st H) {d : D} {v : V} {c : String} {xs : List (String × D)} (r : Rep G B μ d v) (e : view st d = .obj c xs) : ∃ a C dx vs, v = .ref a ∧ H a = some (.ins C dx vs) ∧ G.cl c = some C ∧ RepF G B μ xs vs := by
  cases d with
  | ref n =>
    obtain ⟨a, o, h1, h2, h3, h4, h5⟩ := viewRef s r e (by intro h; cases h)
    cases h5 with
    | obj c q => exact ⟨a, _, _, _, h1, h4, c, q⟩
  | obj c' ys =>
    cases e
    cases r with
    | obj h c l q => exact ⟨_, _, _, _, rfl, s.sub _ _ h, c, l, q⟩
  | _ => cases e
theorem view_int_inv (s : SR G fx B μ st H) {d : D} {v : V} {i : Int} (r : Rep G B μ d v) (e : view st d = .int i) : v = .int i := by
  cases d with
  | ref n =>
    obtain ⟨a, o, h1, h2, h3, h4, h5⟩ := viewRef s r e (by intro h; cases h)
    cases h5
  | int j =>
    cases e; cases r; rfl
  | _ => cases e
theorem view_str_inv (s : SR G fx B μ st H) {d : D} {v : V} {i : Str} (r : Rep G B μ d v) (e : view st d = .str i) : v = .str i := by
  cases d with
  | ref n =>
    obtain ⟨a, o, h1, h2, h3, h4, h5⟩ := viewRef s r e (by intro h; cases h)
    cases h5
  | str j =>
    cases e; cases r; rfl
  | _ => cases e
theorem view_bl_inv (s : SR G fx B μ st H) {d : D} {v : V} {i : Bool} (r : Rep G B μ d v) (e : view st d = .bl i) : v = .bl i := by
  cases d with
  | ref n =>
    obtain ⟨a, o, h1, h2, h3, h4, h5⟩ := viewRef s r e (by intro h; cases h)
    cases h5
  | bl j =>
    cases e; cases r; rfl
  | _ => cases e
theorem view_non_inv (s : SR G fx B μ st H) {d : D} {v : V} (r : Rep G B μ d v) (e : view st d = .non) : v = .non := by
  cases d with
  | ref n =>
    obtain ⟨a, o, h1, h2, h3, h4, h5⟩ := viewRef s r e (by intro h; cases h)
    cases h5
  | non =>
    cases r; rfl
  | _ => cases e

/-- a new object, laid -/
theorem CRep.rep {p : Addr} {o : HO} {d : D} (r : CRep G B μ d o) (sm : Same B (upd B p o)) : Rep G (upd B p o) μ d (.ref p) := by
  have e : upd B p o p = some o := upd_same
  cases r with
  | lst q => exact .lst e q.1 fun i d v h1 h2 => (q.2 i d v h1 h2).mono sm (Pre.refl _)
  | dk q => exact .dk (.inl e) q.1 fun i d v h1 h2 => (q.2 i d v h1 h2).mono sm (Pre.refl _)
  | dt q => exact .dt (.inl e) q.1 fun i d v h1 h2 => (q.2 i d v h1 h2).mono sm (Pre.refl _)
  | obj c q => exact .obj e c q.1 fun i d v h1 h2 => (q.2 i d v h1 h2).mono sm (Pre.refl _)
  | dead => exact .dead
theorem End.alloc {W : WX} {σ : L2.St} {c : Bool} {d : D} {o : HO} {Q : VK} (h : End G (PD G) fx B μ W σ (alloc c d st) Q) (s : SR G fx B μ st H) (r : CRep G B μ d o) : ∀ p, H p = none → Q (.ref p) (upd H p o) := fun p hp => by
  cases c with
  | true =>
    have s' := s.newC (o := o) hp (r.mono (Same.refl _) (Pre.app μ [p]))
    refine h B (μ ++ [p]) (upd H p o) (.ref p) (Same.refl _) (Pre.app _ _) s' (.ref ?_)
    rw [← s.len]; simp
  | false =>
    obtain ⟨sm, s'⟩ := s.newB (o := o) hp
    exact h _ μ _ _ sm (Pre.refl _) s' (r.rep sm)
/-- a new tuple -/
theorem End.tup {W : WX} {σ : L2.St} {ds : List D} {vs : List V} {Q : VK} (h : End G (PD G) fx B μ W σ (.ok (.tup ds) st) Q) (s : SR G fx B μ st H) (r : RepL G B μ ds vs) : ∀ p, H p = none → Q (.ref p) (upd H p (.tup vs)) := fun p hp => by
  obtain ⟨sm, s'⟩ := s.newB (o := .tup vs) hp
  exact h _ μ _ _ sm (Pre.refl _) s' (.tup upd_same r.1 fun i d v h1 h2 => (r.2 i d v h1 h2).mono sm (Pre.refl _))
end
end Fg

set_option maxHeartbeats 4000000
/-! Fd: expressions, one rule a construct. -/
namespace Fg
open PySem PySem.Spec PyProof.Rows L2

theorem PE.or {X : Cx} {e : Expr} {t u : TE} (h : PE X e t) (k : PE X e u) : PE X e (fun σ H Q => t σ H Q ∨ u σ H Q) :=
  ⟨fun pins s σ H Q I q => q.elim (h.run pins s σ H Q I) (k.run pins s σ H Q I)⟩

section
variable {X : Cx}
def rAdd5 (K : PySem.W.Frag) : R2 := fun x y H Q =>
  (∃ i j, x = .int i ∧ y = .int j ∧ Q (.int (i + j)) H) ∨ (∃ i j, x = .str i ∧ y = .str j ∧ i.length + j.length ≤ sizeLine ∧ Q (.str (i ++ j)) H) ∨ rCat x y H Q ∨ rCatA K x y H Q
theorem op_add5 : OpR X (binaryOp .Add) (rAdd5 X.K) := OpR.or op_add (OpR.or op_add_str (OpR.or op_cat op_catA))
def rMul2 : R2 := fun x y H Q => rI CMul (fun i j => .int (i * j)) x y H Q ∨ rI CMulW (fun i j => .int (i * j)) x y H Q
theorem op_mul2 : OpR X (binaryOp .Mult) rMul2 := OpR.or op_mul op_mulW
/-- the operators of the evaluator -/
def rBin (K : PySem.W.Frag) : Operator → R2
  | .Add => rAdd5 K
  | .Sub => rI0 fun i j => .int (i - j)
  | .Mult => rMul2
  | .FloorDiv => rI CDivW fun i j => .int (i / j)
  | .Mod => rI (fun _ j => 0 < j) fun i j => .int (i % j)
  | .Pow => rI CPow fun i j => .int (i ^ j.toNat)
  | _ => fun _ _ _ _ => False
theorem op_bin (op : Operator) : OpR X (binaryOp op) (rBin X.K op) := by
  cases op with
  | Add => exact op_add5
  | Sub => exact op_sub
  | Mult => exact op_mul2
  | FloorDiv => exact op_fdivW
  | Mod => exact op_mod
  | Pow => exact op_pow
  | _ => exact fun _ _ _ _ _ _ _ _ _ _ _ _ h => False.elim h
end

section
variable {G : GE} {fx B : Hp} {μ : List Addr} {st : Store} {H : Hp} {W : WX} {σ : L2.St}
theorem newR_end {c : Bool} {d : D} {Q : VK} (h : End G (PD G) fx B μ W σ (newR c d st) Q) : End G (PD G) fx B μ W σ (alloc c d st) Q := by
  cases c with
  | false => exact h
  | true => cases d <;> first | exact h | exact (show False from h).elim
theorem newR_flat {c : Bool} {d : D} {Q : VK} (h : End G (PD G) fx B μ W σ (newR c d st) Q) (hd : ∀ xs, d ≠ .lst xs) (hd2 : ∀ xs, d ≠ .dk xs) : End G (PD G) fx B μ W σ (.ok d st) Q := by
  cases c with
  | false => exact h
  | true => cases d <;> first | exact (show False from h).elim | exact absurd rfl (hd _) | exact absurd rfl (hd2 _)
theorem newR_ok {c : Bool} {d : D} {v : V} {Q : VK} (h : End G (PD G) fx B μ W σ (newR c d st) Q) (s : SR G fx B μ st H) (r : Rep G B μ d v) (hd : ∀ xs, d ≠ .lst xs) (hd2 : ∀ xs, d ≠ .dk xs) : Q v H := End.ok (P := PD G) (newR_flat h hd hd2) s r
theorem view_tup_eq (s : SR G fx B μ st H) {d : D} {v : V} {xs : List D} (r : Rep G B μ d v) (e : view st d = .tup xs) : d = .tup xs := by
  cases d with
  | ref n =>
    obtain ⟨a, o, h1, h2, h3, h4, h5⟩ := viewRef s r e (by intro h; cases h)
    cases h5
  | tup ys => exact e
  | _ => cases e
/-- a op b by values, and what its end gives -/
theorem bin_end {op : Operator} {a b d : D} {x y : V} {c : Bool} {Q : VK} (s : SR G fx B μ st H) (rx : Rep G B μ a x) (ry : Rep G B μ b y) (e : binV op (view st a) (view st b) = some d)
    (h : End G (PD G) fx B μ W σ (newR c d st) Q) : rBin G.K op x y H Q := by
  unfold binV at e
  split at e
  · rename_i i j ea eb
    cases e
    exact .inl ⟨i, j, view_int_inv s rx ea, view_int_inv s ry eb, newR_ok h s (.int _) (by simp) (by simp)⟩
  · rename_i i j ea eb
    cases e
    exact ⟨i, j, view_int_inv s rx ea, view_int_inv s ry eb, newR_ok h s (.int _) (by simp) (by simp)⟩
  · rename_i i j ea eb
    split at e
    · rename_i hc
      cases e
      have q : Q (.int (i * j)) H := newR_ok h s (.int _) (by simp) (by simp)
      rcases hc with hc | hc
      · exact .inl ⟨i, j, view_int_inv s rx ea, view_int_inv s ry eb, hc, q⟩
      · exact .inr ⟨i, j, view_int_inv s rx ea, view_int_inv s ry eb, hc, q⟩
    · cases e
  · rename_i i j ea eb
    split at e
    · rename_i hc
      cases e
      exact ⟨i, j, view_int_inv s rx ea, view_int_inv s ry eb, hc, newR_ok h s (.int _) (by simp) (by simp)⟩
    · cases e
  · rename_i i j ea eb
    split at e
    · rename_i hc
      cases e
      exact ⟨i, j, view_int_inv s rx ea, view_int_inv s ry eb, hc, newR_ok h s (.int _) (by simp) (by simp)⟩
    · cases e
  · rename_i i j ea eb
    split at e
    · rename_i hc
      cases e
      exact ⟨i, j, view_int_inv s rx ea, view_int_inv s ry eb, hc, newR_ok h s (.int _) (by simp) (by simp)⟩
    · cases e
  · rename_i i j ea eb
    split at e
    · rename_i hc
      cases e
      exact .inr (.inl ⟨i, j, view_str_inv s rx ea, view_str_inv s ry eb, hc, newR_ok h s (.str _) (by simp) (by simp)⟩)
    · cases e
  · rename_i i j ea eb
    split at e
    · rename_i hc
      cases e
      obtain ⟨l, vs, e1, h1, r1⟩ := view_lst_inv s rx ea
      obtain ⟨b, ws, e2, h2, r2⟩ := view_lst_inv s ry eb
      exact .inr (.inr (.inl ⟨l, b, vs, ws, e1, e2, h1, h2, by rw [← r1.1, ← r2.1]; exact hc, (newR_end h).alloc s (.lst (r1.app r2))⟩))
    · cases e
  · rename_i i j ea eb
    split at e
    · rename_i hc
      cases e
      obtain ⟨l, vs, e1, h1, r1⟩ := view_tup_inv s rx ea
      obtain ⟨b, ws, e2, h2, r2⟩ := view_tup_inv s ry eb
      have hf := newR_flat h (by simp) (by simp)
      refine .inr (.inr (.inr ⟨l, b, vs, ws, e1, e2, .of h1, .of h2, by rw [← r1.1, ← r2.1]; exact hc, fun z => ?_, fun z z2 => ?_, fun _ _ => hf.tup s (r1.app r2)⟩))
      · subst z
        have hi : i = [] := List.eq_nil_of_length_eq_zero r1.1
        subst hi
        have := view_tup_eq s ry eb
        subst this
        subst e2
        exact End.ok (P := PD G) hf s (by simpa using ry)
      · subst z2
        have hj : j = [] := List.eq_nil_of_length_eq_zero r2.1
        subst hj
        have := view_tup_eq s rx ea
        subst this
        subst e1
        exact End.ok (P := PD G) hf s (by simpa using rx)
    · cases e
  · cases e
end
end Fg

set_option maxHeartbeats 4000000
/-! Fe: truth, comparisons, subscripts, attributes. -/
namespace Fg
open PySem PySem.Spec PyProof.Rows L2

/-! ### truth -/
/-- the truth of a value, a locked dict too -/
def Tru2 (K : PySem.W.Frag) (x : V) (H : Hp) (k : Bool) : Prop := TruV K x H k ∨ ∃ p kvs, x = .ref p ∧ Rd H p (.dK kvs) ∧ k = !kvs.isEmpty
section
variable {X : Cx}
theorem tru2_ok : TruR X (fun x H Q => ∃ k, Tru2 X.K x H k ∧ Q k H) := fun pins s σ H x v Q I rx h => by
  obtain ⟨k, t | ⟨p, kvs, ex, r, ek⟩, q⟩ := h
  · exact tru_ok pins s σ H x v Q I rx ⟨k, t, q⟩
  · subst ex; subst ek
    cases rx
    exact d_truth I r fun s' I' => ⟨H, I', q⟩
variable {a b : Expr} {ta tb : TE} {rest : List Expr} {pos : Pos}
def uTru (K : PySem.W.Frag) (ta : TE) : TT := fun σ H Q => ta σ H fun x H' => ∃ k, Tru2 K x H' k ∧ Q k H'
theorem pt_tru (ha : PE X a ta) (he : ∀ whole, isTrue a X.env whole = (do let v ← whole; standAt a.pos; holding [v] (truthy v))) : PT X a (uTru X.K ta) := ⟨fun pins s σ H Q I h =>
  isTrue_plain (thn (ha.run pins s σ H _ I h) fun v s1 ⟨x, H1, I1, r1, q1⟩ => tru2_ok pins s1 σ H1 x v Q I1 r1 q1) (he _)⟩
def uOr (K : PySem.W.Frag) (ta tb : TE) : TE := fun σ H Q => ta σ H fun x H1 => ∃ k, Tru2 K x H1 k ∧ if k = true then Q x H1 else tb σ H1 Q
def uAnd (K : PySem.W.Frag) (ta tb : TE) : TE := fun σ H Q => ta σ H fun x H1 => ∃ k, Tru2 K x H1 k ∧ if k = true then tb σ H1 Q else Q x H1
def uNot (K : PySem.W.Frag) (ta : TE) : TE := fun σ H Q => ta σ H fun x H1 => ∃ k, Tru2 K x H1 k ∧ Q (.bl (!k)) H1
/-- the truth told, the heap as it was -/
theorem tru_run {pins : List (Addr × Obj)} {s : Shared} {σ : L2.St} {H : Hp} {x : V} {v : Value} {k : Bool} {R : Bool → Shared → Prop} (I : Inv X pins σ H s) (rx : RelV x v) (t : Tru2 X.K x H k) (h : ∀ s', Inv X pins σ H s' → R k s') :
    wpAny (model X.prog X.w) X.A (truthy v) R X.xe s :=
  thn (tru2_ok pins s σ H x v (fun c H2 => c = k ∧ H2 = H) I rx ⟨k, t, rfl, rfl⟩) fun c s2 ⟨H2, I2, e1, e2⟩ => by
    subst e1; subst e2; exact h s2 I2
theorem pe_or2 (ha : PE X a ta) (hb : PE X (.BoolOp .Or (b :: rest) pos) tb) : PE X (.BoolOp .Or (a :: b :: rest) pos) (uOr X.K ta tb) :=
  ⟨fun pins s σ H Q I h => BoolOp_or (thn (ha.run pins s σ H _ I h) fun v s1 ⟨x, H1, I1, r1, k, t, q⟩ => tru_run I1 r1 t fun s2 I2 => by
    cases k with
    | true => exact ⟨x, H1, I2, r1, q⟩
    | false => exact hb.run pins s2 σ H1 Q I2 q)⟩
theorem pe_and2 (ha : PE X a ta) (hb : PE X (.BoolOp .And (b :: rest) pos) tb) : PE X (.BoolOp .And (a :: b :: rest) pos) (uAnd X.K ta tb) :=
  ⟨fun pins s σ H Q I h => BoolOp_and (thn (ha.run pins s σ H _ I h) fun v s1 ⟨x, H1, I1, r1, k, t, q⟩ => tru_run I1 r1 t fun s2 I2 => by
    cases k with
    | true => exact hb.run pins s2 σ H1 Q I2 q
    | false => exact ⟨x, H1, I2, r1, q⟩)⟩
theorem pe_not2 (ha : PE X a ta) : PE X (.UnaryOp .Not a pos) (uNot X.K ta) :=
  ⟨fun pins s σ H Q I h => UnaryOp_ (thn (ha.run pins s σ H _ I h) fun v s1 ⟨x, H1, I1, r1, k, t, q⟩ => not_of (tru_run I1 r1 t fun s2 I2 => ⟨.bl (!k), H1, I2, rfl, q⟩))⟩
end
section
variable {G : GE} {fx B : Hp} {μ : List Addr} {st : Store} {H : Hp} {W : WX} {σ : L2.St}
theorem RepL.isEmpty {ds : List D} {vs : List V} (r : RepL G B μ ds vs) : ds.isEmpty = vs.isEmpty := by
  have := r.1
  cases ds <;> cases vs <;> simp at this ⊢
theorem tru_end {d : D} {x : V} {k : Bool} (s : SR G fx B μ st H) (r : Rep G B μ d x) (e : truthD st d = some k) : Tru2 G.K x H k := by
  unfold truthD at e
  split at e
  · rename_i h; cases e; have := view_non_inv s r h; subst this; exact .inl rfl
  · rename_i b h; cases e; have := view_bl_inv s r h; subst this; exact .inl rfl
  · rename_i b h; cases e; have := view_int_inv s r h; subst this; exact .inl rfl
  · rename_i b h
    split at e
    · cases e; have := view_str_inv s r h; subst this; exact .inl ⟨‹_›, rfl⟩
    · cases e
  · rename_i b h; cases e; obtain ⟨a, vs, e1, h1, r1⟩ := view_lst_inv s r h; subst e1; exact .inl (.inl ⟨vs, .of h1, by rw [r1.isEmpty]⟩)
  · rename_i b h; cases e; obtain ⟨a, vs, e1, h1, r1⟩ := view_tup_inv s r h; subst e1; exact .inl (.inr (.inl ⟨vs, .of h1, by rw [r1.isEmpty]⟩))
  · rename_i b h; cases e
    obtain ⟨a, vs, e1, h1, r1⟩ := view_dk_inv s r h
    refine .inr ⟨a, vs, e1, h1, ?_⟩
    have := congrArg List.length r1.1
    simp at this
    cases b <;> cases vs <;> simp at this ⊢
  · cases e
end

/-! ### data, told apart by == -/
section
variable {G : GE} {fx B : Hp} {μ : List Addr} {st : Store} {H : Hp}
theorem Dp.mono {K : PySem.W.Frag} {H H' : Hp} (h : Same H H') : ∀ {v : V} {d : PyData}, Dp K H v d → Dp K H' v d := by
  intro v d x
  refine Dp.rec (motive_1 := fun v d _ => Dp K H' v d) (motive_2 := fun vs ds _ => DpAll K H' vs ds) .non .bl .int .str (fun s _ ih => .lst (Same.sqL h s) ih) (fun s _ ih => .tup (Same.sqT h s) ih) .nil (fun _ _ h1 h2 => .cons h1 h2) x
mutual
theorem py_dp : ∀ (d : D) {v : V} {p : PyData}, Rep G B μ d v → d.py = some p → Dp G.K B v p
  | .non, _, _, r, e => by simp [D.py] at e; subst e; cases r; exact .non
  | .bl b, _, _, r, e => by simp [D.py] at e; subst e; cases r; exact .bl _
  | .int b, _, _, r, e => by simp [D.py] at e; subst e; cases r; exact .int _
  | .str b, _, _, r, e => by simp [D.py] at e; subst e; cases r; exact .str _
  | .lst xs, _, _, r, e => by
    simp only [D.py, Option.map_eq_some_iff] at e
    obtain ⟨ps, e1, e2⟩ := e
    subst e2
    cases r with
    | lst h l q => exact .lst (.of h) (py_dps xs ⟨l, q⟩ e1)
  | .tup xs, _, _, r, e => by
    simp only [D.py, Option.map_eq_some_iff] at e
    obtain ⟨ps, e1, e2⟩ := e
    subst e2
    cases r with
    | tup h l q => exact .tup (.of h) (py_dps xs ⟨l, q⟩ e1)
  | .ty _, _, _, _, e => by simp [D.py] at e
  | .gl _, _, _, _, e => by simp [D.py] at e
  | .ref _, _, _, _, e => by simp [D.py] at e
  | .ktup _, _, _, _, e => by simp [D.py] at e
  | .scr _, _, _, _, e => by simp [D.py] at e
  | .dk _, _, _, _, e => by simp [D.py] at e
  | .dt _, _, _, _, e => by simp [D.py] at e
  | .obj _ _, _, _, _, e => by simp [D.py] at e
  | .dead, _, _, _, e => by simp [D.py] at e
theorem py_dps : ∀ (ds : List D) {vs : List V} {ps : List PyData}, RepL G B μ ds vs → D.pys ds = some ps → DpAll G.K B vs ps
  | [], _, _, r, e => by
    simp [D.pys] at e; subst e
    have := r.nil_inv; subst this; exact .nil
  | d :: ds, _, _, r, e => by
    obtain ⟨v, ws, ev, h1, h2⟩ := r.cons_inv
    subst ev
    simp only [D.pys] at e
    split at e
    · rename_i p ps e1 e2
      cases e
      exact .cons (py_dp d h1 e1) (py_dps ds h2 e2)
    · cases e
end
/-- the data of what is read through the store -/
theorem py_view (s : SR G fx B μ st H) {d : D} {v : V} {p : PyData} (r : Rep G B μ d v) (e : (view st d).py = some p) : Dp G.K H v p := by
  cases d with
  | ref n =>
    by_cases hd : view st (.ref n) = .dead
    · rw [hd] at e; simp [D.py] at e
    · obtain ⟨a, o, h1, h2, h3, h4, h5⟩ := viewRef s r rfl hd
      subst h1
      generalize hv : view st (.ref n) = c at e h5
      cases h5 with
      | lst q =>
        simp only [D.py, Option.map_eq_some_iff] at e
        obtain ⟨ps, e1, e2⟩ := e
        subst e2
        exact .lst (.inl (.inl h4)) (py_dps _ (q.mono s.sub (Pre.refl _)) e1)
      | dk q => simp [D.py] at e
      | dt q => simp [D.py] at e
      | obj c q => simp [D.py] at e
      | dead => simp [D.py] at e
  | _ => exact Dp.mono s.sub (py_dp _ r e)
theorem scal_inv {d e : D} {x y : V} (s : SR G fx B μ st H) (r : Rep G B μ d x) (q : Rep G B μ e y) (h : scalD (view st d) (view st e) = true) : scal x y = true ∧ decide (x = y) = eqF (view st d) (view st e) := by
  generalize hd : view st d = d' at h
  generalize he : view st e = e' at h
  cases d' <;> cases e' <;> first
    | exact Bool.noConfusion h
    | (have h1 := (by first | exact view_non_inv s r hd | exact view_int_inv s r hd | exact view_bl_inv s r hd | exact view_str_inv s r hd)
       have h2 := (by first | exact view_non_inv s q he | exact view_int_inv s q he | exact view_bl_inv s q he | exact view_str_inv s q he)
       rw [h1, h2]
       refine ⟨rfl, ?_⟩
       first
         | rfl
         | exact dec_int
         | exact dec_bl
         | exact dec_str
         | simp [eqF])
def rEq2 (K : PySem.W.Frag) : R2 := fun x y H Q => rEq x y H Q ∨ rEqD K x y H Q
def rNe2 (K : PySem.W.Frag) : R2 := fun x y H Q => rNe x y H Q ∨ rNeD K x y H Q
theorem eq_end {d e : D} {x y : V} {k : Bool} {Q : VK} (s : SR G fx B μ st H) (r : Rep G B μ d x) (q : Rep G B μ e y) (h : eqD (view st d) (view st e) = some k) (hQ : Q (.bl k) H) : rEq2 G.K x y H Q := by
  unfold eqD at h
  split at h
  · rename_i hs
    cases h
    obtain ⟨h1, h2⟩ := scal_inv s r q hs
    exact .inl ⟨h1, by rw [h2]; exact hQ⟩
  · split at h
    · rename_i p p' e1 e2
      split at h
      · rename_i hs
        cases h
        exact .inr ⟨p, p', py_view s r e1, py_view s q e2, hs.1, hs.2, hQ⟩
      · cases h
    · cases h
theorem ne_end {d e : D} {x y : V} {k : Bool} {Q : VK} (s : SR G fx B μ st H) (r : Rep G B μ d x) (q : Rep G B μ e y) (h : eqD (view st d) (view st e) = some k) (hQ : Q (.bl (!k)) H) : rNe2 G.K x y H Q := by
  unfold eqD at h
  split at h
  · rename_i hs
    cases h
    obtain ⟨h1, h2⟩ := scal_inv s r q hs
    exact .inl ⟨h1, by rw [h2]; exact hQ⟩
  · split at h
    · rename_i p p' e1 e2
      split at h
      · rename_i hs
        cases h
        exact .inr ⟨p, p', py_view s r e1, py_view s q e2, hs.1, hs.2, hQ⟩
      · cases h
    · cases h
end
end Fg

set_option maxHeartbeats 4000000
/-! Ff: dicts, in, comparisons, subscripts, slices. -/
namespace Fg
open PySem PySem.Spec PyProof.Rows L2

section
variable {G : GE} {fx B : Hp} {μ : List Addr} {st : Store} {H : Hp}
/-- a possible value held as a possible value -/
def RepO (G : GE) (B : Hp) (μ : List Addr) : Option D → Option V → Prop
  | none, none => True
  | some d, some v => Rep G B μ d v
  | _, _ => False
section
variable {κ : Type} [DecidableEq κ]
theorem RepP.nil : RepP G B μ ([] : List (κ × D)) [] := ⟨rfl, fun i d v h _ => by simp at h⟩
theorem RepP.cons {k : κ} {d : D} {v : V} {ds : List (κ × D)} {vs : List (κ × V)} (h : Rep G B μ d v) (r : RepP G B μ ds vs) : RepP G B μ ((k, d) :: ds) ((k, v) :: vs) :=
  ⟨by simp [r.1], fun i d' v' h1 h2 => by
    cases i with
    | zero => simp at h1 h2; subst h1; subst h2; exact h
    | succ i => exact r.2 i d' v' (by simpa using h1) (by simpa using h2)⟩
theorem RepP.cons_inv {p : κ × D} {ds : List (κ × D)} {vs : List (κ × V)} (r : RepP G B μ (p :: ds) vs) : ∃ v ws, vs = (p.1, v) :: ws ∧ Rep G B μ p.2 v ∧ RepP G B μ ds ws := by
  cases vs with
  | nil => have := r.1; simp at this
  | cons q ws =>
    have h1 := r.1
    simp only [List.map_cons, List.cons.injEq] at h1
    refine ⟨q.2, ws, by rw [h1.1], r.2 0 p q rfl rfl, ⟨h1.2, fun i d' v' k1 k2 => r.2 (i + 1) d' v' (by simpa using k1) (by simpa using k2)⟩⟩
theorem RepP.nil_inv {vs : List (κ × V)} (r : RepP G B μ ([] : List (κ × D)) vs) : vs = [] := by
  have := r.1; simpa using this.symm
theorem RepP.length {ds : List (κ × D)} {vs : List (κ × V)} (r : RepP G B μ ds vs) : ds.length = vs.length := by
  have := congrArg List.length r.1; simpa using this
theorem RepP.get : ∀ {ds : List (κ × D)} {vs : List (κ × V)}, RepP G B μ ds vs → ∀ k, RepO G B μ (getK ds k) (valV vs k)
  | [], vs, r, k => by
    have := r.nil_inv; subst this
    trivial
  | p :: ds, vs, r, k => by
    obtain ⟨v, ws, e, h1, h2⟩ := r.cons_inv
    subst e
    by_cases hk : p.1 = k
    · rw [valV_pos (p := (p.1, v)) hk]
      have : getK (p :: ds) k = some p.2 := by simp [getK, hk]
      rw [this]
      exact h1
    · rw [valV_neg (p := (p.1, v)) hk]
      have : getK (p :: ds) k = getK ds k := by simp [getK, hk]
      rw [this]
      exact h2.get k
theorem RepP.any : ∀ {ds : List (κ × D)} {vs : List (κ × V)}, RepP G B μ ds vs → ∀ k, (ds.any fun kv => decide (kv.1 = k)) = vs.any fun kv => decide (kv.1 = k)
  | [], vs, r, k => by have := r.nil_inv; subst this; rfl
  | p :: ds, vs, r, k => by
    obtain ⟨v, ws, e, h1, h2⟩ := r.cons_inv
    subst e
    simp only [List.any_cons, h2.any k]
theorem RepP.upds : ∀ {ds : List (κ × D)} {vs : List (κ × V)}, RepP G B μ ds vs → ∀ k {d : D} {v : V}, Rep G B μ d v →
    RepP G B μ (ds.map fun kv => if kv.1 = k then (kv.1, d) else kv) (vs.map fun kv => if kv.1 = k then (kv.1, v) else kv)
  | [], vs, r, k, d, v, h => by have := r.nil_inv; subst this; exact .nil
  | p :: ds, vs, r, k, d, v, h => by
    obtain ⟨u, ws, e, h1, h2⟩ := r.cons_inv
    subst e
    simp only [List.map_cons]
    by_cases hk : p.1 = k
    · rw [if_pos hk, if_pos hk]; exact .cons h (h2.upds k h)
    · rw [if_neg hk, if_neg hk]; exact .cons (k := p.1) (d := p.2) h1 (h2.upds k h)
theorem RepP.app : ∀ {ds es : List (κ × D)} {vs ws : List (κ × V)}, RepP G B μ ds vs → RepP G B μ es ws → RepP G B μ (ds ++ es) (vs ++ ws)
  | [], es, vs, ws, r, q => by have := r.nil_inv; subst this; exact q
  | p :: ds, es, vs, ws, r, q => by
    obtain ⟨u, ws', e, h1, h2⟩ := r.cons_inv
    subst e
    exact .cons (k := p.1) (d := p.2) h1 (h2.app q)
theorem RepP.put {ds : List (κ × D)} {vs : List (κ × V)} (r : RepP G B μ ds vs) (k : κ) {d : D} {v : V} (h : Rep G B μ d v) : RepP G B μ (setK ds k d) (putK vs k v) := by
  unfold setK putK
  rw [r.any k]
  split
  · exact r.upds k h
  · exact r.app (.cons h .nil)
theorem RepP.del : ∀ {ds : List (κ × D)} {vs : List (κ × V)}, RepP G B μ ds vs → ∀ k, RepP G B μ (delK ds k) (dropK vs k)
  | [], vs, r, k => by have := r.nil_inv; subst this; exact .nil
  | p :: ds, vs, r, k => by
    obtain ⟨u, ws, e, h1, h2⟩ := r.cons_inv
    subst e
    unfold delK dropK
    by_cases hk : p.1 = k
    · rw [List.filter_cons_of_neg (by simp [hk]), List.filter_cons_of_neg (by simp [hk])]
      exact h2.del k
    · rw [List.filter_cons_of_pos (by simp [hk]), List.filter_cons_of_pos (by simp [hk])]
      exact .cons (k := p.1) (d := p.2) h1 (h2.del k)
end
theorem key_rep {d : D} {v : V} {k : Key} (r : Rep G B μ d v) (e : d.key = some k) : v = kV k := by
  cases d with
  | int i => simp [D.key] at e; subst e; cases r; rfl
  | str x => simp [D.key] at e; subst e; cases r; rfl
  | _ => simp [D.key] at e
theorem keys_rep : ∀ {ds : List D} {vs : List V} {ks : List Key}, RepL G B μ ds vs → keysOf ds = some ks → vs = ks.map kV
  | [], vs, ks, r, e => by
    have := r.nil_inv; subst this
    simp [keysOf] at e; subst e; rfl
  | d :: ds, vs, ks, r, e => by
    obtain ⟨v, ws, ev, h1, h2⟩ := r.cons_inv
    subst ev
    simp only [keysOf] at e
    split at e
    · rename_i k ks' e1 e2
      cases e
      rw [key_rep h1 e1, keys_rep h2 e2]; rfl
    · cases e
/-- what a dict holds at a key -/
theorem dGet_end {d k : D} {x y : V} {o : Option D} (s : SR G fx B μ st H) (r : Rep G B μ d x) (q : Rep G B μ k y) (e : dGet (view st d) k = some o) : ∃ a u, x = .ref a ∧ DGet H a y u ∧ RepO G B μ o u := by
  unfold dGet at e
  split at e
  · rename_i kvs hv
    obtain ⟨a, vs, e1, h1, h2⟩ := view_dk_inv s r hv
    obtain ⟨kk, e2, e3⟩ := Option.map_eq_some_iff.mp e
    subst e3
    exact ⟨a, valV vs kk, e1, .inl ⟨vs, kk, h1, key_rep q e2, rfl⟩, h2.get kk⟩
  · rename_i kvs hv
    obtain ⟨a, vs, e1, h1, h2⟩ := view_dt_inv s r hv
    split at e
    · rename_i ks
      obtain ⟨kk, e2, e3⟩ := Option.map_eq_some_iff.mp e
      subst e3
      cases q with
      | tup hb l qq =>
        have ek := keys_rep (G := G) (B := B) (μ := μ) ⟨l, qq⟩ e2
        subst ek
        exact ⟨a, valV vs kk, e1, .inr ⟨vs, kk, _, h1, rfl, s.sub _ _ hb, rfl⟩, h2.get kk⟩
    · cases e
  · cases e

theorem RepO.isSome {o : Option D} {u : Option V} (r : RepO G B μ o u) : o.isSome = u.isSome := by
  cases o <;> cases u <;> first | rfl | exact r.elim

/-! ### in -/
theorem flat_rep {d : D} {v : V} (r : Rep G B μ d v) (h : flatD d = true) : flatV v = true := by
  cases d with
  | non => cases r; rfl
  | bl b => cases r; rfl
  | int b => cases r; rfl
  | str b => cases r; rfl
  | _ => exact Bool.noConfusion h
theorem eqF_rep {d e : D} {v u : V} (r : Rep G B μ d v) (q : Rep G B μ e u) (h : flatD d = true) (k : flatD e = true) : eqV v u = eqF d e := by
  cases d <;> cases e <;> first
    | exact Bool.noConfusion h
    | exact Bool.noConfusion k
    | (cases r; cases q; rfl)
theorem flats_rep : ∀ {ds : List D} {vs : List V}, RepL G B μ ds vs → ds.all flatD = true → vs.all flatV = true
  | [], vs, r, _ => by have := r.nil_inv; subst this; rfl
  | d :: ds, vs, r, h => by
    obtain ⟨v, ws, ev, h1, h2⟩ := r.cons_inv
    subst ev
    simp only [List.all_cons, Bool.and_eq_true] at h ⊢
    exact ⟨flat_rep h1 h.1, flats_rep h2 h.2⟩
theorem any_rep {d : D} {x : V} (q : Rep G B μ d x) (k : flatD d = true) : ∀ {ds : List D} {vs : List V}, RepL G B μ ds vs → ds.all flatD = true → inV x vs = ds.any fun z => eqF z d
  | [], vs, r, _ => by have := r.nil_inv; subst this; rfl
  | e :: ds, vs, r, h => by
    obtain ⟨v, ws, ev, h1, h2⟩ := r.cons_inv
    subst ev
    simp only [List.all_cons, Bool.and_eq_true] at h
    have ih := any_rep q k h2 h.2
    unfold inV at ih ⊢
    simp only [List.any_cons, ih, eqF_rep h1 q h.1 k]
end

section
variable {X : Cx}
def rInK : R2 := fun y x H Q => ∃ a o, x = .ref a ∧ DGet H a y o ∧ Q (.bl o.isSome) H
def rNotInK : R2 := fun y x H Q => ∃ a o, x = .ref a ∧ DGet H a y o ∧ Q (.bl (!o.isSome)) H
theorem op_inK (hu : X.A.units + 1 < cLine) : OpR X (compareOp .In) rInK := fun pins s σ H y x u v Q I ry rx h => by
  obtain ⟨a, o, e, g, q⟩ := h
  subst e; cases rx
  exact d_in hu I g ry fun s3 I3 => ⟨.bl _, H, I3, rfl, q⟩
theorem op_notInK (hu : X.A.units + 1 < cLine) : OpR X (compareOp .NotIn) rNotInK := fun pins s σ H y x u v Q I ry rx h => by
  obtain ⟨a, o, e, g, q⟩ := h
  subst e; cases rx
  exact d_notIn hu I g ry fun s3 I3 => ⟨.bl _, H, I3, rfl, q⟩
def rInSign : R2 := fun x y H Q => ∃ (c : Nat) (z : Str), x = .str ⟨#[c]⟩ ∧ y = .str z ∧ Q (.bl (decide (c ∈ z.cps.toList))) H
def rNotInSign : R2 := fun x y H Q => ∃ (c : Nat) (z : Str), x = .str ⟨#[c]⟩ ∧ y = .str z ∧ Q (.bl (!decide (c ∈ z.cps.toList))) H
def rLtS : R2 := fun x y H Q => ∃ i j, x = .str i ∧ y = .str j ∧ Q (.bl (decide (i.cps.toList < j.cps.toList))) H
/-- the comparisons of the evaluator -/
def rCmp (K : PySem.W.Frag) : CmpOp → R2
  | .Eq => rEq2 K
  | .NotEq => rNe2 K
  | .Lt => fun x y H Q => rI0 (fun i j => .bl (decide (i < j))) x y H Q ∨ rLtS x y H Q
  | .LtE => rI0 fun i j => .bl (decide (i ≤ j))
  | .Gt => rI0 fun i j => .bl (decide (j < i))
  | .GtE => rI0 fun i j => .bl (decide (j ≤ i))
  | .Is => fun x y H Q => y = .non ∧ Q (.bl (decide (x = .non))) H
  | .IsNot => fun x y H Q => y = .non ∧ Q (.bl (!decide (x = .non))) H
  | .In => fun x y H Q => rInK x y H Q ∨ rInSign x y H Q ∨ rIn K false x y H Q ∨ rInD K x y H Q
  | .NotIn => fun x y H Q => rNotInK x y H Q ∨ rNotInSign x y H Q ∨ rIn K true x y H Q ∨ rNotInD K x y H Q
theorem op_cmp (op : CmpOp) (hu : X.A.units + 80 < cLine) : OpR X (compareOp op) (rCmp X.K op) := by
  cases op with
  | Eq => exact OpR.or op_eq (op_eqD (by omega))
  | NotEq => exact OpR.or op_ne (op_neD (by omega))
  | Lt => exact OpR.or op_lt op_lt_str
  | LtE => exact op_le
  | Gt => exact op_gt
  | GtE => exact op_ge
  | Is => exact op_isN
  | IsNot => exact op_notN
  | In => exact OpR.or (op_inK (by omega)) (OpR.or op_in_sign (OpR.or op_in_seq (op_inD (by omega))))
  | NotIn => exact OpR.or (op_notInK (by omega)) (OpR.or op_notIn_sign (OpR.or op_notIn_seq (op_notInD (by omega))))
end
section
variable {G : GE} {fx B : Hp} {μ : List Addr} {st : Store} {H : Hp}
theorem sign_of {x : Str} (h : x.length = 1) : x = ⟨#[x.cps.getD 0 0]⟩ := by
  obtain ⟨⟨l⟩⟩ := x
  cases l with
  | nil => simp [Str.length] at h
  | cons a r =>
    cases r with
    | nil => rfl
    | cons b r => simp [Str.length] at h
theorem non_dec {d : D} {v : V} (r : Rep G B μ d v) (hd : ¬ isDead d = true) : decide (v = .non) = isNon d := by
  cases r <;> first | rfl | exact absurd rfl hd
/-- the four ways of in -/
theorem in_end {d e : D} {x y : V} {k : Bool} (s : SR G fx B μ st H) (r : Rep G B μ d x) (q : Rep G B μ e y) (h : inD st d e = some k) :
    (∃ a o, y = .ref a ∧ DGet H a x o ∧ o.isSome = k) ∨ (∃ (c : Nat) (z : Str), x = .str ⟨#[c]⟩ ∧ y = .str z ∧ decide (c ∈ z.cps.toList) = k) ∨
    (∃ p xs, y = .ref p ∧ (SqL G.K H p xs ∨ SqT G.K H p xs) ∧ flatV x = true ∧ xs.all flatV = true ∧ inV x xs = k) ∨
    (∃ d ds, Dp G.K H x d ∧ Dp G.K H y (.list ds) ∧ SeqAt.shaped d = true ∧ SeqAt.shaped (.list ds) = true ∧ (ds.any fun z => PyData.eqv z d) = k) := by
  unfold inD at h
  split at h
  · rename_i kvs hv
    obtain ⟨o, h1, h2⟩ := Option.map_eq_some_iff.mp h
    obtain ⟨a, u, e1, g, ro⟩ := dGet_end s q r (by rw [hv]; exact h1)
    exact .inl ⟨a, u, e1, g, by rw [← ro.isSome]; exact h2⟩
  · rename_i kvs hv
    obtain ⟨o, h1, h2⟩ := Option.map_eq_some_iff.mp h
    obtain ⟨a, u, e1, g, ro⟩ := dGet_end s q r (by rw [hv]; exact h1)
    exact .inl ⟨a, u, e1, g, by rw [← ro.isSome]; exact h2⟩
  · rename_i t hv
    split at h
    · rename_i c
      split at h
      · rename_i hl
        cases h
        cases r
        exact .inr (.inl ⟨_, t, by rw [← sign_of hl], view_str_inv s q hv, rfl⟩)
      · cases h
    · cases h
  · rename_i ys hv
    split at h
    · rename_i hf
      cases h
      obtain ⟨a, vs, e1, h1, h2⟩ := view_ktup_inv s q hv
      exact .inr (.inr (.inl ⟨a, vs, e1, .inr h1, flat_rep r hf.1, flats_rep h2 hf.2, any_rep r hf.1 h2 hf.2⟩))
    · cases h
  · rename_i ys hv
    split at h
    · rename_i hf
      cases h
      obtain ⟨a, vs, e1, h1, h2⟩ := view_tup_inv s q hv
      exact .inr (.inr (.inl ⟨a, vs, e1, .inr (.of h1), flat_rep r hf.1, flats_rep h2 hf.2, any_rep r hf.1 h2 hf.2⟩))
    · cases h
  · rename_i ys hv
    split at h
    · rename_i hf
      cases h
      obtain ⟨a, vs, e1, h1, h2⟩ := view_lst_inv s q hv
      exact .inr (.inr (.inl ⟨a, vs, e1, .inl (.of h1), flat_rep r hf.1, flats_rep h2 hf.2, any_rep r hf.1 h2 hf.2⟩))
    · split at h
      · rename_i p qs e1 e2
        split at h
        · rename_i hs
          cases h
          obtain ⟨a, vs, ey, h1, h2⟩ := view_lst_inv s q hv
          refine .inr (.inr (.inr ⟨p, qs, Dp.mono s.sub (py_dp _ r e1), ?_, hs.1, hs.2, rfl⟩))
          rw [ey]
          exact .lst (.of h1) (py_dps _ (h2.mono s.sub (Pre.refl _)) e2)
        · cases h
      · cases h
  · cases h
theorem cmp_end {op : CmpOp} {d e : D} {x y : V} {k : Bool} {Q : VK} (s : SR G fx B μ st H) (r : Rep G B μ d x) (q : Rep G B μ e y) (h : cmpV st op d e = some k) (hQ : Q (.bl k) H) : rCmp G.K op x y H Q := by
  unfold cmpV at h
  cases op with
  | Eq => exact eq_end s r q h hQ
  | NotEq =>
    obtain ⟨b, h1, h2⟩ := Option.map_eq_some_iff.mp h
    subst h2
    exact ne_end s r q h1 hQ
  | Lt =>
    simp only at h
    split at h
    · cases h; cases r; cases q; exact .inl ⟨_, _, rfl, rfl, hQ⟩
    · cases h; cases r; cases q; exact .inr ⟨_, _, rfl, rfl, hQ⟩
    · cases h
  | LtE =>
    simp only at h
    split at h
    · cases h; cases r; cases q; exact ⟨_, _, rfl, rfl, hQ⟩
    · cases h
  | Gt =>
    simp only at h
    split at h
    · cases h; cases r; cases q; exact ⟨_, _, rfl, rfl, hQ⟩
    · cases h
  | GtE =>
    simp only at h
    split at h
    · cases h; cases r; cases q; exact ⟨_, _, rfl, rfl, hQ⟩
    · cases h
  | Is =>
    simp only at h
    split at h
    · cases q
      split at h
      · cases h
      · cases h
        exact ⟨rfl, by rw [non_dec r ‹_›]; exact hQ⟩
    · cases h
  | IsNot =>
    simp only at h
    split at h
    · cases q
      split at h
      · cases h
      · cases h
        exact ⟨rfl, by rw [non_dec r ‹_›]; exact hQ⟩
    · cases h
  | In =>
    rcases in_end s r q h with ⟨a, o, h1, h2, h3⟩ | ⟨c, z, h1, h2, h3⟩ | ⟨p, xs, h1, h2, h3, h4, h5⟩ | ⟨d', ds, h1, h2, h3, h4, h5⟩
    · exact .inl ⟨a, o, h1, h2, by rw [h3]; exact hQ⟩
    · exact .inr (.inl ⟨c, z, h1, h2, by rw [h3]; exact hQ⟩)
    · exact .inr (.inr (.inl ⟨p, xs, h1, h2, h3, h4, by rw [if_neg Bool.false_ne_true, h5]; exact hQ⟩))
    · exact .inr (.inr (.inr ⟨d', ds, h1, h2, h3, h4, by rw [h5]; exact hQ⟩))
  | NotIn =>
    obtain ⟨b, h0, hb⟩ := Option.map_eq_some_iff.mp h
    subst hb
    rcases in_end s r q h0 with ⟨a, o, h1, h2, h3⟩ | ⟨c, z, h1, h2, h3⟩ | ⟨p, xs, h1, h2, h3, h4, h5⟩ | ⟨d', ds, h1, h2, h3, h4, h5⟩
    · exact .inl ⟨a, o, h1, h2, by rw [h3]; exact hQ⟩
    · exact .inr (.inl ⟨c, z, h1, h2, by rw [h3]; exact hQ⟩)
    · exact .inr (.inr (.inl ⟨p, xs, h1, h2, h3, h4, by rw [if_pos rfl, h5]; exact hQ⟩))
    · exact .inr (.inr (.inr ⟨d', ds, h1, h2, h3, h4, by rw [h5]; exact hQ⟩))
end
end Fg

set_option maxHeartbeats 4000000
/-! Fg1: subscripts, slices, attributes, displays, built-in functions. -/
namespace Fg
open PySem PySem.Spec PyProof.Rows L2

/-! ### subscripts -/
section
variable {G : GE} {fx B : Hp} {μ : List Addr} {st : Store} {H : Hp}
theorem RepL.atI {ds : List D} {vs : List V} (r : RepL G B μ ds vs) {k : Int} {d : D} (h : L2.atI ds k = some d) : ∃ v, L2.atI vs k = some v ∧ Rep G B μ d v := by
  unfold L2.atI at h ⊢
  rw [r.1] at h
  cases e : ixN vs.length k with
  | none => rw [e] at h; cases h
  | some j =>
    rw [e] at h
    obtain ⟨v, h1, h2⟩ := r.get (i := j) (d := d) h
    exact ⟨v, h1, h2⟩
/-- o[i] of a list, a tuple, a text -/
theorem idx_seq {o i d : D} {x y : V} {Q : VK} (s : SR G fx B μ st H) (r : Rep G B μ o x) (q : Rep G B μ i y) (e : idxV (view st o) i = some d) (hk : kd (view st o) ≠ .dk ∧ kd (view st o) ≠ .dt)
    (hQ : ∀ v, Rep G B μ d v → Q v H) : rIx G.K x y H Q := by
  unfold idxV at e
  split at e
  · rename_i xs k hv
    obtain ⟨a, vs, e1, h1, h2⟩ := view_lst_inv s r hv
    obtain ⟨v, h3, h4⟩ := h2.atI e
    cases q
    exact .inl ⟨a, vs, _, v, e1, rfl, .of h1, h3, hQ v h4⟩
  · rename_i xs k hv
    obtain ⟨a, vs, e1, h1, h2⟩ := view_tup_inv s r hv
    obtain ⟨v, h3, h4⟩ := h2.atI e
    cases q
    exact .inr (.inl ⟨a, vs, _, v, e1, rfl, .of h1, h3, hQ v h4⟩)
  · rename_i xs k hv
    obtain ⟨a, vs, e1, h1, h2⟩ := view_scr_inv s r hv
    obtain ⟨v, h3, h4⟩ := h2.atI e
    cases q
    exact .inl ⟨a, vs, _, v, e1, rfl, h1, h3, hQ v h4⟩
  · rename_i z k hv
    split at e
    · obtain ⟨c, h1, h2⟩ := Option.map_eq_some_iff.mp e
      subst h2
      cases q
      exact .inr (.inr ⟨z, _, c, view_str_inv s r hv, rfl, ‹_›, h1, hQ _ (.str _)⟩)
    · cases e
  · rename_i kvs k hv; rw [hv] at hk; exact absurd rfl hk.1
  · rename_i kvs k hv; rw [hv] at hk; exact absurd rfl hk.2
  · cases e
theorem idx_dct {o i d : D} {x y : V} {Q : VK} (s : SR G fx B μ st H) (r : Rep G B μ o x) (q : Rep G B μ i y) (e : idxV (view st o) i = some d) (hk : kd (view st o) = .dk ∨ kd (view st o) = .dt)
    (hQ : ∀ v, Rep G B μ d v → Q v H) : ∃ a v, x = .ref a ∧ DGet H a y (some v) ∧ Q v H := by
  have main : ∃ o' , dGet (view st o) i = some (some o') ∧ o' = d := by
    unfold idxV at e
    unfold dGet
    split at e
    · rename_i xs k hv; rw [hv] at hk; exact hk.elim (fun h => nomatch h) fun h => nomatch h
    · rename_i xs k hv; rw [hv] at hk; exact hk.elim (fun h => nomatch h) fun h => nomatch h
    · rename_i xs k hv; rw [hv] at hk; exact hk.elim (fun h => nomatch h) fun h => nomatch h
    · rename_i xs k hv; rw [hv] at hk; exact hk.elim (fun h => nomatch h) fun h => nomatch h
    · rename_i kvs k hv
      rw [hv]
      obtain ⟨kk, h1, h2⟩ := Option.bind_eq_some_iff.mp e
      exact ⟨d, by simp [h1, h2], rfl⟩
    · rename_i kvs ks hv
      rw [hv]
      obtain ⟨kk, h1, h2⟩ := Option.bind_eq_some_iff.mp e
      exact ⟨d, by simp [h1, h2], rfl⟩
    · cases e
  obtain ⟨o', h1, h2⟩ := main
  subst h2
  obtain ⟨a, u, e1, g, ro⟩ := dGet_end s r q h1
  cases u with
  | none => exact ro.elim
  | some v => exact ⟨a, v, e1, g, hQ v ro⟩

/-! ### slices -/
theorem cut_rep {ds : List D} {vs : List V} (r : RepL G B μ ds vs) (lo hi : Option Int) : RepL G B μ (cutL ds lo hi) (cutV vs lo hi) := by
  unfold cutL cutV
  rw [r.1]
  exact (r.drop _).take _
theorem cut_whole {xs : List V} {lo hi : Option Int} (h : HT.sIx xs.length 0 lo = 0 ∧ HT.sIx xs.length xs.length hi = xs.length) : cutV xs lo hi = xs := by
  unfold cutV; rw [h.1, h.2]; simp
def rSl3 (K : PySem.W.Frag) : V → Option Int → Option Int → Hp → VK → Prop := fun x lo hi H Q => rSlL K x lo hi H Q ∨ rSlA K x lo hi H Q ∨ rSlS x lo hi H Q
theorem sl_3 {X : Cx} : L2.SlR X (rSl3 X.K) := sl_list.or (sl_tupA.or sl_str)
theorem slc_end {W : WX} {σ : L2.St} {c : Bool} {o d : D} {lo hi : Option Int} {x : V} {Q : VK} (s : SR G fx B μ st H) (r : Rep G B μ o x) (e : slcV (view st o) lo hi = some d)
    (hQ : End G (PD G) fx B μ W σ (newR c d st) Q) : rSl3 G.K x lo hi H Q := by
  unfold slcV at e
  split at e
  · rename_i xs hv
    cases e
    obtain ⟨a, vs, e1, h1, h2⟩ := view_lst_inv s r hv
    exact .inl ⟨a, vs, e1, .of h1, (newR_end hQ).alloc s (.lst (cut_rep h2 lo hi))⟩
  · rename_i xs hv
    cases e
    obtain ⟨a, vs, e1, h1, h2⟩ := view_tup_inv s r hv
    have hf := newR_flat hQ (by simp) (by simp)
    refine .inr (.inl ⟨a, vs, e1, .of h1, fun hw => ?_, fun _ => hf.tup s (cut_rep h2 lo hi)⟩)
    have eo := view_tup_eq s r hv
    subst eo
    subst e1
    have hw' : cutL xs lo hi = xs := by unfold cutL; rw [h2.1, hw.1, hw.2, ← h2.1]; simp
    rw [hw'] at hf
    exact End.ok (P := PD G) hf s r
  · rename_i xs hv
    cases e
    obtain ⟨a, vs, e1, h1, h2⟩ := view_scr_inv s r hv
    exact .inl ⟨a, vs, e1, h1, (newR_end hQ).alloc s (.lst (cut_rep h2 lo hi))⟩
  · rename_i z hv
    split at e
    · cases e
      exact .inr (.inr ⟨z, view_str_inv s r hv, ‹_›, newR_ok hQ s (.str _) (by simp) (by simp)⟩)
    · cases e
  · cases e

/-! ### attributes -/
theorem char_nat {c d : Char} (h : c.toNat = d.toNat) : c = d := by
  apply Char.ext
  apply UInt32.toNat_inj.mp
  exact h
theorem map_nat : ∀ {l m : List Char}, l.map Char.toNat = m.map Char.toNat → l = m
  | [], [], _ => rfl
  | [], b :: m, h => by simp at h
  | a :: l, [], h => by simp at h
  | a :: l, b :: m, h => by
    simp only [List.map_cons, List.cons.injEq] at h
    rw [char_nat h.1, map_nat h.2]
theorem ofString_inj {a b : String} (h : Str.ofString a = Str.ofString b) : a = b := by
  have := congrArg TL.tl h
  rw [TL.tl_ofString, TL.tl_ofString] at this
  exact String.ext (map_nat this)
theorem RepF.lookup : ∀ {ds : List (String × D)} {vs : List (Str × V)}, RepF G B μ ds vs → ∀ f, RepO G B μ (ds.lookup f) (vs.lookup (Str.ofString f))
  | [], vs, r, f => by
    have : vs = [] := by have := r.1; simpa using this.symm
    subst this; trivial
  | p :: ds, vs, r, f => by
    cases vs with
    | nil => have := r.1; simp at this
    | cons q ws =>
      have h1 := r.1
      simp only [List.map_cons, List.cons.injEq] at h1
      have r2 : RepF G B μ ds ws := ⟨h1.2, fun i d' v' k1 k2 => r.2 (i + 1) d' v' (by simpa using k1) (by simpa using k2)⟩
      obtain ⟨g, d⟩ := p
      obtain ⟨g', v⟩ := q
      have e : g' = Str.ofString g := h1.1.symm
      subst e
      by_cases hf : f = g
      · subst hf
        simp only [List.lookup, beq_self_eq_true]
        exact r.2 0 _ _ rfl rfl
      · have n1 : (f == g) = false := by simpa using hf
        have n2 : (Str.ofString f == Str.ofString g) = false := by
          simp only [beq_eq_false_iff_ne, ne_eq]
          exact fun h => hf (ofString_inj h)
        simp only [List.lookup, n1, n2]
        exact r2.lookup f
theorem fld_end {o d : D} {x : V} {f : String} (s : SR G fx B μ st H) (r : Rep G B μ o x) (e : fldV (view st o) f = some d) :
    ∃ c a C dx fs v, x = .ref a ∧ H a = some (.ins C dx fs) ∧ G.cl c = some C ∧ fs.lookup (Str.ofString f) = some v ∧ Rep G B μ d v := by
  unfold fldV at e
  split at e
  · rename_i c fd hv
    obtain ⟨a, C, dx, fs, e1, h1, h2, h3⟩ := view_obj_inv s r hv
    have h4 := h3.lookup f
    rw [e] at h4
    cases hl : fs.lookup (Str.ofString f) with
    | none => rw [hl] at h4; exact h4.elim
    | some v => rw [hl] at h4; exact ⟨c, a, C, dx, fs, v, e1, h1, h2, hl, h4⟩
  · cases e
end
end Fg

set_option maxHeartbeats 4000000
/-! Fg2: built-in functions by values. -/
namespace Fg
open PySem PySem.Spec PyProof.Rows L2

section
variable {X : Cx}
theorem one_of {x : V} {us : List Value} (r : Vals [x] us) : ∃ u, us = [u] ∧ RelV x u := vals1 r
abbrev RC := List V → Hp → VK → Prop
def rLen (K : PySem.W.Frag) : RC := fun xs H Q => (∃ x n, xs = [x] ∧ LenV K x H n ∧ Q (.int n) H) ∨ ∃ a kvs, xs = [.ref a] ∧ Rd H a (.dK kvs) ∧ Q (.int kvs.length) H
theorem cr_len : CallR X (.builtin "len") (rLen X.K) := CallR.or call_len fun pins s σ H xs us Q I r h => by
  obtain ⟨a, kvs, e, hr, q⟩ := h
  subst e
  obtain ⟨u, e2, rx⟩ := one_of r
  subst e2; cases rx
  exact d_len I hr fun t s' I' => ⟨.int kvs.length, H, I', ⟨t, rfl⟩, q⟩
def rInt : RC := fun xs H Q => ((∃ i, xs = [.int i] ∧ Q (.int i) H) ∨ ∃ k, xs = [.bl k] ∧ Q (.int (if k then 1 else 0)) H) ∨ ∃ a n, xs = [.str a] ∧ intText? a = some n ∧ a.length ≤ 640 ∧ Q (.int n) H
theorem cr_int : CallR X (.type "int") rInt := CallR.or call_int1 call_int_str
def rAbs : RC := fun xs H Q => ∃ i, xs = [.int i] ∧ Q (.int (if i < 0 then -i else i)) H
def rStr : RC := fun xs H Q => (∃ i, xs = [.int i] ∧ i.natAbs.log2 < 1920 ∧ Q (.str (toString i)) H) ∨ ∃ a, xs = [.str a] ∧ Q (.str a) H
theorem cr_str : CallR X (.type "str") rStr := CallR.or call_str_int SkE.call_str_str
def rRepr : RC := fun xs H Q => (∃ i, xs = [.int i] ∧ i.natAbs.log2 < 1920 ∧ Q (.str (toString i)) H) ∨ (∃ a, xs = [.str a] ∧ (reprText a).length ≤ sizeLine ∧ Q (.str (reprText a)) H) ∨
  (∃ b, xs = [.bl b] ∧ Q (.str (if b then "True" else "False")) H) ∨ (xs = [.non] ∧ Q (.str "None") H)
theorem cr_repr : CallR X (.builtin "repr") rRepr := CallR.or SkE.call_repr_int fun pins s σ H xs us Q I r h => by
  rcases h with ⟨a, e, hz, q⟩ | ⟨b, e, q⟩ | ⟨e, q⟩
  · subst e
    obtain ⟨u, e2, t, rx⟩ := one_of r
    subst e2; subst rx
    exact PySem.P.repr_of_str ⟨.str _, H, I.tok _, ⟨_, rfl⟩, q⟩ hz
  · subst e
    obtain ⟨u, e2, rx⟩ := one_of r
    subst e2; cases rx
    exact PySem.P.repr_of_bool ⟨.str _, H, I.tok _, ⟨_, rfl⟩, q⟩
  · subst e
    obtain ⟨u, e2, rx⟩ := one_of r
    subst e2; cases rx
    exact PySem.P.repr_of_none ⟨.str _, H, I.tok _, ⟨_, rfl⟩, q⟩
def rMin : RC := fun xs H Q => ∃ i j, xs = [.int i, .int j] ∧ Q (.int (if j < i then j else i)) H
def rMax2 : RC := fun xs H Q => ∃ i j, xs = [.int i, .int j] ∧ Q (.int (if j > i then j else i)) H
def rList (K : PySem.W.Frag) : RC := fun xs H Q => (∃ p ys, xs = [.ref p] ∧ (SqL K H p ys ∨ SqT K H p ys) ∧ ∀ l, H l = none → Q (.ref l) (upd H l (.lst ys))) ∨
  ∃ p kvs, xs = [.ref p] ∧ Rd H p (.dK kvs) ∧ ∀ q, H q = none → Q (.ref q) (upd H q (.lst (kvs.map fun kv => kV kv.1)))
theorem cr_list (hc : X.calm = true) : CallR X (.type "list") (rList X.K) := CallR.or call_list_of fun pins s σ H xs us Q I r h => by
  obtain ⟨p, kvs, e, hk, q⟩ := h
  subst e
  obtain ⟨u, e2, rx⟩ := one_of r
  subst e2; cases rx
  obtain ⟨z, lo, vs, rk, hd⟩ := dk_rd I.hok hk
  obtain ⟨ep, hat⟩ := hd.dictAt
  have hl := rk.length
  refine PySem.W.kdl_call (PySem.W.kdl_dict (knd := mixKind X.prog X.w) (kvs := vs) (ep := ep) lo) (I.ok.hd hc) hat (by omega) fun h' tk acc c keep hS hacc => ?_
  have hlen : (kvs.map fun kv => kV kv.1).length = acc.toList.length := by
    have := hacc.1
    simp only [List.length_map, Array.length_toList]; omega
  have hv : Vals (kvs.map fun kv => kV kv.1) acc.toList := vals_of_at hlen fun j x w h1 h2 => by
    rw [Array.getElem?_toList] at h2
    obtain ⟨k, y, hky, hi⟩ := hacc.2 j w h2
    have hk1 : (kvs.map (·.1))[j]? = some k := by rw [rk.keys, List.getElem?_map, hky]; rfl
    rw [List.getElem?_map] at h1 hk1
    obtain ⟨kv, e1, e2⟩ := Option.map_eq_some_iff.mp h1
    rw [e1] at hk1
    cases hk1
    rw [← e2]
    exact keyIs_rel hi
  refine ⟨.ref s.heap.objs.size, upd H s.heap.objs.size (.lst (kvs.map fun kv => kV kv.1)), I.laid (t' := tk) keep (Nat.le_refl _) ?_, rfl, q _ (I.hok.fresh (Nat.le_refl _))⟩
  exact ⟨by rw [List.length_map]; exact z, acc.toList, c, hv, hS⟩
def rTuple (K : PySem.W.Frag) : RC := fun xs H Q => ∃ p ys, xs = [.ref p] ∧ ((SqL K H p ys ∧ ∀ l, H l = none → Q (.ref l) (upd H l (.tup ys))) ∨ (SqT K H p ys ∧ Q (.ref p) H))
def rDict (K : PySem.W.Frag) : RC := fun xs H Q => (∃ (a : Addr) (ps : List Addr) (kvs : List (Key × V)), xs = [.ref a] ∧ SqL K H a (ps.map V.ref) ∧ Paired (fun p kv => SqT K H p [kV kv.1, kv.2]) ps kvs ∧
    ∀ p, H p = none → Q (.ref p) (upd H p (.dK (mergeK [] kvs)))) ∨ ∃ a kvs, xs = [.ref a] ∧ Rd H a (.dK kvs) ∧ ∀ p, H p = none → Q (.ref p) (upd H p (.dK kvs))
theorem cr_dict (hc : X.calm = true) : CallR X (.type "dict") (rDict X.K) := CallR.or (call_dictP hc) fun pins s σ H xs us Q I r h => by
  obtain ⟨a, kvs, e, hk, q⟩ := h
  subst e
  obtain ⟨u, e2, rx⟩ := one_of r
  subst e2; cases rx
  exact d_copyOf I hk fun p s' hp I' => ⟨.ref p, _, I', rfl, q p hp⟩
/-- the built-in functions of the evaluator: the value that the name has, what it asks -/
def rBlt (K : PySem.W.Frag) (f : String) : RC := match f with
  | "len" => rLen K | "int" => rInt | "abs" => rAbs | "str" => rStr | "repr" => rRepr | "min" => rMin | "max" => rMax2
  | "sum" => rSum K | "all" => rAll K | "any" => rAny K | "list" => rList K | "tuple" => rTuple K | "dict" => rDict K
  | _ => fun _ _ _ => False
def isTyF (f : String) : Bool := f == "int" || f == "str" || f == "list" || f == "tuple" || f == "dict"
def isFnF (f : String) : Bool := f == "len" || f == "abs" || f == "repr" || f == "min" || f == "max" || f == "sum" || f == "all" || f == "any"
theorem cr_no {v : Value} {X : Cx} : CallR X v (fun _ _ _ => False) := fun _ _ _ _ _ _ _ _ _ h => h.elim
theorem cr_blt {f : String} (hc : X.calm = true) : (isFnF f = true → CallR X (.builtin f) (rBlt X.K f) ∧ bootBuiltins (Str.ofString f) = some (.builtin f)) ∧ (isTyF f = true → CallR X (.type f) (rBlt X.K f) ∧ bootBuiltins (Str.ofString f) = some (.type f)) := by
  constructor
  · intro h
    simp only [isFnF, Bool.or_eq_true, beq_iff_eq] at h
    rcases h with ((((((h | h) | h) | h) | h) | h) | h) | h <;> subst h
    · exact ⟨cr_len, by decide +kernel⟩
    · exact ⟨call_abs, by decide +kernel⟩
    · exact ⟨cr_repr, by decide +kernel⟩
    · exact ⟨call_min2 hc, by decide +kernel⟩
    · exact ⟨call_max2 hc, by decide +kernel⟩
    · exact ⟨cr_sum hc, by decide +kernel⟩
    · exact ⟨cr_all hc, by decide +kernel⟩
    · exact ⟨cr_any hc, by decide +kernel⟩
  · intro h
    simp only [isTyF, Bool.or_eq_true, beq_iff_eq] at h
    rcases h with (((h | h) | h) | h) | h <;> subst h
    · exact ⟨cr_int, by decide +kernel⟩
    · exact ⟨cr_str, by decide +kernel⟩
    · exact ⟨cr_list hc, by decide +kernel⟩
    · exact ⟨call_tuple_of, by decide +kernel⟩
    · exact ⟨cr_dict hc, by decide +kernel⟩
end

section
variable {G : GE} {fx B : Hp} {μ : List Addr} {st : Store} {H : Hp} {W : WX} {σ : L2.St}
theorem ints_rep : ∀ {ds : List D} {vs : List V} {ns : List Int}, RepL G B μ ds vs → intsOf ds = some ns → vs = ns.map V.int
  | [], vs, ns, r, e => by
    have := r.nil_inv; subst this
    simp [intsOf] at e; subst e; rfl
  | d :: ds, vs, ns, r, e => by
    obtain ⟨v, ws, ev, h1, h2⟩ := r.cons_inv
    subst ev
    cases d with
    | int i =>
      obtain ⟨ms, e1, e2⟩ := Option.map_eq_some_iff.mp (show (intsOf ds).map (i :: ·) = some ns from e)
      subst e2
      cases h1
      rw [ints_rep h2 e1]; rfl
    | _ => cases e
theorem strs_rep : ∀ {ds : List D} {vs : List V} {ns : List Str}, RepL G B μ ds vs → strsOf ds = some ns → vs = ns.map V.str
  | [], vs, ns, r, e => by
    have := r.nil_inv; subst this
    simp [strsOf] at e; subst e; rfl
  | d :: ds, vs, ns, r, e => by
    obtain ⟨v, ws, ev, h1, h2⟩ := r.cons_inv
    subst ev
    cases d with
    | str i =>
      obtain ⟨ms, e1, e2⟩ := Option.map_eq_some_iff.mp (show (strsOf ds).map (i :: ·) = some ns from e)
      subst e2
      cases h1
      rw [strs_rep h2 e1]; rfl
    | _ => cases e
theorem bls_rep : ∀ {ds : List D} {vs : List V} {ns : List Bool}, RepL G B μ ds vs → blsOf ds = some ns → vs = ns.map V.bl
  | [], vs, ns, r, e => by
    have := r.nil_inv; subst this
    simp [blsOf] at e; subst e; rfl
  | d :: ds, vs, ns, r, e => by
    obtain ⟨v, ws, ev, h1, h2⟩ := r.cons_inv
    subst ev
    cases d with
    | bl i =>
      obtain ⟨ms, e1, e2⟩ := Option.map_eq_some_iff.mp (show (blsOf ds).map (i :: ·) = some ns from e)
      subst e2
      cases h1
      rw [bls_rep h2 e1]; rfl
    | _ => cases e
theorem keyD_rep (k : Key) : Rep G B μ (keyD k) (kV k) := by cases k <;> constructor
theorem keysL_rep : ∀ {kd : List (Key × D)} {ks : List (Key × V)}, RepP G B μ kd ks → RepL G B μ (kd.map fun kv => keyD kv.1) (ks.map fun kv => kV kv.1)
  | [], ks, r => by have := r.nil_inv; subst this; exact .nil
  | p :: kd, ks, r => by
    obtain ⟨v, ws, e, h1, h2⟩ := r.cons_inv
    subst e
    exact .cons (keyD_rep _) (keysL_rep h2)
theorem pairs_rep : ∀ {ds : List D} {vs : List V} {kd : List (Key × D)}, RepL G B μ ds vs → Fg.pairsOf ds = some kd →
    ∃ (ps : List Addr) (ks : List (Key × V)), vs = ps.map V.ref ∧ Paired (fun p kv => SqT G.K B p [kV kv.1, kv.2]) ps ks ∧ RepP G B μ kd ks
  | [], vs, kd, r, e => by
    have := r.nil_inv; subst this
    simp [Fg.pairsOf] at e; subst e
    exact ⟨[], [], rfl, .nil, .nil⟩
  | d :: ds, vs, kd, r, e => by
    obtain ⟨v, ws, ev, h1, h2⟩ := r.cons_inv
    subst ev
    cases d with
    | tup xs =>
      match xs, e with
      | [k, x], e =>
        simp only [Fg.pairsOf] at e
        split at e
        · rename_i q rr e1 e2
          cases e
          obtain ⟨ps, ks, e3, pp, rp⟩ := pairs_rep h2 e2
          subst e3
          cases h1 with
          | tup hb l qq =>
            obtain ⟨v1, w1, ew, g1, g2⟩ := RepL.cons_inv (G := G) (B := B) (μ := μ) ⟨l, qq⟩
            obtain ⟨v2, w2, ew2, g3, g4⟩ := g2.cons_inv
            have := g4.nil_inv; subst this; subst ew2; subst ew
            have := key_rep g1 e1; subst this
            exact ⟨_ :: ps, (q, v2) :: ks, rfl, .cons (.of hb) pp, .cons g3 rp⟩
        · cases e
      | [], e => cases e
      | [_], e => cases e
      | _ :: _ :: _ :: _, e => cases e
    | _ => cases e
theorem merge_rep : ∀ {more : List (Key × D)} {mv : List (Key × V)} {kd : List (Key × D)} {ks : List (Key × V)}, RepP G B μ more mv → RepP G B μ kd ks → RepP G B μ (mergeD kd more) (mergeK ks mv)
  | [], mv, kd, ks, r, q => by have := r.nil_inv; subst this; exact q
  | p :: more, mv, kd, ks, r, q => by
    obtain ⟨v, ws, e, h1, h2⟩ := r.cons_inv
    subst e
    show RepP G B μ (mergeD (setK kd p.1 p.2) more) (mergeK (putK ks p.1 v) ws)
    exact merge_rep h2 (q.put p.1 h1)
theorem two_rep {a b : D} {vs : List V} (r : RepL G B μ [a, b] vs) : ∃ x y, vs = [x, y] ∧ Rep G B μ a x ∧ Rep G B μ b y := by
  obtain ⟨x, w, e, h1, h2⟩ := r.cons_inv
  obtain ⟨y, w2, e2, h3, h4⟩ := h2.cons_inv
  have := h4.nil_inv
  subst this; subst e2; subst e
  exact ⟨x, y, rfl, h1, h3⟩
theorem one_rep {a : D} {vs : List V} (r : RepL G B μ [a] vs) : ∃ x, vs = [x] ∧ Rep G B μ a x := by
  obtain ⟨x, w, e, h1, h2⟩ := r.cons_inv
  have := h2.nil_inv
  subst this; subst e
  exact ⟨x, rfl, h1⟩
theorem blt_end {f : String} {c : Bool} {as : List D} {vs : List V} {d : D} {Q : VK} (s : SR G fx B μ st H) (r : RepL G B μ as vs) (e : bltV st f as = some d) (h : End G (PD G) fx B μ W σ (newR c d st) Q) : rBlt G.K f vs H Q := by
  have fint : ∀ (i : Int), d = .int i → Q (.int i) H := fun i ed => by subst ed; exact newR_ok h s (.int _) (by simp) (by simp)
  have fstr : ∀ (i : Str), d = .str i → Q (.str i) H := fun i ed => by subst ed; exact newR_ok h s (.str _) (by simp) (by simp)
  have fbl : ∀ (i : Bool), d = .bl i → Q (.bl i) H := fun i ed => by subst ed; exact newR_ok h s (.bl _) (by simp) (by simp)
  unfold bltV at e
  split at e
  · -- len
    obtain ⟨x, ex, rx⟩ := one_rep r
    subst ex
    split at e
    · rename_i xs hv; cases e
      obtain ⟨a, vs, e1, h1, h2⟩ := view_lst_inv s rx hv
      subst e1
      exact .inl ⟨_, _, rfl, .inl ⟨vs, .of h1, rfl⟩, by rw [← h2.1]; exact fint _ rfl⟩
    · rename_i xs hv; cases e
      obtain ⟨a, vs, e1, h1, h2⟩ := view_tup_inv s rx hv
      subst e1
      exact .inl ⟨_, _, rfl, .inr ⟨vs, .of h1, rfl⟩, by rw [← h2.1]; exact fint _ rfl⟩
    · rename_i x' hv
      split at e
      · cases e
        have := view_str_inv s rx hv
        subst this
        exact .inl ⟨_, _, rfl, ⟨‹_›, rfl⟩, fint _ rfl⟩
      · cases e
    · rename_i kvs hv; cases e
      obtain ⟨a, vs, e1, h1, h2⟩ := view_dk_inv s rx hv
      subst e1
      exact .inr ⟨_, vs, rfl, h1, by rw [← h2.length]; exact fint _ rfl⟩
    · rename_i xs hv; cases e
      obtain ⟨a, vs, e1, h1, h2⟩ := view_scr_inv s rx hv
      subst e1
      exact .inl ⟨_, _, rfl, .inl ⟨vs, h1, rfl⟩, by rw [← h2.1]; exact fint _ rfl⟩
    · cases e
  · obtain ⟨x, ex, rx⟩ := one_rep r
    subst ex; cases e; cases rx
    exact .inl (.inl ⟨_, rfl, fint _ rfl⟩)
  · obtain ⟨x, ex, rx⟩ := one_rep r
    subst ex; cases e; cases rx
    exact .inl (.inr ⟨_, rfl, fint _ rfl⟩)
  · obtain ⟨x, ex, rx⟩ := one_rep r
    subst ex
    split at e
    · split at e
      · cases e; cases rx
        exact .inr ⟨_, _, rfl, ‹_›, ‹_›, fint _ rfl⟩
      · cases e
    · cases e
  · obtain ⟨x, ex, rx⟩ := one_rep r
    subst ex; cases e; cases rx
    exact ⟨_, rfl, fint _ rfl⟩
  · obtain ⟨x, ex, rx⟩ := one_rep r
    subst ex
    split at e
    · cases e; cases rx
      exact .inl ⟨_, rfl, ‹_›, fstr _ rfl⟩
    · cases e
  · obtain ⟨x, ex, rx⟩ := one_rep r
    subst ex
    split at e
    · cases e; cases rx
      exact .inr ⟨_, rfl, fstr _ rfl⟩
    · cases e
  · obtain ⟨x, ex, rx⟩ := one_rep r
    subst ex
    split at e
    · cases e; cases rx
      exact .inl ⟨_, rfl, ‹_›, fstr _ rfl⟩
    · cases e
  · obtain ⟨x, ex, rx⟩ := one_rep r
    subst ex
    split at e
    · cases e; cases rx
      exact .inr (.inl ⟨_, rfl, ‹_›, fstr _ rfl⟩)
    · cases e
  · obtain ⟨x, ex, rx⟩ := one_rep r
    subst ex; cases e; cases rx
    exact .inr (.inr (.inl ⟨_, rfl, fstr _ rfl⟩))
  · obtain ⟨x, ex, rx⟩ := one_rep r
    subst ex; cases e; cases rx
    exact .inr (.inr (.inr ⟨rfl, fstr _ rfl⟩))
  · obtain ⟨x, y, ex, rx, ry⟩ := two_rep r
    subst ex; cases e; cases rx; cases ry
    exact ⟨_, _, rfl, fint _ rfl⟩
  · obtain ⟨x, y, ex, rx, ry⟩ := two_rep r
    subst ex; cases e; cases rx; cases ry
    exact ⟨_, _, rfl, fint _ rfl⟩
  · -- sum
    obtain ⟨x, ex, rx⟩ := one_rep r
    subst ex
    split at e
    · rename_i xs hv
      obtain ⟨ns, e1, e2⟩ := Option.map_eq_some_iff.mp e
      obtain ⟨a, vs, e3, h1, h2⟩ := view_lst_inv s rx hv
      have := ints_rep h2 e1
      subst this; subst e3
      exact ⟨a, ns, rfl, .of h1, fint _ e2.symm⟩
    · cases e
  · obtain ⟨x, ex, rx⟩ := one_rep r
    subst ex
    split at e
    · rename_i xs hv
      obtain ⟨ns, e1, e2⟩ := Option.map_eq_some_iff.mp e
      obtain ⟨a, vs, e3, h1, h2⟩ := view_lst_inv s rx hv
      have := bls_rep h2 e1
      subst this; subst e3
      exact ⟨a, ns, rfl, .of h1, fbl _ e2.symm⟩
    · cases e
  · obtain ⟨x, ex, rx⟩ := one_rep r
    subst ex
    split at e
    · rename_i xs hv
      obtain ⟨ns, e1, e2⟩ := Option.map_eq_some_iff.mp e
      obtain ⟨a, vs, e3, h1, h2⟩ := view_lst_inv s rx hv
      have := bls_rep h2 e1
      subst this; subst e3
      exact ⟨a, ns, rfl, .of h1, fbl _ e2.symm⟩
    · cases e
  · -- list
    obtain ⟨x, ex, rx⟩ := one_rep r
    subst ex
    split at e
    · rename_i xs hv; cases e
      obtain ⟨a, vs, e1, h1, h2⟩ := view_lst_inv s rx hv
      subst e1
      exact .inl ⟨a, vs, rfl, .inl (.of h1), (newR_end h).alloc s (.lst h2)⟩
    · rename_i xs hv; cases e
      obtain ⟨a, vs, e1, h1, h2⟩ := view_tup_inv s rx hv
      subst e1
      exact .inl ⟨a, vs, rfl, .inr (.of h1), (newR_end h).alloc s (.lst h2)⟩
    · rename_i kvs hv; cases e
      obtain ⟨a, vs, e1, h1, h2⟩ := view_dk_inv s rx hv
      subst e1
      exact .inr ⟨a, vs, rfl, h1, (newR_end h).alloc s (.lst (keysL_rep h2))⟩
    · cases e
  · -- tuple
    obtain ⟨x, ex, rx⟩ := one_rep r
    subst ex
    split at e
    · rename_i xs hv; cases e
      obtain ⟨a, vs, e1, h1, h2⟩ := view_lst_inv s rx hv
      subst e1
      exact ⟨a, vs, rfl, .inl ⟨.of h1, (newR_flat h (by simp) (by simp)).tup s h2⟩⟩
    · rename_i xs hv; cases e
      obtain ⟨a, vs, e1, h1, h2⟩ := view_tup_inv s rx hv
      have eo := view_tup_eq s rx hv
      subst e1
      refine ⟨a, vs, rfl, .inr ⟨.of h1, newR_ok h s ?_ (by simp) (by simp)⟩⟩
      rw [← eo]; exact rx
    · cases e
  · -- dict
    obtain ⟨x, ex, rx⟩ := one_rep r
    subst ex
    split at e
    · rename_i kvs hv; cases e
      obtain ⟨a, vs, e1, h1, h2⟩ := view_dk_inv s rx hv
      subst e1
      exact .inr ⟨a, vs, rfl, h1, (newR_end h).alloc s (.dk h2)⟩
    · rename_i xs hv
      split at e
      · obtain ⟨kd, e1, e2⟩ := Option.map_eq_some_iff.mp e
        obtain ⟨a, vs, e3, h1, h2⟩ := view_lst_inv s rx hv
        obtain ⟨ps, ks, e4, pp, rp⟩ := pairs_rep h2 e1
        subst e4; subst e3; subst e2
        refine .inl ⟨a, ps, ks, rfl, .of h1, Paired.mapP pp fun p kv q => Same.sqT s.sub q, (newR_end h).alloc s (.dk (merge_rep rp .nil))⟩
      · cases e
    · cases e
  · cases e
end
end Fg

set_option maxHeartbeats 4000000
/-! Fg3: isinstance, methods of built-in types. -/
namespace Fg
open PySem PySem.Spec PyProof.Rows L2

/-! ### isinstance -/
/-- a type by its name, as the interpreter's value -/
def TN (G : GE) : TyK → Value → Prop
  | (true, n), u => ∃ a, G.gl n = some a ∧ u = .ref a
  | (false, n), u => u = .type n
/-- what a class of one's own is, for isinstance -/
structure ClsT (K : PySem.W.Frag) (C : Addr) : Prop where
  cls : Cls K C
  ha : PySem.W.findIn K (.ref C) "__class__" = some (some (.builtin "object.__class__"))
  hn : PySem.W.specialIn K (.builtin "object.__class__") "__get__" = some (some (.builtin "getset_descriptor.__get__"))
  htk : PySem.W.takesIn K (.builtin "object.__class__") = some true
  hm : PySem.W.mroIn K C (.type "object") = some true
section
variable {G : GE} {fx B : Hp} {μ : List Addr} {st : Store} {H : Hp} {W : WX} {σ : L2.St}
theorem tyx_end {d : D} {x : V} {t : TyK} (hc : ∀ c C, G.cl c = some C → ClsT G.K C ∧ G.gl c = some C) (s : SR G fx B μ st H) (r : Rep G B μ d x) (e : tyN (view st d) = some t) : ∃ u, TyX G.K H x u ∧ TN G t u := by
  generalize hv : view st d = c at e
  cases c with
  | non => cases e; have := view_non_inv s r hv; subst this; exact ⟨_, .base .non, rfl⟩
  | bl b => cases e; have := view_bl_inv s r hv; subst this; exact ⟨_, .base (.bl b), rfl⟩
  | int b => cases e; have := view_int_inv s r hv; subst this; exact ⟨_, .base (.int b), rfl⟩
  | str b => cases e; have := view_str_inv s r hv; subst this; exact ⟨_, .base (.str b), rfl⟩
  | lst xs =>
    cases e
    obtain ⟨a, vs, e1, h1, _⟩ := view_lst_inv s r hv
    subst e1
    exact ⟨_, .base (.lst h1), rfl⟩
  | tup xs =>
    cases e
    obtain ⟨a, vs, e1, h1, _⟩ := view_tup_inv s r hv
    subst e1
    exact ⟨_, .base (.tup h1), rfl⟩
  | dk xs =>
    cases e
    obtain ⟨a, vs, e1, h1, _⟩ := view_dk_inv s r hv
    subst e1
    rcases h1 with h1 | ⟨o, h1⟩
    · exact ⟨_, .base (.dK h1), rfl⟩
    · exact ⟨_, .fDict h1, rfl⟩
  | obj c fs =>
    cases e
    obtain ⟨a, C, dx, vs, e1, h1, h2, _⟩ := view_obj_inv s r hv
    subst e1
    obtain ⟨q, g⟩ := hc c C h2
    exact ⟨_, .base (.ins h1 q.cls q.ha q.hn q.htk q.hm), C, g, rfl⟩
  | _ => cases e
theorem cls_end {d : D} {x : V} {t : TyK} (r : Rep G B μ d x) (e : clN d = some t) : ∃ u, ClsV x u ∧ TN G t u := by
  cases d with
  | ty n => cases e; cases r; exact ⟨_, .ty n, rfl⟩
  | gl n => cases e; cases r with | gl h => exact ⟨_, .own _, _, h, rfl⟩
  | _ => cases e
theorem clss_end : ∀ {ds : List D} {vs : List V} {ts : List TyK}, RepL G B μ ds vs → clNs ds = some ts → ∃ us, Paired ClsV vs us ∧ Paired (TN G) ts us
  | [], vs, ts, r, e => by
    have := r.nil_inv; subst this
    cases e; exact ⟨[], .nil, .nil⟩
  | d :: ds, vs, ts, r, e => by
    obtain ⟨v, ws, ev, h1, h2⟩ := r.cons_inv
    subst ev
    simp only [clNs] at e
    split at e
    · rename_i n ns e1 e2
      cases e
      obtain ⟨u, c1, c2⟩ := cls_end h1 e1
      obtain ⟨us, p1, p2⟩ := clss_end h2 e2
      exact ⟨u :: us, .cons c1 p1, .cons c2 p2⟩
    · cases e
def KitOk (G : GE) (kit : TyK → TyK → Option Bool) : Prop := ∀ a b r, kit a b = some r → ∀ u w, TN G a u → TN G b w → PySem.W.kitOne G.K u w = some r
theorem kitL_end {kit : TyK → TyK → Option Bool} (hk : KitOk G kit) {t : TyK} {u : Value} (ht : TN G t u) : ∀ {cs : List TyK} {us : List Value} {b : Bool}, Paired (TN G) cs us → kitL kit t cs = some b → PySem.W.kitAny G.K u us = some b
  | _, _, b, .nil, e => by cases e; rfl
  | c :: cs, w :: us, b, .cons hc p, e => by
    simp only [kitL] at e
    split at e
    · rename_i e1
      cases e
      exact kitAny_cons (hk _ _ _ e1 u w ht hc) (fun h => nomatch h) fun _ => rfl
    · rename_i e1
      exact kitAny_cons (hk _ _ _ e1 u w ht hc) (fun _ => kitL_end hk ht p e) fun h => nomatch h
    · cases e
def rIsi2 (K : PySem.W.Frag) : RC := fun xs H Q => rIsi K xs H Q ∨ rIsiT K xs H Q
theorem isi_end {kit : TyK → TyK → Option Bool} (hk : KitOk G kit) (hc : ∀ c C, G.cl c = some C → ClsT G.K C ∧ G.gl c = some C) {as : List D} {vs : List V} {b : Bool} {Q : VK} (s : SR G fx B μ st H) (r : RepL G B μ as vs) (e : isiV kit st as = some b) (h : Q (.bl b) H) :
    rIsi2 G.K vs H Q := by
  unfold isiV at e
  split at e
  · rename_i x c
    obtain ⟨v, w, ev, rv, rw'⟩ := two_rep r
    subst ev
    split at e
    · rename_i t ht
      obtain ⟨u, ty, tn⟩ := tyx_end hc s rv ht
      split at e
      · rename_i cs
        split at e
        · rename_i ns hn
          cases rw' with
          | tup hb l qq =>
            obtain ⟨us, p1, p2⟩ := clss_end (G := G) (B := B) (μ := μ) ⟨l, qq⟩ hn
            exact .inr ⟨v, _, _, u, us, b, rfl, s.sub _ _ hb, p1, ty, kitL_end hk tn p2 e, h⟩
        · cases e
      · split at e
        · rename_i n hn
          obtain ⟨w', c1, c2⟩ := cls_end rw' hn
          exact .inl ⟨v, w, u, w', b, rfl, c1, ty, hk _ _ _ e u w' tn c2, h⟩
        · cases e
    · cases e
  · cases e
end

/-! ### methods of built-in types -/
/-- the value is of that type (a locked dict too) -/
def tyW (K : PySem.W.Frag) (T : String) (x : V) (H : Hp) : Prop := tyV K T x H ∨ (T = "dict" ∧ ∃ p, x = .ref p ∧ IsD H p)
section
variable {X : Cx}
theorem tyW_is {pins : List (Addr × Obj)} {σ : L2.St} {H : Hp} {s : Shared} {T : String} {x : V} {v : Value} (I : Inv X pins σ H s) (r : RelV x v) (ty : tyW X.K T x H) : s.TypeIs v T ∧ ∀ a, v = .ref a → ∃ ob, s.heap.get? a = some ob ∧ ob.dict = none := by
  rcases ty with ty | ⟨e, p, ex, d⟩
  · exact tyV_is I r ty
  · subst e; subst ex; cases r
    rcases d with ⟨kvs, d⟩ | ⟨kvs, d⟩
    · obtain ⟨_, _, vs, _, ob, es, ep, h1, h2, _⟩ := dk_rd I.hok d
      refine ⟨⟨ob, h1, h2.1⟩, fun a e => ?_⟩
      cases e; exact ⟨ob, h1, h2.2.1⟩
    · obtain ⟨_, _, xs, _, ob, es, ep, h1, h2, _⟩ := dt_rd I.hok d
      refine ⟨⟨ob, h1, h2.1⟩, fun a e => ?_⟩
      cases e; exact ⟨ob, h1, h2.2.1⟩
def tBMW (K : PySem.W.Frag) (T : String) (r : V → List V → Hp → VK → Prop) (to : TE) (t : TA) : TE := fun σ H Q => to σ H fun x H1 => tyW K T x H1 ∧ t σ H1 fun xs H2 => r x xs H2 Q
variable {o e : Expr} {es : List Expr} {to : TE} {t : TA} {name : Str} {apos cpos : Pos} {T id : String} {r : V → List V → Hp → VK → Prop}
theorem pe_bmW0 (pa : PlainAttrs T) (slot : Slot T name id) (hty : typeOf (.builtin id) = pure (.type "method_descriptor")) (hm : MtR X id r) (ho : PE X o to) (hbase : attributeBase o name X.env (eval o X.env) = eval o X.env) (hline : (apos.endLine == cpos.line) = true) :
    PE X (.Call (.Attribute o name apos) [] [] cpos) (tBMW X.K T r to tNil) :=
  ⟨fun pins s σ H Q I h => wpAny_Call_method0_late hbase hline (thn (ho.run pins s σ H _ I h) fun v s1 ⟨x, H1, I1, r1, ty, q1⟩ =>
    ⟨T, id, pa, slot, hty, (tyW_is I1 r1 ty).1, (tyW_is I1 r1 ty).2, Calls.callWith_builtin rfl (PySem.evalArgs_none (hm pins s1 σ H1 x [] v [] Q I1 r1 .nil q1))⟩)⟩
theorem pe_bmW (pa : PlainAttrs T) (slot : Slot T name id) (hty : typeOf (.builtin id) = pure (.type "method_descriptor")) (hm : MtR X id r) (ho : PE X o to) (ha : PA X (e :: es) t) (hbase : attributeBase o name X.env (eval o X.env) = eval o X.env)
    (hfew : ((backTo cpos (starEach (e :: es) X.env)).all (fun x => !x.1) && (backToKw cpos (keywordEach [] X.env)).all (fun x => x.1.isSome) && decide ((e :: es).length + ([] : List Keyword).length + (if ([] : List Keyword).isEmpty then 0 else 1) < 30)) = true)
    (hline : (apos.endLine == cpos.line) = true) (hs : starEach (e :: es) X.env = (false, eval e X.env) :: starEach es X.env) (hplain : (backTo cpos (starEach es X.env)).any (·.1) = false) :
    PE X (.Call (.Attribute o name apos) (e :: es) [] cpos) (tBMW X.K T r to t) :=
  ⟨fun pins s σ H Q I h => wpAny_Call_method_late hbase hfew hline rfl (thn (ho.run pins s σ H _ I h) fun v s1 ⟨x, H1, I1, r1, ty, q1⟩ =>
    ⟨T, id, pa, slot, hty, (tyW_is I1 r1 ty).1, (tyW_is I1 r1 ty).2, by
      have hA := ha.run cpos pins s1 σ H1 _ I1 q1
      rw [hs] at hA ⊢
      refine Calls.callWith_builtin (by show (false || (backTo cpos (starEach es X.env)).any (·.1)) = false; rw [hplain]; rfl) (Calls.evalArgs_plain (thn hA fun us s2 ⟨vs, H2, I2, r2, q2⟩ => hm pins s2 σ H2 x vs v us Q I2 r1 r2 q2))⟩)⟩
/-- d.get -/
def rGet : V → List V → Hp → VK → Prop := fun x xs H Q => (∃ a y o, x = .ref a ∧ xs = [y] ∧ DGet H a y o ∧ Q (o.getD .non) H) ∨ ∃ a y z o, x = .ref a ∧ xs = [y, z] ∧ DGet H a y o ∧ Q (o.getD z) H
theorem mt_get (hu : X.A.units + 1 < cLine) : MtR X "dict.get" rGet := fun pins s σ H x xs v us Q I rx rs h => by
  rcases h with ⟨a, y, o, ex, exs, g, q⟩ | ⟨a, y, z, o, ex, exs, g, q⟩
  · subst ex; subst exs; cases rx
    obtain ⟨u, eu, ru⟩ := one_of rs
    subst eu
    exact d_get1 hu I g ru fun w' s' I' r' => ⟨_, H, I', r', q⟩
  · subst ex; subst exs; cases rx
    obtain ⟨u, w, eu, ru, rw'⟩ := vals2 rs
    subst eu
    exact d_get2 hu I g ru rw' fun w' s' I' r' => ⟨_, H, I', r', q⟩
def rPop2 : V → List V → Hp → VK → Prop := fun x xs H Q => rPop x xs H Q ∨ rPopAt x xs H Q
/-- the methods of the evaluator -/
def rBm (K : PySem.W.Frag) (T m : String) : V → List V → Hp → VK → Prop := match T, m with
  | "list", "append" => rAppend | "list", "pop" => rPop2 | "list", "reverse" => rReverse | "list", "extend" => rExtend | "list", "index" => rIndex K
  | "str", "join" => fun x xs H Q => ∃ a p, ∃ ys : List Str, x = .str a ∧ xs = [.ref p] ∧ (SqL K H p (ys.map V.str) ∨ SqT K H p (ys.map V.str)) ∧ (ys.map (·.length)).sum + ys.length * a.length ≤ 16777216 ∧ Q (.str (Txt.join a ys)) H
  | "str", "split" => fun x xs H Q => ∃ a b, x = .str a ∧ xs = [.str b] ∧ (b.length == 0) = false ∧ a.length + 2 ≤ sizeLine ∧ rNewStrs (Txt.split a b) H Q
  | "dict", "get" => rGet
  | _, _ => fun _ _ _ _ => False
/-- what a method's rule wants of its type -/
structure BmR (X : Cx) (T m : String) : Prop where
  ex : ∃ id, PlainAttrs T ∧ Slot T (Str.ofString m) id ∧ typeOf (.builtin id) = pure (.type "method_descriptor") ∧ MtR X id (rBm X.K T m)
theorem bmR_list (m : String) (h : bmOk "list" m = true) : BmR X "list" m := by
  simp only [bmOk, Bool.or_eq_true, beq_iff_eq] at h
  rcases h with (((h | h) | h) | h) | h <;> subst h
  · exact ⟨_, PySem.F.plainAttrs_list, PySem.F.slot_list_append, PySem.F.type_list_append, mt_append⟩
  · exact ⟨_, PySem.F.plainAttrs_list, PySem.F.slot_list_pop, PySem.F.type_list_pop, MtR.or mt_pop mt_popAt⟩
  · exact ⟨_, PySem.F.plainAttrs_list, PySem.F.slot_list_reverse, PySem.F.type_list_reverse, mt_reverse⟩
  · exact ⟨_, PySem.F.plainAttrs_list, PySem.F.slot_list_extend, PySem.F.type_list_extend, mt_extend⟩
  · exact ⟨_, PySem.F.plainAttrs_list, PySem.F.slot_list_index, PySem.F.type_list_index, mt_index⟩
theorem bmR_str (m : String) (h : bmOk "str" m = true) : BmR X "str" m := by
  simp only [bmOk, Bool.or_eq_true, beq_iff_eq] at h
  rcases h with h | h <;> subst h
  · exact ⟨_, PySem.F.plainAttrs_str, PySem.F.slot_str_join, PySem.F.type_str_join, mt_join⟩
  · exact ⟨_, PySem.F.plainAttrs_str, PySem.F.slot_str_split, PySem.F.type_str_split, mt_split⟩
theorem bmR_dict (hu : X.A.units + 1 < cLine) (m : String) (h : bmOk "dict" m = true) : BmR X "dict" m := by
  simp only [bmOk, beq_iff_eq] at h
  subst h
  exact ⟨_, PySem.F.plainAttrs_dict, PySem.F.slot_dict_get, PySem.F.type_dict_get, mt_get hu⟩
end
end Fg

set_option maxHeartbeats 4000000
/-! Fg4: methods of built-in types, what their ends give. -/
namespace Fg
open PySem PySem.Spec PyProof.Rows L2

section
variable {G : GE} {fx B : Hp} {μ : List Addr} {st : Store} {H : Hp} {W : WX} {σ : L2.St}
theorem tyW_end {d : D} {x : V} (s : SR G fx B μ st H) (r : Rep G B μ d x) (h : kd (view st d) = .lst ∨ kd (view st d) = .str ∨ kd (view st d) = .dk ∨ kd (view st d) = .dt) : tyW G.K (tyOf (kd (view st d))) x H := by
  generalize hv : view st d = c at h
  cases c with
  | lst xs =>
    obtain ⟨a, vs, e1, h1, _⟩ := view_lst_inv s r hv
    subst e1; exact .inl (.inl ⟨rfl, vs, .of h1⟩)
  | str y => have := view_str_inv s r hv; subst this; exact .inl rfl
  | dk xs =>
    obtain ⟨a, vs, e1, h1, _⟩ := view_dk_inv s r hv
    exact .inr ⟨rfl, a, e1, .inl ⟨vs, h1⟩⟩
  | dt xs =>
    obtain ⟨a, vs, e1, h1, _⟩ := view_dt_inv s r hv
    exact .inr ⟨rfl, a, e1, .inr ⟨vs, h1⟩⟩
  | _ => simp [kd] at h
theorem ref_cell (s : SR G fx B μ st H) {n : Nat} {x : V} {xs : List D} (r : Rep G B μ (.ref n) x) (e : view st (.ref n) = .lst xs) : ∃ a vs, x = .ref a ∧ μ[n]? = some a ∧ H a = some (.lst vs) ∧ RepL G B μ xs vs := by
  obtain ⟨a, o, h1, h2, h3, h4, h5⟩ := viewRef s r e (by intro h; cases h)
  cases h5 with
  | lst q => exact ⟨a, _, h1, h2, h4, q⟩
/-- a cell's list turned -/
theorem cell_turn {n : Nat} {a : Addr} {ys : List D} {ws : List V} {v : D} {y : V} {Q : VK} (s : SR G fx B μ st H) (hn : μ[n]? = some a) (ry : RepL G B μ ys ws) (rv : Rep G B μ v y) (h : End G (PD G) fx B μ W σ (.ok v (st.set n (.lst ys))) Q) : Q y (upd H a (.lst ws)) :=
  h B μ _ y (Same.refl _) (Pre.refl _) (s.write hn (.lst ry)) rv
theorem RepL.dropLast {ds : List D} {vs : List V} (r : RepL G B μ ds vs) : RepL G B μ ds.dropLast vs.dropLast := by
  rw [List.dropLast_eq_take, List.dropLast_eq_take, r.1]; exact r.take _
theorem RepL.eraseIdx {ds : List D} {vs : List V} (r : RepL G B μ ds vs) (k : Nat) : RepL G B μ (ds.eraseIdx k) (vs.eraseIdx k) := by
  rw [List.eraseIdx_eq_take_drop_succ, List.eraseIdx_eq_take_drop_succ]
  exact (r.take _).app (r.drop _)
theorem find_rep {y : D} {u : V} (ry : Rep G B μ y u) (fy : flatD y = true) : ∀ {ds : List D} {vs : List V} {j : Nat}, RepL G B μ ds vs → ds.all flatD = true → (ds.findIdx? fun z => eqF z y) = some j →
    ∃ z, vs[j]? = some z ∧ eqV z u = true ∧ ∀ (m : Nat) (z' : V), m < j → vs[m]? = some z' → eqV z' u = false
  | [], vs, j, r, _, e => by simp at e
  | d :: ds, vs, j, r, f, e => by
    obtain ⟨v, ws, ev, h1, h2⟩ := r.cons_inv
    subst ev
    simp only [List.all_cons, Bool.and_eq_true] at f
    rw [List.findIdx?_cons] at e
    have eq1 := eqF_rep h1 ry f.1 fy
    by_cases hd : eqF d y = true
    · rw [if_pos hd] at e
      cases e
      exact ⟨v, rfl, by rw [eq1]; exact hd, fun m z' hm => absurd hm (Nat.not_lt_zero _)⟩
    · rw [if_neg hd] at e
      obtain ⟨i, e1, e2⟩ := Option.map_eq_some_iff.mp e
      subst e2
      obtain ⟨z, g1, g2, g3⟩ := find_rep ry fy h2 f.2 e1
      refine ⟨z, by simpa using g1, g2, fun m z' hm hz => ?_⟩
      cases m with
      | zero => simp at hz; subst hz; rw [eq1]; simpa using hd
      | succ m => exact g3 m z' (by omega) (by simpa using hz)
theorem bmR_old {m : String} {c : Bool} {x d : D} {v : V} {Q : VK} (hm : bmNew m = false) (h : End G (PD G) fx B μ W σ (bmR m c x st (some (d, none))) Q) (s : SR G fx B μ st H) (r : Rep G B μ d v) : Q v H := by
  unfold bmR at h
  rw [hm] at h
  cases c with
  | true => exact (show False from h).elim
  | false => exact End.ok (P := PD G) (show End G (PD G) fx B μ W σ (.ok d st) Q from h) s r
theorem bm_end {c : Bool} {m : String} {x : D} {v : V} {as : List D} {vs : List V} {Q : VK} (s : SR G fx B μ st H) (rx : Rep G B μ x v) (r : RepL G B μ as vs) (h : End G (PD G) fx B μ W σ (bmR m c x st (bmV st m x as)) Q) :
    rBm G.K (tyOf (kd (view st x))) m v vs H Q := by
  generalize hb : bmV st m x as = b at h
  unfold bmV at hb
  split at hb
  · -- append
    rename_i xs y hv
    rw [hv]
    split at hb
    · subst hb
      cases x with
      | ref n =>
        obtain ⟨a, ws, e1, hn, h1, h2⟩ := ref_cell s rx hv
        obtain ⟨u, eu, ru⟩ := one_rep r
        subst eu; subst e1
        exact ⟨a, ws, u, rfl, rfl, h1, by rw [← h2.1]; assumption, cell_turn s hn (h2.app (.cons ru .nil)) .non h⟩
      | _ => exact (show False from h).elim
    · subst hb; exact (show False from h).elim
  · -- pop()
    rename_i xs hv
    rw [hv]
    cases hl : xs.getLast? with
    | none => rw [hl] at hb; subst hb; exact (show False from h).elim
    | some y =>
      rw [hl] at hb; subst hb
      cases x with
      | ref n =>
        obtain ⟨a, ws, e1, hn, h1, h2⟩ := ref_cell s rx hv
        have := r.nil_inv; subst this; subst e1
        rw [List.getLast?_eq_getElem?] at hl
        obtain ⟨w, hw, rw'⟩ := h2.get hl
        exact .inl ⟨a, ws, w, rfl, rfl, h1, by rw [← h2.1]; exact hw, cell_turn s hn h2.dropLast rw' h⟩
      | _ => exact (show False from h).elim
  · -- pop(i)
    rename_i xs i hv
    rw [hv]
    split at hb
    · rename_i hi
      cases hx : ixN xs.length i with
      | none => rw [hx] at hb; subst hb; exact (show False from h).elim
      | some k =>
        rw [hx] at hb
        cases hy : xs[k]? with
        | none => simp only [hy] at hb; subst hb; exact (show False from h).elim
        | some y =>
          simp only [hy] at hb; subst hb
          cases x with
          | ref n =>
            obtain ⟨a, ws, e1, hn, h1, h2⟩ := ref_cell s rx hv
            obtain ⟨u, eu, ru⟩ := one_rep r
            subst eu; subst e1; cases ru
            obtain ⟨w, hw, rw'⟩ := h2.get hy
            obtain ⟨q1, _⟩ := ixN_seq hx
            exact .inr ⟨a, ws, i, k, w, rfl, rfl, h1, hi.1, hi.2, by rw [← h2.1]; exact q1, hw, cell_turn s hn (h2.eraseIdx k) rw' h⟩
          | _ => exact (show False from h).elim
    · subst hb; exact (show False from h).elim
  · -- reverse
    rename_i xs hv
    rw [hv]
    subst hb
    cases x with
    | ref n =>
      obtain ⟨a, ws, e1, hn, h1, h2⟩ := ref_cell s rx hv
      have := r.nil_inv; subst this; subst e1
      exact ⟨a, ws, rfl, rfl, h1, cell_turn s hn h2.rev .non h⟩
    | _ => exact (show False from h).elim
  · -- extend
    rename_i xs b' hv
    rw [hv]
    split at hb
    · rename_i zs hv2
      split at hb
      · subst hb
        cases x with
        | ref n =>
          obtain ⟨a, ws, e1, hn, h1, h2⟩ := ref_cell s rx hv
          obtain ⟨u, eu, ru⟩ := one_rep r
          subst eu; subst e1
          obtain ⟨a2, ws2, e2, h3, h4⟩ := view_lst_inv s ru hv2
          subst e2
          exact ⟨a, a2, ws, ws2, rfl, rfl, h1, h3, by rw [← h2.1, ← h4.1]; assumption, cell_turn s hn (h2.app h4) .non h⟩
        | _ => exact (show False from h).elim
      · subst hb; exact (show False from h).elim
    · subst hb; exact (show False from h).elim
  · -- index
    rename_i ys y hv
    rw [hv]
    split at hb
    · rename_i hf
      cases hj : (ys.findIdx? fun z => eqF z y) with
      | none => rw [hj] at hb; subst hb; exact (show False from h).elim
      | some j =>
        rw [hj] at hb; subst hb
        obtain ⟨a, ws, e1, h1, h2⟩ := view_lst_inv s rx hv
        obtain ⟨u, eu, ru⟩ := one_rep r
        subst eu; subst e1
        obtain ⟨z, g1, g2, g3⟩ := find_rep ru hf.1 h2 hf.2 hj
        exact ⟨a, ws, u, j, z, rfl, rfl, .of h1, flat_rep ru hf.1, flats_rep h2 hf.2, g1, g2, g3, bmR_old (by decide) h s (.int _)⟩
    · subst hb; exact (show False from h).elim
  · -- join
    rename_i a b' hv
    rw [hv]
    split at hb
    · rename_i xs hs
      split at hb
      · rename_i ys hy
        split at hb
        · subst hb
          have := view_str_inv s rx hv
          subst this
          obtain ⟨u, eu, ru⟩ := one_rep r
          subst eu
          have fin : Q (.str (Txt.join a ys)) H := bmR_old (by decide) h s (.str _)
          unfold seqOf at hs
          split at hs
          · rename_i zs hz
            cases hs
            obtain ⟨p, ws, e1, h1, h2⟩ := view_lst_inv s ru hz
            have := strs_rep h2 hy
            subst this; subst e1
            exact ⟨a, p, ys, rfl, rfl, .inl (.of h1), by assumption, fin⟩
          · rename_i zs hz
            cases hs
            obtain ⟨p, ws, e1, h1, h2⟩ := view_tup_inv s ru hz
            have := strs_rep h2 hy
            subst this; subst e1
            exact ⟨a, p, ys, rfl, rfl, .inr (.of h1), by assumption, fin⟩
          · rename_i zs hz
            cases hs
            obtain ⟨p, ws, e1, h1, h2⟩ := view_ktup_inv s ru hz
            have := strs_rep h2 hy
            subst this; subst e1
            exact ⟨a, p, ys, rfl, rfl, .inr h1, by assumption, fin⟩
          · rename_i zs hz
            cases hs
            obtain ⟨p, ws, e1, h1, h2⟩ := view_scr_inv s ru hz
            have := strs_rep h2 hy
            subst this; subst e1
            exact ⟨a, p, ys, rfl, rfl, .inl h1, by assumption, fin⟩
          · cases hs
        · subst hb; exact (show False from h).elim
      · subst hb; exact (show False from h).elim
    · subst hb; exact (show False from h).elim
  · -- split
    rename_i a b' hv
    rw [hv]
    split at hb
    · rename_i hc
      subst hb
      have := view_str_inv s rx hv
      subst this
      obtain ⟨u, eu, ru⟩ := one_rep r
      subst eu; cases ru
      refine ⟨a, b', rfl, rfl, hc.1, hc.2, ?_⟩
      have hr : RepL G B μ ((Txt.split a b').map D.str) ((Txt.split a b').map V.str) := ⟨by simp, fun i d v h1 h2 => by
        rw [List.getElem?_map] at h1 h2
        obtain ⟨z, e1, e2⟩ := Option.map_eq_some_iff.mp h1
        rw [e1] at h2
        cases h2; subst e2; exact .str _⟩
      exact (newR_end (show End G (PD G) fx B μ W σ (newR c _ st) Q from h)).alloc s (.lst hr)
    · subst hb; exact (show False from h).elim
  · -- get(k)
    rename_i k
    cases hd : dGet (view st x) k with
    | none => rw [hd] at hb; subst hb; exact (show False from h).elim
    | some o =>
      rw [hd] at hb; subst hb
      obtain ⟨u, eu, ru⟩ := one_rep r
      subst eu
      obtain ⟨a, ov, e1, g, ro⟩ := dGet_end s rx ru hd
      have hk : tyOf (kd (view st x)) = "dict" := by
        unfold dGet at hd
        split at hd
        · rename_i hv'; rw [hv']; rfl
        · rename_i hv'; rw [hv']; rfl
        · cases hd
      rw [hk]
      have rr : Rep G B μ (o.getD .non) (ov.getD .non) := by
        cases o <;> cases ov <;> first | exact ro.elim | exact .non | exact ro
      refine .inl ⟨a, u, ov, e1, rfl, g, ?_⟩
      exact bmR_old (by decide) h s rr
  · -- get(k, z)
    rename_i k z
    cases hd : dGet (view st x) k with
    | none => rw [hd] at hb; subst hb; exact (show False from h).elim
    | some o =>
      rw [hd] at hb; subst hb
      obtain ⟨u, w, eu, ru, rw'⟩ := two_rep r
      subst eu
      obtain ⟨a, ov, e1, g, ro⟩ := dGet_end s rx ru hd
      have hk : tyOf (kd (view st x)) = "dict" := by
        unfold dGet at hd
        split at hd
        · rename_i hv'; rw [hv']; rfl
        · rename_i hv'; rw [hv']; rfl
        · cases hd
      rw [hk]
      have rr : Rep G B μ (o.getD z) (ov.getD w) := by
        cases o <;> cases ov <;> first | exact ro.elim | exact rw' | exact ro
      refine .inr ⟨a, u, w, ov, e1, rfl, g, ?_⟩
      exact bmR_old (by decide) h s rr
  · subst hb; exact (show False from h).elim
end
end Fg

set_option maxHeartbeats 4000000
/-! Fh: the context, the check of an IR against the text, expressions by construct. -/
namespace Fg
open PySem PySem.Spec PyProof.Rows L2

/-- a def's promise: what its run comes to -/
def spOf (G : GE) (C : Cf) (c f : String) : Sp := fun vs H Q E => ∃ fx B μ st ds, SR G fx B μ st H ∧ RepL G B μ ds vs ∧ End G (PD G) fx B μ (fun cls d _ H' => E cls d H') [] (C.call c f ds st) Q
/-- a def or method that may be called, at level k -/
structure FnX (G : GE) (C : Cf) (k : Nat) (X : Cx) (c f : String) (fa : Addr) : Prop where
  ex : ∃ fd ps, Binds X.K fd ps [] ∧ FnOk X.prog X.w X.K X.mg X.base (L2.CX X.prog X.w) k fa fd ps (spOf G C c f)
  kp : PySem.W.keepIn X.K (.ref fa) = true
def bltNames : List String := ["len", "abs", "repr", "min", "max", "sum", "all", "any", "int", "str", "list", "tuple", "dict", "isinstance", "range", "enumerate", "zip", "sorted", "reversed", "divmod", "bool"]
structure Cxt (G : GE) (C : Cf) (W : WX) (k : Nat) (fl : List String) (X : Cx) : Prop where
  K : X.K = G.K
  calm : X.calm = true
  nd : X.N.Nodup
  room : Room (k + 1) X.A
  tk : Takes X W
  blt : ∀ n ∈ bltNames, X.mg (Str.ofString n) = none
  con : ∀ x d, C.con x = some d → ∃ u v, X.mg (Str.ofString x) = some u ∧ RelV v u ∧ ∀ B μ, Rep G B μ d v
  kit : KitOk G C.kit
  cls : ∀ c a, G.cl c = some a → ClsT G.K a ∧ G.gl c = some a
  fld : ∀ c a f, G.cl c = some a → f ∈ fl → NoAttr G.K a (Str.ofString f)
  fn : ∀ f, C.has "" f = true → ∃ fa, X.mg (Str.ofString f) = some (.ref fa) ∧ FnX G C k X "" f fa
  mt : ∀ c m a, C.has c m = true → G.cl c = some a → ∃ fa, Meth X.K a (Str.ofString m) fa ∧ FnX G C k X c m fa
  mke : ∀ c, C.has c "__init__" = true → ∃ a fa, G.cl c = some a ∧ X.mg (Str.ofString c) = some (.ref a) ∧ Mk X.K a fa ∧ FnX G C k X c "__init__" fa
theorem Cxt.units {G : GE} {C : Cf} {W : WX} {k : Nat} {fl : List String} {X : Cx} (c : Cxt G C W k fl X) : X.A.units + 80 < cLine := by
  have := c.room.un; omega

/-! ### the text's small parts -/
def visB (sc : Scope) (x : Str) : Bool := match sc.names.lookup x with | some .local => true | some .cell => true | some .free => true | _ => false
def locB (sc : Scope) (x : Str) : Bool := match sc.names.lookup x with | some .local => true | _ => false
def glB (sc : Scope) (x : Str) : Bool := match sc.names.lookup x with | some .globalImplicit => true | _ => false
theorem vis_of {sc : Scope} {x : Str} (h : visB sc x = true) : Vis sc x := by
  unfold visB at h; unfold Vis
  split at h <;> simp_all
theorem gl_of {X : Cx} {x : Str} (h : glB X.env.scope x = true) : Gl X x := by
  unfold glB at h
  show X.env.scope.names.lookup x = some .globalImplicit
  split at h <;> simp_all
/-- no name of the interpreter's own -/
def okN (x : Str) : Bool := !(x == ("__debug__" : Str)) && !(x == ("__classdict__" : Str)) && !(x == ("__name__" : Str))
theorem okN_dbg {x : Str} (h : okN x = true) : (x == ("__debug__" : Str)) = false := by
  unfold okN at h; simp only [Bool.and_eq_true, Bool.not_eq_true'] at h; exact h.1.1
theorem okN_cd {x : Str} (h : okN x = true) : (x == ("__classdict__" : Str)) = false := by
  unfold okN at h; simp only [Bool.and_eq_true, Bool.not_eq_true'] at h; exact h.1.2
theorem okN_nm {x : Str} (h : okN x = true) : x ≠ "__name__" := by
  unfold okN at h; simp only [Bool.and_eq_true, Bool.not_eq_true', beq_eq_false_iff_ne] at h; exact h.2
def noStar : Expr → Bool
  | .Starred .. => false | _ => true
/-- an expression without a form of its own as a test, a base, a statement -/
def plainE : Expr → Bool
  | .UnaryOp .Not _ _ => false | .BoolOp .. => false | .IfExp .. => false | .Compare .. => false | _ => true
def baseE : Expr → Bool
  | .Call (.Name ..) [] [] _ => false | _ => true
theorem star_cons {e : Expr} {es : List Expr} {env : Env} (h : noStar e = true) : starEach (e :: es) env = (false, eval e env) :: starEach es env := by
  cases e <;> first | exact Bool.noConfusion h | rfl
theorem star_plain : ∀ {es : List Expr} {env : Env} {pos : Pos}, es.all noStar = true → (backTo pos (starEach es env)).any (·.1) = false
  | [], _, _, _ => rfl
  | e :: es, env, pos, h => by
    simp only [List.all_cons, Bool.and_eq_true] at h
    rw [star_cons h.1]
    have ih := star_plain (env := env) (pos := pos) h.2
    unfold backTo at ih ⊢
    simp only [List.map_cons, List.any_cons, Bool.false_or]
    exact ih
theorem star_all : ∀ {es : List Expr} {env : Env} {pos : Pos}, es.all noStar = true → (backTo pos (starEach es env)).all (fun x => !x.1) = true
  | [], _, _, _ => rfl
  | e :: es, env, pos, h => by
    simp only [List.all_cons, Bool.and_eq_true] at h
    rw [star_cons h.1]
    have ih := star_all (env := env) (pos := pos) h.2
    unfold backTo at ih ⊢
    simp only [List.map_cons, List.all_cons, Bool.not_false, Bool.true_and]
    exact ih
theorem base_of {o : Expr} {m : Str} {env : Env} {w : Sem Value} (h : baseE o = true) : attributeBase o m env w = w := by
  unfold attributeBase
  split
  · exact Bool.noConfusion h
  · rfl
theorem plain_of {a : Expr} {env : Env} (h : plainE a = true) : ∀ whole, isTrue a env whole = (do let v ← whole; standAt a.pos; holding [v] (truthy v)) := fun whole => by
  cases a <;> first
    | exact Bool.noConfusion h
    | rfl
    | (rename_i op _ _; cases op <;> first | exact Bool.noConfusion h | rfl)
end Fg

set_option maxHeartbeats 4000000
/-! Fi: the evaluator's reading of each expression holds. -/
namespace Fg
open PySem PySem.Spec PyProof.Rows L2

section
variable {G : GE} {C : Cf} {W : WX} {k : Nat} {fl : List String} {X : Cx}

/-- from a value's way to its test's -/
theorem snd_tru (K : Cxt G C W k fl X) {e : IE} {x : Expr} (hv : ∀ σ, evX C σ e = Ev.of (evX C σ e).v) (h : PE X x (tev G W C e)) (hp : plainE x = true) : PT X x (tevT G W C e) := by
  refine PT.imp (pt_tru h (plain_of hp)) fun σ H Q ⟨fx, B, μ, st, sl, s, r, q⟩ => ⟨fx, B, μ, st, sl, s, r, ?_⟩
  rw [hv sl] at q
  refine (End.bind (P := PD G) (P2 := PB) q).imp fun v H1 ⟨B1, μ1, st1, d, h1, h2, s1, rv, q1⟩ => ?_
  cases ht : truthD st1 d with
  | none => rw [ht] at q1; exact q1.elim
  | some b =>
    rw [ht] at q1
    exact ⟨b, by rw [K.K]; exact tru_end s1 rv ht, End.ok (P := PB) q1 s1 rfl⟩
theorem snd_var {i : Nat} {x : Str} {pos : Pos} (hN : X.N[i]? = some x) (hv : visB X.env.scope x = true) (ho : okN x = true) : PE X (.Name x pos) (tev G W C (.var i)) :=
  PE.imp (pe_var hN (vis_of hv) (okN_dbg ho) (okN_cd ho)) fun σ H Q ⟨fx, B, μ, st, sl, s, r, q⟩ => by
    simp only [evX, Ev.of] at q
    split at q
    · rename_i d hd
      obtain ⟨v, h1, h2⟩ := r.2 i d hd
      exact ⟨v, h1, End.ok (P := PD G) q s h2⟩
    · exact q.elim
theorem snd_con {d : D} {v : V} {x : Expr} (hx : PE X x (tC v)) (hr : ∀ B μ, Rep G B μ d v) : PE X x (tev G W C (.con d)) :=
  PE.imp hx fun σ H Q ⟨fx, B, μ, st, sl, s, r, q⟩ => End.ok (P := PD G) q s (hr B μ)
theorem snd_gl (K : Cxt G C W k fl X) {x : String} {pos : Pos} (hg : glB X.env.scope (Str.ofString x) = true) (ho : okN (Str.ofString x) = true) : PE X (.Name (Str.ofString x) pos) (tev G W C (.gl x)) := by
  cases hc : C.con x with
  | none =>
    refine ⟨fun pins s σ H Q I ⟨fx, B, μ, st, sl, s', r, q⟩ => ?_⟩
    simp only [evX, Ev.of, hc] at q
    exact q.elim
  | some d =>
    obtain ⟨u, v, h1, h2, h3⟩ := K.con x d hc
    refine PE.imp (pe_glob (gl_of hg) h1 h2 (okN_dbg ho)) fun σ H Q ⟨fx, B, μ, st, sl, s, r, q⟩ => ?_
    simp only [evX, Ev.of, hc] at q
    exact End.ok (P := PD G) q s (h3 B μ)
theorem snd_bty (K : Cxt G C W k fl X) {n : String} {pos : Pos} (hn : n ∈ bltNames) (hb : bootBuiltins (Str.ofString n) = some (.type n)) (hg : glB X.env.scope (Str.ofString n) = true) (ho : okN (Str.ofString n) = true) : PE X (.Name (Str.ofString n) pos) (tev G W C (.bty n)) :=
  PE.imp (pe_bltn (gl_of hg) (K.blt n hn) hb (show RelV (.ty n) (.type n) from rfl) (okN_nm ho) (okN_dbg ho)) fun σ H Q ⟨fx, B, μ, st, sl, s, r, q⟩ => End.ok (P := PD G) q s (.ty n)
/-- two in a row: the second one's way, behind the first -/
theorem two_end {a b : IE} {sl : Slots} {st : Store} {fx B : Hp} {μ : List Addr} {σ : L2.St} {f : D → D → Store → R D} {Q : VK} (r : Fg.SlR G B μ sl σ)
    (q : End G (PD G) fx B μ W σ (((evX C sl a).v st).bind fun x st1 => ((evX C sl b).v st1).bind fun y st2 => f x y st2) Q) :
    End G (PD G) fx B μ W σ ((evX C sl a).v st) fun x H1 => tev G W C b σ H1 fun y H2 => ∃ B2 μ2 st2 d e, SR G fx B2 μ2 st2 H2 ∧ Rep G B2 μ2 d x ∧ Rep G B2 μ2 e y ∧ End G (PD G) fx B2 μ2 W σ (f d e st2) Q :=
  (End.bind (P := PD G) q).imp fun x H1 ⟨B1, μ1, st1, d, h1, h2, s1, rx, q1⟩ => ⟨fx, B1, μ1, st1, sl, s1, r.mono h1 h2,
    (End.bind (P := PD G) q1).imp fun y H2 ⟨B2, μ2, st2, e, h3, h4, s2, ry, q2⟩ => ⟨B2, μ2, st2, d, e, s2, rx.mono h3 h4, ry, q2⟩⟩
theorem snd_bin (K : Cxt G C W k fl X) {c : Bool} {op : Operator} {a b : IE} {x y : Expr} {pos : Pos} (ha : PE X x (tev G W C a)) (hb : PE X y (tev G W C b)) : PE X (.BinOp x op y pos) (tev G W C (.bin c op a b)) :=
  PE.imp (pe_op (op_bin op) ha hb) fun σ H Q ⟨fx, B, μ, st, sl, s, r, q⟩ => ⟨fx, B, μ, st, sl, s, r,
    (two_end r q).imp fun v H1 q1 => by
      obtain ⟨fx', B', μ', st', sl', s', r', q'⟩ := q1
      refine ⟨fx', B', μ', st', sl', s', r', q'.imp fun u H2 ⟨B2, μ2, st2, d, e, s2, rx, ry, q2⟩ => ?_⟩
      rw [K.K]
      cases hv : binV op (view st2 d) (view st2 e) with
      | none => simp only [hv] at q2; exact q2.elim
      | some w => simp only [hv] at q2; exact bin_end s2 rx ry hv q2⟩
theorem snd_neg {a : IE} {x : Expr} {pos : Pos} (ha : PE X x (tev G W C a)) : PE X (.UnaryOp .USub x pos) (tev G W C (.neg a)) :=
  PE.imp (pe_un un_neg ha) fun σ H Q ⟨fx, B, μ, st, sl, s, r, q⟩ => ⟨fx, B, μ, st, sl, s, r, (End.bind (P := PD G) q).imp fun v H1 ⟨B1, μ1, st1, d, h1, h2, s1, rv, q1⟩ => by
    split at q1
    · rename_i i
      cases rv
      exact ⟨i, rfl, End.ok (P := PD G) q1 s1 (.int _)⟩
    · exact q1.elim⟩
theorem snd_not (K : Cxt G C W k fl X) {a : IE} {x : Expr} {pos : Pos} (ha : PE X x (tev G W C a)) : PE X (.UnaryOp .Not x pos) (tev G W C (.notE a)) :=
  PE.imp (pe_not2 ha) fun σ H Q ⟨fx, B, μ, st, sl, s, r, q⟩ => ⟨fx, B, μ, st, sl, s, r, (End.bind (P := PD G) q).imp fun v H1 ⟨B1, μ1, st1, d, h1, h2, s1, rv, q1⟩ => by
    cases ht : truthD st1 d with
    | none => simp only [ht] at q1; exact q1.elim
    | some b =>
      simp only [ht] at q1
      exact ⟨b, by rw [K.K]; exact tru_end s1 rv ht, End.ok (P := PD G) q1 s1 (.bl _)⟩⟩
theorem snd_notT {a : IE} {x : Expr} {pos : Pos} (ha : PT X x (tevT G W C a)) : PT X (.UnaryOp .Not x pos) (tevT G W C (.notE a)) :=
  PT.imp (pt_not ha) fun σ H Q ⟨fx, B, μ, st, sl, s, r, q⟩ => ⟨fx, B, μ, st, sl, s, r, (End.bind (P := PB) q).imp fun v H1 ⟨B1, μ1, st1, d, h1, h2, s1, rv, q1⟩ => by
    cases rv
    exact End.ok (P := PB) q1 s1 rfl⟩
theorem snd_cmp (K : Cxt G C W k fl X) {op : CmpOp} {a b : IE} {x y : Expr} {pos : Pos} (ha : PE X x (tev G W C a)) (hb : PE X y (tev G W C b)) (hm : behindInMarks op y = false) : PE X (.Compare x [op] [y] pos) (tev G W C (.cmp op a b)) :=
  PE.imp (pe_cmpR (op_cmp op K.units) ha hb hm) fun σ H Q ⟨fx, B, μ, st, sl, s, r, q⟩ => ⟨fx, B, μ, st, sl, s, r,
    (two_end r q).imp fun v H1 q1 => by
      obtain ⟨fx', B', μ', st', sl', s', r', q'⟩ := q1
      refine ⟨fx', B', μ', st', sl', s', r', q'.imp fun u H2 ⟨B2, μ2, st2, d, e, s2, rx, ry, q2⟩ => ?_⟩
      rw [K.K]
      cases hv : cmpV st2 op d e with
      | none => simp only [hv] at q2; exact q2.elim
      | some w => simp only [hv] at q2; exact cmp_end s2 rx ry hv (End.ok (P := PD G) q2 s2 (.bl _))⟩
theorem snd_cmpT (K : Cxt G C W k fl X) {op : CmpOp} {a b : IE} {x y : Expr} {pos : Pos} (ha : PE X x (tev G W C a)) (hb : PE X y (tev G W C b)) (hm : behindInMarks op y = false) : PT X (.Compare x [op] [y] pos) (tevT G W C (.cmp op a b)) :=
  PT.imp (pt_cmpR (op_cmp op K.units) ha hb hm) fun σ H Q ⟨fx, B, μ, st, sl, s, r, q⟩ => ⟨fx, B, μ, st, sl, s, r, by
    have q0 : End G PB fx B μ W σ (((evX C sl a).v st).bind fun x st1 => ((evX C sl b).v st1).bind fun y st2 => match cmpV st2 op x y with | some r => .ok r st2 | none => .no) Q := by
      refine cast (congrArg (fun z => End G PB fx B μ W σ z Q) ?_) q
      simp only [evX, Ev.of]
      cases (evX C sl a).v st with
      | ok d st1 =>
        simp only [R.bind_ok]
        cases (evX C sl b).v st1 with
        | ok e st2 =>
          simp only [R.bind_ok]
          cases cmpV st2 op d e <;> rfl
        | exc x st2 => rfl
        | no => rfl
      | exc x st2 => rfl
      | no => rfl
    refine (End.bind (P := PD G) q0).imp fun v H1 ⟨B1, μ1, st1, d, h1, h2, s1, rx, q1⟩ => ⟨fx, B1, μ1, st1, sl, s1, r.mono h1 h2, (End.bind (P := PD G) q1).imp fun u H2 ⟨B2, μ2, st2, e, h3, h4, s2, ry, q2⟩ => ?_⟩
    rw [K.K]
    cases hv : cmpV st2 op d e with
    | none => simp only [hv] at q2; exact q2.elim
    | some w => simp only [hv] at q2; exact cmp_end s2 (rx.mono h3 h4) ry hv ⟨w, rfl, End.ok (P := PB) q2 s2 rfl⟩⟩
/-- the second value, the truth of the first known -/
theorem snd_and (K : Cxt G C W k fl X) {a b : IE} {x y : Expr} {rest : List Expr} {pos : Pos} (ha : PE X x (tev G W C a)) (hb : PE X (.BoolOp .And (y :: rest) pos) (tev G W C b)) : PE X (.BoolOp .And (x :: y :: rest) pos) (tev G W C (.and a b)) :=
  PE.imp (pe_and2 ha hb) fun σ H Q ⟨fx, B, μ, st, sl, s, r, q⟩ => ⟨fx, B, μ, st, sl, s, r, (End.bind (P := PD G) q).imp fun v H1 ⟨B1, μ1, st1, d, h1, h2, s1, rv, q1⟩ => by
    cases ht : truthD st1 d with
    | none => simp only [ht] at q1; exact q1.elim
    | some t =>
      simp only [ht] at q1
      refine ⟨t, by rw [K.K]; exact tru_end s1 rv ht, ?_⟩
      cases t with
      | true => exact ⟨fx, B1, μ1, st1, sl, s1, r.mono h1 h2, q1⟩
      | false => exact End.ok (P := PD G) q1 s1 rv⟩
theorem snd_or (K : Cxt G C W k fl X) {a b : IE} {x y : Expr} {rest : List Expr} {pos : Pos} (ha : PE X x (tev G W C a)) (hb : PE X (.BoolOp .Or (y :: rest) pos) (tev G W C b)) : PE X (.BoolOp .Or (x :: y :: rest) pos) (tev G W C (.or a b)) :=
  PE.imp (pe_or2 ha hb) fun σ H Q ⟨fx, B, μ, st, sl, s, r, q⟩ => ⟨fx, B, μ, st, sl, s, r, (End.bind (P := PD G) q).imp fun v H1 ⟨B1, μ1, st1, d, h1, h2, s1, rv, q1⟩ => by
    cases ht : truthD st1 d with
    | none => simp only [ht] at q1; exact q1.elim
    | some t =>
      simp only [ht] at q1
      refine ⟨t, by rw [K.K]; exact tru_end s1 rv ht, ?_⟩
      cases t with
      | true => exact End.ok (P := PD G) q1 s1 rv
      | false => exact ⟨fx, B1, μ1, st1, sl, s1, r.mono h1 h2, q1⟩⟩
theorem snd_one {op : BoolOp} {a : IE} {x : Expr} {pos : Pos} (ha : PE X x (tev G W C a)) : PE X (.BoolOp op [x] pos) (tev G W C a) := pe_one ha
theorem PW.imp {x : Expr} {t t' : TT} (h : PW X x t) (k : ∀ σ H Q, t' σ H Q → t σ H Q) : PW X x t' := ⟨fun w pins s σ H Q I q => h.run w pins s σ H Q I (k σ H Q q)⟩
theorem snd_andT {a b : IE} {x y : Expr} {rest : List Expr} {pos : Pos} (ha : PT X x (tevT G W C a)) (hb : PW X (.BoolOp .And (y :: rest) pos) (tevT G W C b)) : PW X (.BoolOp .And (x :: y :: rest) pos) (tevT G W C (.and a b)) :=
  PW.imp (pw_and ha hb) fun σ H Q ⟨fx, B, μ, st, sl, s, r, q⟩ => ⟨fx, B, μ, st, sl, s, r, (End.bind (P := PB) q).imp fun v H1 ⟨B1, μ1, st1, d, h1, h2, s1, rv, q1⟩ => by
    cases rv
    cases v with
    | true => exact ⟨fx, B1, μ1, st1, sl, s1, r.mono h1 h2, q1⟩
    | false => exact End.ok (P := PB) q1 s1 rfl⟩
theorem snd_orT {a b : IE} {x y : Expr} {rest : List Expr} {pos : Pos} (ha : PT X x (tevT G W C a)) (hb : PW X (.BoolOp .Or (y :: rest) pos) (tevT G W C b)) : PW X (.BoolOp .Or (x :: y :: rest) pos) (tevT G W C (.or a b)) :=
  PW.imp (pw_or ha hb) fun σ H Q ⟨fx, B, μ, st, sl, s, r, q⟩ => ⟨fx, B, μ, st, sl, s, r, (End.bind (P := PB) q).imp fun v H1 ⟨B1, μ1, st1, d, h1, h2, s1, rv, q1⟩ => by
    cases rv
    cases v with
    | true => exact End.ok (P := PB) q1 s1 rfl
    | false => exact ⟨fx, B1, μ1, st1, sl, s1, r.mono h1 h2, q1⟩⟩
theorem snd_ite {c a b : IE} {z x y : Expr} {pos : Pos} (hc : PT X z (tevT G W C c)) (ha : PE X x (tev G W C a)) (hb : PE X y (tev G W C b)) : PE X (.IfExp z x y pos) (tev G W C (.ite c a b)) :=
  PE.imp (pe_ifExp hc ha hb) fun σ H Q ⟨fx, B, μ, st, sl, s, r, q⟩ => ⟨fx, B, μ, st, sl, s, r, (End.bind (P := PB) q).imp fun v H1 ⟨B1, μ1, st1, d, h1, h2, s1, rv, q1⟩ => by
    cases rv
    cases v with
    | true => exact ⟨fx, B1, μ1, st1, sl, s1, r.mono h1 h2, q1⟩
    | false => exact ⟨fx, B1, μ1, st1, sl, s1, r.mono h1 h2, q1⟩⟩
theorem snd_nil : PA X [] (tevs G W C .nil) := PA.imp pa_nil fun σ H Q ⟨fx, B, μ, st, sl, s, r, q⟩ => End.ok (P := PL G) q s RepL.nil
theorem snd_cons {e : IE} {es : IEs} {x : Expr} {xs : List Expr} (h : PE X x (tev G W C e)) (hs : PA X xs (tevs G W C es)) (hn : noStar x = true) : PA X (x :: xs) (tevs G W C (.cons e es)) :=
  PA.imp (pa_cons h hs (star_cons hn)) fun σ H Q ⟨fx, B, μ, st, sl, s, r, q⟩ => ⟨fx, B, μ, st, sl, s, r, (End.bind (P := PD G) q).imp fun v H1 ⟨B1, μ1, st1, d, h1, h2, s1, rv, q1⟩ =>
    ⟨fx, B1, μ1, st1, sl, s1, r.mono h1 h2, (End.bind (P := PL G) q1).imp fun vs H2 ⟨B2, μ2, st2, ds, h3, h4, s2, rvs, q2⟩ => End.ok (P := PL G) q2 s2 (.cons (rv.mono h3 h4) rvs)⟩⟩
theorem snd_tup {es : IEs} {xs : List Expr} {n : Nat} {pos : Pos} (h : PA X xs (tevs G W C es)) : PE X (.Tuple xs n pos) (tev G W C (.tup es)) :=
  PE.imp (pe_tup h) fun σ H Q ⟨fx, B, μ, st, sl, s, r, q⟩ => ⟨fx, B, μ, st, sl, s, r, (End.bind (P := PL G) q).imp fun vs H1 ⟨B1, μ1, st1, ds, h1, h2, s1, rv, q1⟩ => by
    split at q1
    · exact ⟨by rw [← rv.1]; assumption, End.tup q1 s1 rv⟩
    · exact q1.elim⟩
theorem snd_lst {c : Bool} {es : IEs} {xs : List Expr} {pos : Pos} (h : PA X xs (tevs G W C es)) : PE X (.List xs pos) (tev G W C (.lst c es)) :=
  PE.imp (pe_lst h) fun σ H Q ⟨fx, B, μ, st, sl, s, r, q⟩ => ⟨fx, B, μ, st, sl, s, r, (End.bind (P := PL G) q).imp fun vs H1 ⟨B1, μ1, st1, ds, h1, h2, s1, rv, q1⟩ => by
    split at q1
    · exact ⟨by rw [← rv.1]; assumption, End.alloc q1 s1 (.lst rv)⟩
    · exact q1.elim⟩
theorem snd_dic0 {c : Bool} {pos : Pos} : PE X (.Dict [] [] pos) (tev G W C (.dic c .nil .nil)) :=
  PE.imp pe_dnewK fun σ H Q ⟨fx, B, μ, st, sl, s, r, q⟩ => End.alloc q s (.dk RepP.nil)
def noSlc : Expr → Bool
  | .Slice .. => false | _ => true
def rDG : R2 := fun x y H Q => ∃ a v, x = .ref a ∧ DGet H a y (some v) ∧ Q v H
theorem ix_dict (hu : X.A.units + 1 < cLine) : IxR X rDG := fun value slice pins s σ H x y v u Q I rx ry h hs => by
  obtain ⟨a, w, ex, g, q⟩ := h
  subst ex; cases rx
  exact tail_any (dict_typeIs I g) PySem.F.slot_dict_getitem.lookup (d_getItem hu I g ry fun w' s' I' r' => ⟨w, H, I', r', q⟩) hs
theorem snd_idx (K : Cxt G C W k fl X) {a i : IE} {x y : Expr} {pos : Pos} (ha : PE X x (tev G W C a)) (hi : PE X y (tev G W C i)) (hn : noSlc y = true) : PE X (.Subscript x y pos) (tev G W C (.idx a i)) := by
  have hp : PlainIx y := fun o iv => by cases y <;> first | exact Bool.noConfusion hn | rfl
  refine PE.imp (pe_ix (IxR.or ix_seq (ix_dict (by have := K.units; omega))) ha hi hp) fun σ H Q ⟨fx, B, μ, st, sl, s, r, q⟩ => ⟨fx, B, μ, st, sl, s, r,
    (two_end r q).imp fun v H1 q1 => ?_⟩
  obtain ⟨fx', B', μ', st', sl', s', r', q'⟩ := q1
  refine ⟨fx', B', μ', st', sl', s', r', q'.imp fun u H2 ⟨B2, μ2, st2, d, e, s2, rx, ry, q2⟩ => ?_⟩
  rw [K.K]
  cases hv : idxV (view st2 d) e with
  | none => simp only [hv] at q2; exact q2.elim
  | some w =>
    simp only [hv] at q2
    have fin : ∀ z, Rep G B2 μ2 w z → Q z H2 := fun z rz => End.ok (P := PD G) q2 s2 rz
    by_cases hk : kd (view st2 d) = .dk ∨ kd (view st2 d) = .dt
    · exact .inr (idx_dct s2 rx ry hv hk fin)
    · exact .inl (idx_seq s2 rx ry hv ⟨fun h => hk (.inl h), fun h => hk (.inr h)⟩ fin)
end
end Fg

set_option maxHeartbeats 4000000
/-! Fs: the cells of a call taken out of the store. -/
namespace Fg
open PySem PySem.Spec PyProof.Rows L2

section
variable {G : GE} {B B' B0 : Hp} {μ μ' μ0 : List Addr}
/-- names of cells that were there before -/
theorem Rep.back (hμ : Pre μ0 μ) {d : D} {v : V} (r : Rep G B μ d v) : ∀ {v0}, Rep G B0 μ0 d v0 → Rep G B μ0 d v := by
  induction r with
  | non => exact fun _ => .non
  | bl b => exact fun _ => .bl b
  | int i => exact fun _ => .int i
  | str x => exact fun _ => .str x
  | ty n => exact fun _ => .ty n
  | gl h => exact fun _ => .gl h
  | ref h =>
    intro v0 r0
    cases r0 with
    | ref h0 =>
      have := hμ _ _ h0
      rw [h] at this; cases this
      exact .ref h0
  | tup h l _ ih =>
    intro v0 r0
    cases r0 with
    | tup h0 l0 q0 =>
      exact .tup h l fun i d v h1 h2 => by
        obtain ⟨w, hw, rw'⟩ := RepL.get (G := G) (B := B0) (μ := μ0) ⟨l0, q0⟩ h1
        exact ih i d v h1 h2 rw'
  | ktup h l _ ih =>
    intro v0 r0
    cases r0 with
    | ktup h0 l0 q0 =>
      exact .ktup h l fun i d v h1 h2 => by
        obtain ⟨w, hw, rw'⟩ := RepL.get (G := G) (B := B0) (μ := μ0) ⟨l0, q0⟩ h1
        exact ih i d v h1 h2 rw'
  | lst h l _ ih =>
    intro v0 r0
    cases r0 with
    | lst h0 l0 q0 =>
      exact .lst h l fun i d v h1 h2 => by
        obtain ⟨w, hw, rw'⟩ := RepL.get (G := G) (B := B0) (μ := μ0) ⟨l0, q0⟩ h1
        exact ih i d v h1 h2 rw'
  | scr h l _ ih =>
    intro v0 r0
    cases r0 with
    | scr h0 l0 q0 =>
      exact .scr h l fun i d v h1 h2 => by
        obtain ⟨w, hw, rw'⟩ := RepL.get (G := G) (B := B0) (μ := μ0) ⟨l0, q0⟩ h1
        exact ih i d v h1 h2 rw'
  | @dk a ks kd h l _ ih =>
    intro v0 r0
    cases r0 with
    | @dk a0 ks0 _ h0 l0 q0 =>
      exact .dk h l fun i p q h1 h2 => by
        have hl := congrArg List.length l0
        have hi : i < ks0.length := by simp at hl; rw [← hl]; exact (List.getElem?_eq_some_iff.mp h1).1
        exact ih i p q h1 h2 (q0 i p ks0[i] h1 (List.getElem?_eq_getElem hi))
  | @dt a ks kd h l _ ih =>
    intro v0 r0
    cases r0 with
    | @dt a0 ks0 _ h0 l0 q0 =>
      exact .dt h l fun i p q h1 h2 => by
        have hl := congrArg List.length l0
        have hi : i < ks0.length := by simp at hl; rw [← hl]; exact (List.getElem?_eq_some_iff.mp h1).1
        exact ih i p q h1 h2 (q0 i p ks0[i] h1 (List.getElem?_eq_getElem hi))
  | @obj a C dx c fs fd h k l _ ih =>
    intro v0 r0
    cases r0 with
    | @obj a0 C0 dx0 _ fs0 _ h0 k0 l0 q0 =>
      exact .obj h k l fun i p q h1 h2 => by
        have hl := congrArg List.length l0
        have hi : i < fs0.length := by simp at hl; rw [← hl]; exact (List.getElem?_eq_some_iff.mp h1).1
        exact ih i p q h1 h2 (q0 i p fs0[i] h1 (List.getElem?_eq_getElem hi))
  | dead => exact fun _ => .dead
theorem nrs_get : ∀ {ds : List D} {i : Nat} {d : D}, D.nrs ds = true → ds[i]? = some d → D.nr d = true
  | [], _, _, _, h => by simp at h
  | e :: ds, i, d, h, hi => by
    simp only [D.nrs, Bool.and_eq_true] at h
    cases i with
    | zero => simp at hi; subst hi; exact h.1
    | succ i => exact nrs_get h.2 (by simpa using hi)
theorem nrK_get : ∀ {ds : List (Key × D)} {i : Nat} {d : Key × D}, D.nrK ds = true → ds[i]? = some d → D.nr d.2 = true
  | [], _, _, _, h => by simp at h
  | (k, e) :: ds, i, d, h, hi => by
    simp only [D.nrK, Bool.and_eq_true] at h
    cases i with
    | zero => simp at hi; subst hi; exact h.1
    | succ i => exact nrK_get h.2 (by simpa using hi)
theorem nrT_get : ∀ {ds : List (List Key × D)} {i : Nat} {d : List Key × D}, D.nrT ds = true → ds[i]? = some d → D.nr d.2 = true
  | [], _, _, _, h => by simp at h
  | (k, e) :: ds, i, d, h, hi => by
    simp only [D.nrT, Bool.and_eq_true] at h
    cases i with
    | zero => simp at hi; subst hi; exact h.1
    | succ i => exact nrT_get h.2 (by simpa using hi)
theorem nrF_get : ∀ {ds : List (String × D)} {i : Nat} {d : String × D}, D.nrF ds = true → ds[i]? = some d → D.nr d.2 = true
  | [], _, _, _, h => by simp at h
  | (k, e) :: ds, i, d, h, hi => by
    simp only [D.nrF, Bool.and_eq_true] at h
    cases i with
    | zero => simp at hi; subst hi; exact h.1
    | succ i => exact nrF_get h.2 (by simpa using hi)
/-- where no cell is named, the cells do not matter -/
theorem Rep.free {d : D} {v : V} (r : Rep G B μ d v) : D.nr d = true → Rep G B μ0 d v := by
  induction r with
  | non => exact fun _ => .non
  | bl b => exact fun _ => .bl b
  | int i => exact fun _ => .int i
  | str x => exact fun _ => .str x
  | ty n => exact fun _ => .ty n
  | gl h => exact fun _ => .gl h
  | ref h => exact fun h => Bool.noConfusion h
  | tup h l _ ih => exact fun hn => .tup h l fun i d v h1 h2 => ih i d v h1 h2 (nrs_get hn h1)
  | ktup h l _ ih => exact fun hn => .ktup h l fun i d v h1 h2 => ih i d v h1 h2 (nrs_get hn h1)
  | lst h l _ ih => exact fun hn => .lst h l fun i d v h1 h2 => ih i d v h1 h2 (nrs_get hn h1)
  | scr h l _ ih => exact fun hn => .scr h l fun i d v h1 h2 => ih i d v h1 h2 (nrs_get hn h1)
  | dk h l _ ih => exact fun hn => .dk h l fun i p q h1 h2 => ih i p q h1 h2 (nrK_get hn h1)
  | dt h l _ ih => exact fun hn => .dt h l fun i p q h1 h2 => ih i p q h1 h2 (nrT_get hn h1)
  | obj h k l _ ih => exact fun hn => .obj h k l fun i p q h1 h2 => ih i p q h1 h2 (nrF_get hn h1)
  | dead => exact fun _ => .dead
theorem CRep.back (hμ : Pre μ0 μ) {d : D} {o o0 : HO} (r : CRep G B μ d o) (r0 : CRep G B0 μ0 d o0) : CRep G B μ0 d o := by
  cases r with
  | lst q =>
    cases r0 with
    | lst q0 =>
      exact .lst ⟨q.1, fun i d v h1 h2 => by
        obtain ⟨w, hw, rw'⟩ := q0.get h1
        exact (q.2 i d v h1 h2).back hμ rw'⟩
  | dk q =>
    cases r0 with
    | dk q0 =>
      exact .dk ⟨q.1, fun i d v h1 h2 => by
        have hl := congrArg List.length q0.1
        simp at hl
        have hi := (List.getElem?_eq_some_iff.mp h1).1
        rw [hl] at hi
        exact (q.2 i d v h1 h2).back hμ (q0.2 i d _ h1 (List.getElem?_eq_getElem hi))⟩
  | dt q =>
    cases r0 with
    | dt q0 =>
      exact .dt ⟨q.1, fun i d v h1 h2 => by
        have hl := congrArg List.length q0.1
        simp at hl
        have hi := (List.getElem?_eq_some_iff.mp h1).1
        rw [hl] at hi
        exact (q.2 i d v h1 h2).back hμ (q0.2 i d _ h1 (List.getElem?_eq_getElem hi))⟩
  | obj c q =>
    cases r0 with
    | obj c0 q0 =>
      exact .obj c ⟨q.1, fun i d v h1 h2 => by
        have hl := congrArg List.length q0.1
        simp at hl
        have hi := (List.getElem?_eq_some_iff.mp h1).1
        rw [hl] at hi
        exact (q.2 i d v h1 h2).back hμ (q0.2 i d _ h1 (List.getElem?_eq_getElem hi))⟩
  | dead => exact .dead
theorem CRep.free {d : D} {o : HO} (r : CRep G B μ d o) (hn : D.nr d = true) : CRep G B μ0 d o := by
  cases r with
  | lst q => exact .lst ⟨q.1, fun i d v h1 h2 => (q.2 i d v h1 h2).free (nrs_get hn h1)⟩
  | dk q => exact .dk ⟨q.1, fun i d v h1 h2 => (q.2 i d v h1 h2).free (nrK_get hn h1)⟩
  | dt q => exact .dt ⟨q.1, fun i d v h1 h2 => (q.2 i d v h1 h2).free (nrT_get hn h1)⟩
  | obj c q => exact .obj c ⟨q.1, fun i d v h1 h2 => (q.2 i d v h1 h2).free (nrF_get hn h1)⟩
  | dead => exact .dead

theorem subs_map (g : Nat → D) : ∀ ds : List D, D.subs g ds = ds.map (D.sub g)
  | [] => rfl
  | d :: ds => by rw [D.subs, subs_map g ds]; rfl
theorem subK_map (g : Nat → D) : ∀ ds : List (Key × D), D.subK g ds = ds.map fun p => (p.1, D.sub g p.2)
  | [] => rfl
  | (k, d) :: ds => by rw [D.subK, subK_map g ds]; rfl
theorem subT_map (g : Nat → D) : ∀ ds : List (List Key × D), D.subT g ds = ds.map fun p => (p.1, D.sub g p.2)
  | [] => rfl
  | (k, d) :: ds => by rw [D.subT, subT_map g ds]; rfl
theorem subF_map (g : Nat → D) : ∀ ds : List (String × D), D.subF g ds = ds.map fun p => (p.1, D.sub g p.2)
  | [] => rfl
  | (k, d) :: ds => by rw [D.subF, subF_map g ds]; rfl
/-- the names of cells replaced -/
theorem Rep.subst (sm : Same B B') {g : Nat → D} (hg : ∀ (n : Nat) a, μ[n]? = some a → Rep G B' μ' (g n) (.ref a)) {d : D} {v : V} (r : Rep G B μ d v) : Rep G B' μ' (D.sub g d) v := by
  induction r with
  | non => exact .non
  | bl b => exact .bl b
  | int i => exact .int i
  | str x => exact .str x
  | ty n => exact .ty n
  | gl h => exact .gl h
  | ref h => exact hg _ _ h
  | tup h l _ ih =>
    rw [D.sub, subs_map]
    refine .tup (sm _ _ h) (by simpa using l) fun i d v h1 h2 => ?_
    rw [List.getElem?_map] at h1
    obtain ⟨d0, e1, e2⟩ := Option.map_eq_some_iff.mp h1
    subst e2; exact ih i d0 v e1 h2
  | ktup h l _ ih =>
    rw [D.sub, subs_map]
    refine .ktup (Same.sqT sm h) (by simpa using l) fun i d v h1 h2 => ?_
    rw [List.getElem?_map] at h1
    obtain ⟨d0, e1, e2⟩ := Option.map_eq_some_iff.mp h1
    subst e2; exact ih i d0 v e1 h2
  | lst h l _ ih =>
    rw [D.sub, subs_map]
    refine .lst (sm _ _ h) (by simpa using l) fun i d v h1 h2 => ?_
    rw [List.getElem?_map] at h1
    obtain ⟨d0, e1, e2⟩ := Option.map_eq_some_iff.mp h1
    subst e2; exact ih i d0 v e1 h2
  | scr h l _ ih =>
    rw [D.sub, subs_map]
    refine .scr (Same.sqL sm h) (by simpa using l) fun i d v h1 h2 => ?_
    rw [List.getElem?_map] at h1
    obtain ⟨d0, e1, e2⟩ := Option.map_eq_some_iff.mp h1
    subst e2; exact ih i d0 v e1 h2
  | dk h l _ ih =>
    rw [D.sub, subK_map]
    refine .dk (Same.rd sm h) (by rw [← l, List.map_map]; rfl) fun i d v h1 h2 => ?_
    rw [List.getElem?_map] at h1
    obtain ⟨d0, e1, e2⟩ := Option.map_eq_some_iff.mp h1
    subst e2; exact ih i d0 v e1 h2
  | dt h l _ ih =>
    rw [D.sub, subT_map]
    refine .dt (Same.rd sm h) (by rw [← l, List.map_map]; rfl) fun i d v h1 h2 => ?_
    rw [List.getElem?_map] at h1
    obtain ⟨d0, e1, e2⟩ := Option.map_eq_some_iff.mp h1
    subst e2; exact ih i d0 v e1 h2
  | obj h k l _ ih =>
    rw [D.sub, subF_map]
    refine .obj (sm _ _ h) k (by rw [← l, List.map_map]; rfl) fun i d v h1 h2 => ?_
    rw [List.getElem?_map] at h1
    obtain ⟨d0, e1, e2⟩ := Option.map_eq_some_iff.mp h1
    subst e2; exact ih i d0 v e1 h2
  | dead => exact .dead
/-- a cell's content, as a tree -/
theorem CRep.subst (sm : Same B B') {g : Nat → D} (hg : ∀ (n : Nat) a, μ[n]? = some a → Rep G B' μ' (g n) (.ref a)) {d : D} {o : HO} {a : Addr} (r : CRep G B μ d o) (ha : B' a = some o) : Rep G B' μ' (D.sub g d) (.ref a) := by
  cases r with
  | lst q =>
    rw [D.sub, subs_map]
    refine .lst ha (by simpa using q.1) fun i d v h1 h2 => ?_
    rw [List.getElem?_map] at h1
    obtain ⟨d0, e1, e2⟩ := Option.map_eq_some_iff.mp h1
    subst e2; exact (q.2 i d0 v e1 h2).subst sm hg
  | dk q =>
    rw [D.sub, subK_map]
    refine .dk (.inl ha) (by rw [← q.1, List.map_map]; rfl) fun i d v h1 h2 => ?_
    rw [List.getElem?_map] at h1
    obtain ⟨d0, e1, e2⟩ := Option.map_eq_some_iff.mp h1
    subst e2; exact (q.2 i d0 v e1 h2).subst sm hg
  | dt q =>
    rw [D.sub, subT_map]
    refine .dt (.inl ha) (by rw [← q.1, List.map_map]; rfl) fun i d v h1 h2 => ?_
    rw [List.getElem?_map] at h1
    obtain ⟨d0, e1, e2⟩ := Option.map_eq_some_iff.mp h1
    subst e2; exact (q.2 i d0 v e1 h2).subst sm hg
  | obj c q =>
    rw [D.sub, subF_map]
    refine .obj ha c (by rw [← q.1, List.map_map]; rfl) fun i d v h1 h2 => ?_
    rw [List.getElem?_map] at h1
    obtain ⟨d0, e1, e2⟩ := Option.map_eq_some_iff.mp h1
    subst e2; exact (q.2 i d0 v e1 h2).subst sm hg
  | dead => exact .dead
end

open Classical in
/-- what stands for good behind a call: the cells of the call too -/
noncomputable def packB (B H : Hp) (ν : List Addr) : Hp := fun a => if a ∈ ν then H a else B a
section
variable {G : GE} {fx B0 B : Hp} {μ0 μ : List Addr} {st0 st : Store} {H0 H : Hp}
theorem pack_same (s : SR G fx B μ st H) (ν : List Addr) (hν : ∀ a ∈ ν, a ∈ μ) : Same B (packB B H ν) := fun a o e => by
  unfold packB
  split
  · exact s.sub _ _ e
  · exact e
theorem pack_sr (s0 : SR G fx B0 μ0 st0 H0) (hμ : Pre μ0 μ) (s : SR G fx B μ st H) (ho : OuterOk st0 st) (hl : st0.length ≤ st.length) :
    SR G fx (packB B H (μ.drop st0.length)) μ0 (st.take st0.length) H := by
  have hL := s0.len
  have ht : μ.take st0.length = μ0 := by
    apply List.ext_getElem?
    intro n
    rw [List.getElem?_take]
    split
    · rename_i hn
      have e := List.getElem?_eq_getElem (l := μ0) (i := n) (by omega)
      rw [e]; exact hμ _ _ e
    · rename_i hn
      exact (List.getElem?_eq_none (by omega)).symm
  have sm := pack_same s (μ.drop st0.length) fun a h => List.mem_of_mem_drop h
  have apart : ∀ a ∈ μ0, a ∉ μ.drop st0.length := fun a h1 h2 => by
    have nd := s.nd
    rw [← List.take_append_drop st0.length μ] at nd
    rw [← ht] at h1
    exact (List.nodup_append.mp nd).2.2 a h1 a h2 rfl
  refine ⟨by rw [List.length_take]; omega, s0.nd, fun n a d h1 h2 => ?_, fun a o e => ?_, fun a h1 h2 => ?_⟩
  · rw [List.getElem?_take] at h2
    split at h2
    · rename_i hn
      obtain ⟨k1, k2, o, k3, k4⟩ := s.cell n a d (hμ _ _ h1) h2
      have na := apart a (List.mem_of_getElem? h1)
      refine ⟨by unfold packB; rw [if_neg na]; exact k1, k2, o, k3, ?_⟩
      rcases ho n d hn h2 with e | e
      · obtain ⟨_, _, o0, _, k5⟩ := s0.cell n a d h1 e
        exact (k4.back hμ k5).mono sm (Pre.refl _)
      · exact (k4.free e).mono sm (Pre.refl _)
    · cases h2
  · obtain ⟨k1, k2⟩ := s.fix a o e
    refine ⟨?_, k2⟩
    unfold packB
    rw [if_neg fun hm => ?_]
    · exact k1
    · obtain ⟨n, hn, e2⟩ := List.getElem_of_mem (List.mem_of_mem_drop hm)
      have h3 : n < st.length := by rw [← s.len]; exact hn
      have := (s.cell n a st[n] (by rw [List.getElem?_eq_getElem hn, e2]) (List.getElem?_eq_getElem h3)).2.1
      rw [e] at this; cases this
  · unfold packB
    split
    · rfl
    · rename_i hd
      refine s.rest a h1 fun hm => ?_
      rw [← List.take_append_drop st0.length μ, ht] at hm
      exact (List.mem_append.mp hm).elim h2 hd
theorem pack_g (s0 : SR G fx B0 μ0 st0 H0) (hμ : Pre μ0 μ) (s : SR G fx B μ st H) : ∀ (k n : Nat) a, μ[n]? = some a → Rep G (packB B H (μ.drop st0.length)) μ0 (shutG st0.length st k n) (.ref a)
  | k, n, a, h => by
    have small : n < st0.length → Rep G (packB B H (μ.drop st0.length)) μ0 (.ref n) (.ref a) := fun hn => by
      have e := List.getElem?_eq_getElem (l := μ0) (i := n) (by rw [s0.len]; exact hn)
      have e2 := hμ _ _ e
      rw [h] at e2
      exact .ref (by rw [e, e2])
    cases k with
    | zero =>
      unfold shutG
      split
      · exact small ‹_›
      · exact .dead
    | succ k =>
      unfold shutG
      split
      · exact small ‹_›
      · rename_i hn
        have h3 : n < st.length := by rw [← s.len]; exact (List.getElem?_eq_some_iff.mp h).1
        have e3 : st[n]? = some st[n] := List.getElem?_eq_getElem h3
        obtain ⟨_, _, o, k3, k4⟩ := s.cell n a st[n] h e3
        rw [e3]
        have hm : a ∈ μ.drop st0.length := by
          refine List.mem_of_getElem? (i := n - st0.length) ?_
          rw [List.getElem?_drop]
          rw [show st0.length + (n - st0.length) = n by omega]; exact h
        refine k4.subst (pack_same s _ fun a h => List.mem_of_mem_drop h) (pack_g s0 hμ s k) ?_
        unfold packB
        rw [if_pos hm]; exact k3
/-- the end of a call, its cells taken out -/
theorem shut_end {W : WX} {σ : L2.St} {r : R D} {Q : VK} (s0 : SR G fx B0 μ0 st0 H0) (h : End G (PD G) fx B0 μ0 W σ (shut st0 r) Q) : End G (PD G) fx B0 μ0 W σ r Q := by
  unfold shut at h
  cases r with
  | no => exact h
  | ok d st =>
    simp only at h
    split at h
    · rename_i hc
      intro B' μ' H' v h1 h2 s rv
      have sm := pack_same s (μ'.drop st0.length) fun a h => List.mem_of_mem_drop h
      exact h (packB B' H' (μ'.drop st0.length)) μ0 H' v (h1.trans sm) (Pre.refl _) (pack_sr s0 h2 s hc.2 hc.1) (rv.subst sm (pack_g s0 h2 s 6))
    · exact h.elim
  | exc x st =>
    simp only at h
    split at h
    · rename_i hc
      intro B' μ' H' cls dd h1 h2 s rv
      have sm := pack_same s (μ'.drop st0.length) fun a h => List.mem_of_mem_drop h
      obtain ⟨Ca, dv, fs, e1, e2, e3, e4, e5⟩ := rv
      refine h (packB B' H' (μ'.drop st0.length)) μ0 H' cls dd (h1.trans sm) (Pre.refl _) (pack_sr s0 h2 s hc.2.1 hc.1) ⟨Ca, dv, fs, e1, e2, e3, sm _ _ e4, e5.1, fun i p q k1 k2 => ?_⟩
      have hn := List.all_eq_true.mp hc.2.2 p (List.mem_of_getElem? k1)
      exact ((e5.2 i p q k1 k2).free hn).mono sm (Pre.refl _)
    · exact h.elim
end
end Fg

set_option maxHeartbeats 4000000
/-! Fj: slices, attributes, calls. -/
namespace Fg
open PySem PySem.Spec PyProof.Rows L2

section
variable {G : GE} {C : Cf} {W : WX} {k : Nat} {fl : List String} {X : Cx}
/-- a slice's bound -/
def tevP (G : GE) (W : WX) (C : Cf) (e : IE) : TO := fun σ H Q => ∃ fx B μ st sl, SR G fx B μ st H ∧ Fg.SlR G B μ sl σ ∧ End G (fun _ _ _ d (o : Option Int) => d = o) fx B μ W σ (partR e (evX C sl e).v st) Q
def isNo : IE → Bool
  | .con .non => true | _ => false
theorem snd_part {e : IE} {y : Option Expr} (h : (y = none ∧ isNo e = true) ∨ ∃ z, y = some z ∧ isNo e = false ∧ PE X z (tev G W C e)) : PO X y (tevP G W C e) := by
  rcases h with ⟨e1, e2⟩ | ⟨z, e1, e2, hz⟩
  · subst e1
    have : e = .con .non := by
      unfold isNo at e2
      split at e2
      · rfl
      · exact Bool.noConfusion e2
    subst this
    exact ⟨fun pins s σ H Q I ⟨fx, B, μ, st, sl, s', r, q⟩ => po_none.run pins s σ H Q I (q B μ H none (Same.refl _) (Pre.refl _) s' rfl)⟩
  · subst e1
    refine ⟨fun pins s σ H Q I ⟨fx, B, μ, st, sl, s', r, q⟩ => (po_some hz).run pins s σ H Q I ⟨fx, B, μ, st, sl, s', r, ?_⟩⟩
    have e3 : partR e (evX C sl e).v st = ((evX C sl e).v st).bind fun d st1 => match d with | .int i => .ok (some i) st1 | _ => .no := by
      unfold partR
      split
      · exact Bool.noConfusion e2
      · rfl
    rw [e3] at q
    refine (End.bind (P := PD G) q).imp fun v H1 ⟨B1, μ1, st1, d, h1, h2, s1, rv, q1⟩ => ?_
    split at q1
    · cases rv
      exact ⟨_, rfl, End.ok (P := fun _ _ _ d (o : Option Int) => d = o) q1 s1 rfl⟩
    · exact q1.elim
theorem snd_slc (K : Cxt G C W k fl X) {c : Bool} {a lo hi : IE} {x : Expr} {l h : Option Expr} {p2 pos : Pos} (ha : PE X x (tev G W C a)) (hl : PO X l (tevP G W C lo)) (hh : PO X h (tevP G W C hi)) :
    PE X (.Subscript x (.Slice l h none p2) pos) (tev G W C (.slc c a lo hi)) :=
  PE.imp (pe_slice sl_3 ha hl hh) fun σ H Q ⟨fx, B, μ, st, sl, s, r, q⟩ => ⟨fx, B, μ, st, sl, s, r, (End.bind (P := PD G) q).imp fun v H1 ⟨B1, μ1, st1, d, h1, h2, s1, rv, q1⟩ =>
    ⟨fx, B1, μ1, st1, sl, s1, r.mono h1 h2, (End.bind (P := fun _ _ _ d (o : Option Int) => d = o) q1).imp fun lo' H2 ⟨B2, μ2, st2, lo2, h3, h4, s2, e2, q2⟩ =>
      ⟨fx, B2, μ2, st2, sl, s2, (r.mono h1 h2).mono h3 h4, (End.bind (P := fun _ _ _ d (o : Option Int) => d = o) q2).imp fun hi' H3 ⟨B3, μ3, st3, hi2, h5, h6, s3, e3, q3⟩ => by
        subst e2; subst e3
        rw [K.K]
        cases hv : slcV (view st3 d) lo2 hi2 with
        | none => simp only [hv] at q3; exact q3.elim
        | some w => simp only [hv] at q3; exact slc_end s3 ((rv.mono h3 h4).mono h5 h6) hv q3⟩⟩⟩
theorem snd_fld (K : Cxt G C W k fl X) {a : IE} {f : String} {x : Expr} {pos : Pos} (ha : PE X x (tev G W C a)) (hf : f ∈ fl) (hb : baseE x = true) : PE X (.Attribute x (Str.ofString f) pos) (tev G W C (.fld a f)) :=
  PE.imp (pe_fld ha (base_of hb)) fun σ H Q ⟨fx, B, μ, st, sl, s, r, q⟩ => ⟨fx, B, μ, st, sl, s, r, (End.bind (P := PD G) q).imp fun v H1 ⟨B1, μ1, st1, d, h1, h2, s1, rv, q1⟩ => by
    cases hv : fldV (view st1 d) f with
    | none => simp only [hv] at q1; exact q1.elim
    | some w =>
      simp only [hv] at q1
      obtain ⟨c, p, Ca, dx, fs, u, e1, g1, g2, g3, g4⟩ := fld_end s1 rv hv
      rw [K.K]
      exact ⟨p, Ca, dx, fs, u, e1, g1, (K.cls c Ca g2).1.cls, K.fld c Ca f g2 hf, g3, End.ok (P := PD G) q1 s1 g4⟩⟩
/-- a built-in function -/
theorem snd_blt (K : Cxt G C W k fl X) {c : Bool} {f : String} {e : IE} {es : IEs} {x : Expr} {xs : List Expr} {p pos : Pos} (ha : PA X (x :: xs) (tevs G W C (.cons e es))) (hn : f ∈ bltNames) (ht : isFnF f = true ∨ isTyF f = true)
    (hg : glB X.env.scope (Str.ofString f) = true) (ho : okN (Str.ofString f) = true) (hs : (x :: xs).all noStar = true) : PE X (.Call (.Name (Str.ofString f) p) (x :: xs) [] pos) (tev G W C (.blt c f (.cons e es))) := by
  simp only [List.all_cons, Bool.and_eq_true] at hs
  have step : ∀ σ H Q, tev G W C (.blt c f (.cons e es)) σ H Q → tCB (rBlt X.K f) (tevs G W C (.cons e es)) σ H Q := fun σ H Q ⟨fx, B, μ, st, sl, s, r, q⟩ =>
    ⟨fx, B, μ, st, sl, s, r, (End.bind (P := PL G) q).imp fun vs H1 ⟨B1, μ1, st1, ds, h1, h2, s1, rv, q1⟩ => by
      rw [K.K]
      cases hv : bltV st1 f ds with
      | none => simp only [hv] at q1; exact q1.elim
      | some w => simp only [hv] at q1; exact blt_end s1 rv hv q1⟩
  rcases ht with ht | ht
  · obtain ⟨h1, h2⟩ := (cr_blt (X := X) (f := f) K.calm).1 ht
    exact PE.imp (pe_callB h1 (gl_of hg) (K.blt f hn) h2 ha (okN_nm ho) (okN_dbg ho) (star_cons hs.1) (star_plain hs.2)) step
  · obtain ⟨h1, h2⟩ := (cr_blt (X := X) (f := f) K.calm).2 ht
    exact PE.imp (pe_callTy h1 (gl_of hg) (K.blt f hn) h2 ha (okN_nm ho) (okN_dbg ho) (star_cons hs.1) (star_plain hs.2)) step
theorem cr_isi2 : CallR X (.builtin "isinstance") (rIsi2 X.K) := CallR.or call_isi call_isiT
theorem snd_isi (K : Cxt G C W k fl X) {e : IE} {es : IEs} {x : Expr} {xs : List Expr} {p pos : Pos} (ha : PA X (x :: xs) (tevs G W C (.cons e es)))
    (hg : glB X.env.scope (Str.ofString "isinstance") = true) (hs : (x :: xs).all noStar = true) : PE X (.Call (.Name (Str.ofString "isinstance") p) (x :: xs) [] pos) (tev G W C (.isi (.cons e es))) := by
  simp only [List.all_cons, Bool.and_eq_true] at hs
  refine PE.imp (pe_callB cr_isi2 (gl_of hg) (K.blt "isinstance" (by decide)) (by decide +kernel) ha (by decide) (by decide) (star_cons hs.1) (star_plain hs.2)) fun σ H Q ⟨fx, B, μ, st, sl, s, r, q⟩ =>
    ⟨fx, B, μ, st, sl, s, r, (End.bind (P := PL G) q).imp fun vs H1 ⟨B1, μ1, st1, ds, h1, h2, s1, rv, q1⟩ => ?_⟩
  rw [K.K]
  cases hv : isiV C.kit st1 ds with
  | none => simp only [hv] at q1; exact q1.elim
  | some w => simp only [hv] at q1; exact isi_end K.kit K.cls s1 rv hv (End.ok (P := PD G) q1 s1 (.bl _))
end
end Fg

set_option maxHeartbeats 4000000
/-! Fk: method calls of built-in types, calls of defs, of methods, of classes. -/
namespace Fg
open PySem PySem.Spec PyProof.Rows L2

section
variable {G : GE} {C : Cf} {W : WX} {k : Nat} {fl : List String} {X : Cx}
theorem bmR_of (hu : X.A.units + 1 < cLine) {T m : String} (h : bmOk T m = true) : BmR X T m := by
  by_cases h1 : T = "list"
  · subst h1; exact bmR_list m h
  · by_cases h2 : T = "str"
    · subst h2; exact bmR_str m h
    · by_cases h3 : T = "dict"
      · subst h3; exact bmR_dict hu m h
      · exact absurd h (by unfold bmOk; split <;> simp_all)
theorem kd_of {d : D} {m : String} (h : bmOk (tyOf (kd d)) m = true) : kd d = .lst ∨ kd d = .str ∨ kd d = .dk ∨ kd d = .dt := by
  generalize kd d = q at h
  cases q <;> first | exact .inl rfl | exact .inr (.inl rfl) | exact .inr (.inr (.inl rfl)) | exact .inr (.inr (.inr rfl)) | exact Bool.noConfusion h
/-- from the evaluator's way to the rule of the receiver's type -/
theorem bm_step (K : Cxt G C W k fl X) {c : Bool} {m : String} {a : IE} {es : IEs} (hm : ∃ T, bmOk T m = true) {σ : L2.St} {H : Hp} {Q : VK} (h : tev G W C (.bm c m a es) σ H Q) :
    ∃ T, bmOk T m = true ∧ tBMW X.K T (rBm X.K T m) (tev G W C a) (tevs G W C es) σ H Q := by
  obtain ⟨fx, B, μ, st, sl, s, r, q⟩ := h
  have fin : ∀ T, (∀ d st1, (evX C sl a).v st = .ok d st1 → bmOk (tyOf (kd (view st1 d))) m = true → T = tyOf (kd (view st1 d))) → tBMW X.K T (rBm X.K T m) (tev G W C a) (tevs G W C es) σ H Q := fun T hT => by
    refine ⟨fx, B, μ, st, sl, s, r, ?_⟩
    cases hr : (evX C sl a).v st with
    | no => simp only [evX, Ev.of, hr, R.bind_no] at q; exact q
    | exc x st1 => simp only [evX, Ev.of, hr, R.bind_exc] at q; exact q
    | ok d st1 =>
      simp only [evX, Ev.of, hr, R.bind_ok] at q
      split at q
      · exact q.elim
      · rename_i hk
        have hk : bmOk (tyOf (kd (view st1 d))) m = true := by simpa using hk
        have eT := hT d st1 hr hk
        intro B1 μ1 H1 x h1 h2 s1 rx
        refine ⟨by rw [K.K, eT]; exact tyW_end s1 rx (kd_of hk), fx, B1, μ1, st1, sl, s1, r.mono h1 h2, ?_⟩
        refine (End.bind (P := PL G) (q.mono h1 h2)).imp fun vs H2 ⟨B2, μ2, st2, ds, h3, h4, s2, rv, q2⟩ => ?_
        split at q2
        · exact q2.elim
        · rename_i hk2
          have hk2 : kd (view st1 d) = kd (view st2 d) := by simpa using hk2
          rw [K.K, eT, hk2]
          exact bm_end s2 (rx.mono h3 h4) rv q2
  cases hr : (evX C sl a).v st with
  | no => simp only [evX, Ev.of, hr, R.bind_no] at q; exact q.elim
  | exc x st1 =>
    obtain ⟨T, hT⟩ := hm
    exact ⟨T, hT, fin T fun d st1 e => by rw [hr] at e; cases e⟩
  | ok d st1 =>
    have q' := q
    simp only [evX, Ev.of, hr, R.bind_ok] at q'
    split at q'
    · exact q'.elim
    · rename_i hk
      have hk : bmOk (tyOf (kd (view st1 d))) m = true := by simpa using hk
      exact ⟨_, hk, fin _ fun d' st1' e _ => by rw [hr] at e; cases e; rfl⟩
theorem snd_bm0 (K : Cxt G C W k fl X) {c : Bool} {m : String} {a : IE} {x : Expr} {apos pos : Pos} (ha : PE X x (tev G W C a)) (hm : ∃ T, bmOk T m = true) (hb : baseE x = true) (hline : (apos.endLine == pos.line) = true) :
    PE X (.Call (.Attribute x (Str.ofString m) apos) [] [] pos) (tev G W C (.bm c m a .nil)) := ⟨fun pins s σ H Q I h => by
  obtain ⟨T, hT, h⟩ := bm_step K hm h
  obtain ⟨id, pa, slot, hty, mt⟩ := (bmR_of (X := X) (by have := K.units; omega) hT).ex
  refine (pe_bmW0 pa slot hty mt ha (base_of hb) hline).run pins s σ H Q I ?_
  obtain ⟨fx, B, μ, st, sl, s', r, q⟩ := h
  refine ⟨fx, B, μ, st, sl, s', r, q.imp fun v H1 ⟨ty, q1⟩ => ⟨ty, ?_⟩⟩
  obtain ⟨fx', B', μ', st', sl', s'', r', q'⟩ := q1
  exact End.ok (P := PL G) q' s'' RepL.nil⟩
theorem snd_bm1 (K : Cxt G C W k fl X) {c : Bool} {m : String} {a : IE} {es : IEs} {x y : Expr} {ys : List Expr} {apos pos : Pos} (ha : PE X x (tev G W C a)) (hs : PA X (y :: ys) (tevs G W C es)) (hm : ∃ T, bmOk T m = true) (hb : baseE x = true)
    (hline : (apos.endLine == pos.line) = true) (hn : (y :: ys).all noStar = true) (hl : (y :: ys).length < 29) :
    PE X (.Call (.Attribute x (Str.ofString m) apos) (y :: ys) [] pos) (tev G W C (.bm c m a es)) := ⟨fun pins s σ H Q I h => by
  obtain ⟨T, hT, h⟩ := bm_step K hm h
  obtain ⟨id, pa, slot, hty, mt⟩ := (bmR_of (X := X) (by have := K.units; omega) hT).ex
  have hn2 := hn
  simp only [List.all_cons, Bool.and_eq_true] at hn2
  refine (pe_bmW pa slot hty mt ha hs (base_of hb) ?_ hline (star_cons hn2.1) (star_plain hn2.2)).run pins s σ H Q I h
  rw [star_all hn]
  simp [backToKw, keywordEach]
  simp at hl; omega⟩

/-! ### defs -/
theorem fnX_room (K : Cxt G C W k fl X) : Room k X.A := K.room.mono (by omega)
/-- a def's promise, from the evaluator's call -/
theorem sp_end {c f : String} {sd : Bool} {fx B : Hp} {μ : List Addr} {st : Store} {H : Hp} {σ : L2.St} {ds : List D} {vs : List V} {Q : VK} (s : SR G fx B μ st H) (rv : RepL G B μ ds vs)
    (q : End G (PD G) fx B μ W σ (if sd = true then shut st (C.call c f ds st) else C.call c f ds st) Q) : spOf G C c f vs H Q (WE W σ) := by
  refine ⟨fx, B, μ, st, ds, s, rv, ?_⟩
  have q2 : End G (PD G) fx B μ W σ (C.call c f ds st) Q := by
    cases sd with
    | true => exact shut_end s q
    | false => exact q
  cases hr : C.call c f ds st with
  | ok d st2 => rw [hr] at q2; exact q2
  | exc x st2 => rw [hr] at q2; exact q2
  | no => rw [hr] at q2; exact q2
theorem evEs_nil {sl : Slots} {st : Store} : evEs C sl .nil st = .ok [] st := rfl
/-- the arguments' reading, where there are none -/
theorem args_nil {fx B : Hp} {μ : List Addr} {st : Store} {sl : Slots} {σ : L2.St} {H : Hp} {f : List D → Store → R D} {Q : VK} (s : SR G fx B μ st H) (q : End G (PD G) fx B μ W σ ((evEs C sl .nil st).bind f) Q) :
    End G (PD G) fx B μ W σ (f [] st) Q := q
theorem snd_call0 (K : Cxt G C W k fl X) {sd : Bool} {f : String} {p pos : Pos} (hg : glB X.env.scope (Str.ofString f) = true) (ho : okN (Str.ofString f) = true) :
    PE X (.Call (.Name (Str.ofString f) p) [] [] pos) (tev G W C (.call sd f .nil)) := ⟨fun pins s σ H Q I h => by
  obtain ⟨fx, B, μ, st, sl, s', r, q⟩ := h
  simp only [evX, Ev.of] at q
  by_cases hh : C.has "" f = true
  · rw [if_pos hh] at q
    obtain ⟨fa, hm, ⟨fd, ps, hb, F⟩, kp⟩ := K.fn f hh
    refine wpAny_Call_Name_kw (ld_glob I (gl_of hg) hm ?_ (okN_dbg ho))
    exact PySem.W.callWith_K0 I.kIn kp (run_fnS (us := []) (vs := []) (E := WE W) F (fnX_room K) hb (passAt K.tk σ) I .nil (sp_end s' RepL.nil (args_nil s' q)))
  · rw [if_neg hh] at q; exact q.elim⟩
theorem snd_call (K : Cxt G C W k fl X) {sd : Bool} {f : String} {es : IEs} {y : Expr} {ys : List Expr} {p pos : Pos} (ha : PA X (y :: ys) (tevs G W C es)) (hg : glB X.env.scope (Str.ofString f) = true) (ho : okN (Str.ofString f) = true) (hn : (y :: ys).all noStar = true) :
    PE X (.Call (.Name (Str.ofString f) p) (y :: ys) [] pos) (tev G W C (.call sd f es)) := ⟨fun pins s σ H Q I h => by
  obtain ⟨fx, B, μ, st, sl, s', r, q⟩ := h
  simp only [evX, Ev.of] at q
  by_cases hh : C.has "" f = true
  · rw [if_pos hh] at q
    obtain ⟨fa, hm, ⟨fd, ps, hb, F⟩, kp⟩ := K.fn f hh
    have h2 : tevs G W C es σ H fun vs H1 => spOf G C "" f vs H1 Q (WE W σ) :=
      ⟨fx, B, μ, st, sl, s', r, (End.bind (P := PL G) q).imp fun vs H1 ⟨B1, μ1, st1, ds, h1, h2, s1, rv, q1⟩ => sp_end s1 rv q1⟩
    have hn2 := hn
    simp only [List.all_cons, Bool.and_eq_true] at hn2
    refine wpAny_Call_Name_kw (ld_glob I (gl_of hg) hm ?_ (okN_dbg ho))
    exact PySem.W.callWith_K (h₀ := X.base) I.ok.mod.kin kp (thn (ha.run pos pins s σ H _ I h2) fun us s1 ⟨vs, H1, I1, r1, q1⟩ => ⟨I1.kIn, run_fnS (E := WE W) F (fnX_room K) hb (passAt K.tk σ) I1 r1 q1⟩) (star_cons hn2.1) (star_plain hn2.2)
  · rw [if_neg hh] at q; exact q.elim⟩

/-! ### methods of own classes -/
/-- a method call's tree -/
theorem meth_tree {o : Expr} {m : Str} {apos pos : Pos} {args : List Expr} {env : Env} (hb : baseE o = true) (hline : (apos.endLine == pos.line) = true) (hn : args.all noStar = true) (hl : args.length < 29) :
    eval (.Call (.Attribute o m apos) args [] pos) env = (do
      let ov ← eval o env
      standAt apos.atName
      let (f, first) ← holding [ov] (getMethod ov m (do return (← importBound o env).getD true))
      callWith pos f first (backTo pos (starEach args env)) (backToKw pos (keywordEach [] env))) := by
  have e1 : eval (.Call (.Attribute o m apos) args [] pos) env = (do
      let ov ← attributeBase o m env (eval o env)
      standAt apos.atName
      methodCall o m apos pos env ov (args.length + ([] : List Keyword).length) (backTo pos (starEach args env)) (backToKw pos (keywordEach [] env))) := rfl
  have few : methodCallForm (args.length + ([] : List Keyword).length) (backTo pos (starEach args env)) (backToKw pos (keywordEach [] env)) = true := by
    unfold methodCallForm
    rw [star_all hn]
    simp [backToKw, keywordEach]; omega
  rw [e1, base_of hb]
  unfold methodCall
  rw [few]
  unfold calleeOf methodCallPos
  simp only [hline, Bool.not_true, Bool.false_or, if_true, pure_bind]
/-- the method is called, behind its receiver and its arguments -/
theorem run_meth (K : Cxt G C W k fl X) {c m : String} {sd : Bool} {x : D} {v : V} {u : Value} {pins : List (Addr × Obj)} {σ : L2.St} {fx B : Hp} {μ : List Addr} {st : Store} {H : Hp} {s1 : Shared} {ds : List D} {vs : List V} {us : List Value} {Q : VK} {fa : Addr}
    (FX : FnX G C k X c m fa) (I : Inv X pins σ H s1) (s : SR G fx B μ st H) (rx : Rep G B μ x v) (ru : RelV v u) (rv : RepL G B μ ds vs) (rus : Vals vs us)
    (q : End G (PD G) fx B μ W σ (if sd = true then shut st (C.call c m (x :: ds) st) else C.call c m (x :: ds) st) Q) : wpAny (model X.prog X.w) X.A (call (.ref fa) (u :: us)) (EP X pins σ Q) X.xe s1 := by
  obtain ⟨⟨fd, ps, hb, F⟩, kp⟩ := FX
  exact run_fnS (E := WE W) F (fnX_room K) hb (passAt K.tk σ) I (.cons ru rus) (sp_end s (.cons rx rv) q)
theorem snd_meth0 (K : Cxt G C W k fl X) {sd : Bool} {m : String} {a : IE} {x : Expr} {apos pos : Pos} (ha : PE X x (tev G W C a)) (hb : baseE x = true) (hline : (apos.endLine == pos.line) = true) :
    PE X (.Call (.Attribute x (Str.ofString m) apos) [] [] pos) (tev G W C (.meth sd a m .nil)) := ⟨fun pins s σ H Q I h => by
  obtain ⟨fx, B, μ, st, sl, s', r, q⟩ := h
  refine PySem.W.methodCall_KW (thn (ha.run pins s σ H _ I ⟨fx, B, μ, st, sl, s', r, End.bind (P := PD G) q⟩) fun u s1 ⟨v, H1, I1, r1, B1, μ1, st1, d, h1, h2, sr, rv, q1⟩ => ?_) (meth_tree hb hline rfl (by simp))
  split at q1
  · rename_i c fs hv
    split at q1
    · exact q1.elim
    · rename_i hc
      simp only [not_or, Bool.not_eq_true, Decidable.not_not] at hc
      obtain ⟨p, Ca, dx, fv, e1, g1, g2, g3⟩ := view_obj_inv sr rv hv
      obtain ⟨fa, M, FX⟩ := K.mt c m Ca (by simpa using hc.2) g2
      subst e1; cases r1
      have hl : fv.lookup (Str.ofString m) = none := by
        have := (g3.lookup m).isSome
        rw [hc.1] at this
        cases h : fv.lookup (Str.ofString m) with
        | none => rfl
        | some z => rw [h] at this; cases this
      refine getmeth_ok I1 g1 (by rw [K.K]; exact (K.cls c Ca g2).1.cls) M hl ?_
      exact PySem.W.callWith_K0 (first := [.ref p]) I1.kIn FX.kp (run_meth K FX I1 sr rv rfl RepL.nil .nil (args_nil sr q1))
  · exact q1.elim⟩
theorem snd_meth (K : Cxt G C W k fl X) {sd : Bool} {m : String} {a : IE} {es : IEs} {x y : Expr} {ys : List Expr} {apos pos : Pos} (ha : PE X x (tev G W C a)) (hs : PA X (y :: ys) (tevs G W C es)) (hb : baseE x = true) (hline : (apos.endLine == pos.line) = true)
    (hn : (y :: ys).all noStar = true) (hl : (y :: ys).length < 29) : PE X (.Call (.Attribute x (Str.ofString m) apos) (y :: ys) [] pos) (tev G W C (.meth sd a m es)) := ⟨fun pins s σ H Q I h => by
  obtain ⟨fx, B, μ, st, sl, s', r, q⟩ := h
  refine PySem.W.methodCall_KW (thn (ha.run pins s σ H _ I ⟨fx, B, μ, st, sl, s', r, End.bind (P := PD G) q⟩) fun u s1 ⟨v, H1, I1, r1, B1, μ1, st1, d, h1, h2, sr, rv, q1⟩ => ?_) (meth_tree hb hline hn hl)
  split at q1
  · rename_i c fs hv
    split at q1
    · exact q1.elim
    · rename_i hc
      simp only [not_or, Bool.not_eq_true, Decidable.not_not] at hc
      obtain ⟨p, Ca, dx, fv, e1, g1, g2, g3⟩ := view_obj_inv sr rv hv
      obtain ⟨fa, M, FX⟩ := K.mt c m Ca (by simpa using hc.2) g2
      subst e1; cases r1
      have hlk : fv.lookup (Str.ofString m) = none := by
        have := (g3.lookup m).isSome
        rw [hc.1] at this
        cases h : fv.lookup (Str.ofString m) with
        | none => rfl
        | some z => rw [h] at this; cases this
      refine getmeth_ok I1 g1 (by rw [K.K]; exact (K.cls c Ca g2).1.cls) M hlk ?_
      have hn2 := hn
      simp only [List.all_cons, Bool.and_eq_true] at hn2
      have h3 : tevs G W C es σ H1 fun vs H2 => ∃ B2 μ2 st2 ds, SR G fx B2 μ2 st2 H2 ∧ Rep G B2 μ2 d (.ref p) ∧ RepL G B2 μ2 ds vs ∧ End G (PD G) fx B2 μ2 W σ (if sd = true then shut st2 (C.call c m (d :: ds) st2) else C.call c m (d :: ds) st2) Q :=
        ⟨fx, B1, μ1, st1, sl, sr, r.mono h1 h2, (End.bind (P := PL G) q1).imp fun vs H2 ⟨B2, μ2, st2, ds, k1, k2, s2, rvs, q2⟩ => ⟨B2, μ2, st2, ds, s2, rv.mono k1 k2, rvs, q2⟩⟩
      exact PySem.W.callWith_K (first := [.ref p]) (h₀ := X.base) I.ok.mod.kin FX.kp (thn (hs.run pos pins s1 σ H1 _ I1 h3) fun us s2 ⟨vs, H2, I2, r2, B2, μ2, st2, ds, s2', rx2, rvs, q2⟩ =>
        ⟨I2.kIn, run_meth K FX I2 s2' rx2 rfl rvs r2 q2⟩) (star_cons hn2.1) (star_plain hn2.2)
  · exact q1.elim⟩

/-! ### instances -/
/-- a new instance, laid as a cell -/
theorem SR.made {fx B : Hp} {μ : List Addr} {st : Store} {H : Hp} {c : String} {Ca x dx : Addr} (s : SR G fx B μ st H) (hc : G.cl c = some Ca) (hx : H x = none) (hd : H dx = none) (hne : dx ≠ x) :
    ∃ B', Same B B' ∧ SR G fx B' (μ ++ [x]) (st ++ [.obj c []]) (upd (upd H dx (.own x)) x (.ins Ca dx [])) := by
  obtain ⟨sm, s1⟩ := s.newB (o := .own x) hd
  refine ⟨_, sm, s1.newC (by rw [upd_ne (Ne.symm hne)]; exact hx) (.obj hc ⟨rfl, fun i p q h _ => by simp at h⟩)⟩
theorem make_end {c : String} {Ca : Addr} {sd : Bool} {fx B : Hp} {μ : List Addr} {st : Store} {H : Hp} {σ : L2.St} {ds : List D} {vs : List V} {Q : VK} (hc : G.cl c = some Ca) (s : SR G fx B μ st H) (rv : RepL G B μ ds vs)
    (q : End G (PD G) fx B μ W σ (let r := (C.call c "__init__" (.ref st.length :: ds) (st ++ [.obj c []])).bind fun v st2 => match v with | .non => .ok (.ref st.length) st2 | _ => .no
      if sd = true then shut st r else r) Q) :
    ∀ x dx, H x = none → H dx = none → dx ≠ x → spOf G C c "__init__" (.ref x :: vs) (upd (upd H dx (.own x)) x (.ins Ca dx [])) (fun v H2 => v = .non ∧ Q (.ref x) H2) (WE W σ) := fun x dx hx hd hne => by
  obtain ⟨B', sm, s1⟩ := s.made (c := c) (Ca := Ca) hc hx hd hne
  have q2 : End G (PD G) fx B μ W σ ((C.call c "__init__" (.ref st.length :: ds) (st ++ [.obj c []])).bind fun v st2 => match v with | .non => .ok (.ref st.length) st2 | _ => .no) Q := by
    cases sd with
    | true => exact shut_end s q
    | false => exact q
  have q3 := End.mono q2 sm (Pre.app μ [x])
  have hx' : (μ ++ [x])[st.length]? = some x := by rw [← s.len]; simp
  refine ⟨fx, B', μ ++ [x], st ++ [.obj c []], .ref st.length :: ds, s1, .cons (.ref hx') (rv.mono sm (Pre.app μ [x])), ?_⟩
  have q4 := End.bind (P := PD G) q3
  cases hr : C.call c "__init__" (.ref st.length :: ds) (st ++ [.obj c []]) with
  | no => rw [hr] at q4; exact q4
  | exc y st2 => rw [hr] at q4; exact q4
  | ok d st2 =>
    rw [hr] at q4
    intro B2 μ2 H2 v h1 h2 s2 r2
    obtain ⟨B3, μ3, st3, d3, k1, k2, s3, r3, q5⟩ := q4 B2 μ2 H2 v h1 h2 s2 r2
    split at q5
    · cases r3
      exact ⟨rfl, End.ok (P := PD G) q5 s3 (.ref (k2 _ _ hx'))⟩
    · exact q5.elim
end
end Fg

set_option maxHeartbeats 4000000
/-! Fl: instances made. -/
namespace Fg
open PySem PySem.Spec PyProof.Rows L2

section
variable {G : GE} {C : Cf} {W : WX} {k : Nat} {fl : List String} {X : Cx}
/-- C(..) where what is raised is wished for at the slots -/
theorem run_mk {Ca fa : Addr} {fd : FuncData} {ps : List Str} {sp : Sp} {E : L2.St → XK} {pins : List (Addr × Obj)} {σ : L2.St} {H : Hp} {s : Shared} {Q : VK} {us : List Value} {vs : List V} (M : Mk X.K Ca fa)
    (F : FnOk X.prog X.w X.K X.mg X.base (L2.CX X.prog X.w) k fa fd ps sp) (hr : Room (k + 1) X.A) (hb : Binds X.K fd ps []) (hx : PassesAt (L2.CX X.prog X.w) X σ (E σ)) (I : Inv X pins σ H s) (r : Vals vs us)
    (h : ∀ x dx, H x = none → H dx = none → dx ≠ x → sp (.ref x :: vs) (upd (upd H dx (.own x)) x (.ins Ca dx [])) (fun v H2 => v = .non ∧ Q (.ref x) H2) (E σ)) :
    wpAny (model X.prog X.w) X.A (call (.ref Ca) us) (EP X pins σ Q) X.xe s := by
  generalize hn : s.heap.objs.size = n
  have hq := h (n + 1) n (by rw [← hn]; exact I.hok.fresh (Nat.le_succ _)) (by rw [← hn]; exact I.hok.fresh (Nat.le_refl _)) (Nat.ne_of_lt (Nat.lt_succ_self n))
  subst hn
  have J := Inv.made (C := Ca) I
  have r2 : Vals (V.ref (s.heap.objs.size + 1) :: vs) (Value.ref (s.heap.objs.size + 1) :: us) := .cons rfl r
  have hl : (Value.ref (s.heap.objs.size + 1) :: us).length = ps.length := by rw [← r2.length]; exact F.len _ _ _ _ hq
  have hbind := hb _ (Value.ref (s.heap.objs.size + 1) :: us) J.kIn (by rw [List.append_nil]; exact hl)
  rw [List.append_nil] at hbind
  refine wpAny_call (make_map (f := fa) I.kIn M.makes M.init (beq_iff_eq.mp M.fn) ?_)
  refine codeAny_mono (F.run _ X.stack _ _ ⟨Value.ref (s.heap.objs.size + 1) :: us, []⟩ _ _ _ (E σ) (hr.make Ca us []) (J.env0.make Ca us []) hbind r2 hq) fun res s' hres => ?_
  cases res with
  | error e => exact hx pins _ _ e s' J hres
  | ok f =>
    cases f with
    | ret u =>
      obtain ⟨v, H', J', rv, ev, q3⟩ := J.after hres
      subst ev
      exact ⟨rv, V.ref (s.heap.objs.size + 1), H', J', rfl, q3⟩
    | next => exact hres.elim
    | brk => exact hres.elim
    | cont => exact hres.elim
theorem snd_make0 (K : Cxt G C W k fl X) {sd : Bool} {c : String} {p pos : Pos} (hg : glB X.env.scope (Str.ofString c) = true) (ho : okN (Str.ofString c) = true) :
    PE X (.Call (.Name (Str.ofString c) p) [] [] pos) (tev G W C (.make sd c .nil)) := ⟨fun pins s σ H Q I h => by
  obtain ⟨fx, B, μ, st, sl, s', r, q⟩ := h
  simp only [evX, Ev.of] at q
  by_cases hh : C.has c "__init__" = true
  · rw [if_neg (by simpa using hh)] at q
    obtain ⟨Ca, fa, hc, hm, M, ⟨fd, ps, hb, F⟩, kp⟩ := K.mke c hh
    refine wpAny_Call_Name_kw (ld_glob I (gl_of hg) hm ?_ (okN_dbg ho))
    exact PySem.W.callWith_K0 I.kIn M.kp (run_mk (us := []) (vs := []) (E := WE W) M F K.room hb (passAt K.tk σ) I .nil (make_end hc s' RepL.nil (args_nil s' q)))
  · rw [if_pos hh] at q; exact q.elim⟩
theorem snd_make (K : Cxt G C W k fl X) {sd : Bool} {c : String} {es : IEs} {y : Expr} {ys : List Expr} {p pos : Pos} (ha : PA X (y :: ys) (tevs G W C es)) (hg : glB X.env.scope (Str.ofString c) = true) (ho : okN (Str.ofString c) = true) (hn : (y :: ys).all noStar = true) :
    PE X (.Call (.Name (Str.ofString c) p) (y :: ys) [] pos) (tev G W C (.make sd c es)) := ⟨fun pins s σ H Q I h => by
  obtain ⟨fx, B, μ, st, sl, s', r, q⟩ := h
  simp only [evX, Ev.of] at q
  by_cases hh : C.has c "__init__" = true
  · rw [if_neg (by simpa using hh)] at q
    obtain ⟨Ca, fa, hc, hm, M, ⟨fd, ps, hb, F⟩, kp⟩ := K.mke c hh
    have h2 : tevs G W C es σ H fun vs H1 => ∀ x dx, H1 x = none → H1 dx = none → dx ≠ x → spOf G C c "__init__" (.ref x :: vs) (upd (upd H1 dx (.own x)) x (.ins Ca dx [])) (fun v H2 => v = .non ∧ Q (.ref x) H2) (WE W σ) :=
      ⟨fx, B, μ, st, sl, s', r, (End.bind (P := PL G) q).imp fun vs H1 ⟨B1, μ1, st1, ds, h1, h2, s1, rv, q1⟩ => make_end hc s1 rv q1⟩
    have hn2 := hn
    simp only [List.all_cons, Bool.and_eq_true] at hn2
    refine wpAny_Call_Name_kw (ld_glob I (gl_of hg) hm ?_ (okN_dbg ho))
    exact PySem.W.callWith_K (h₀ := X.base) I.ok.mod.kin M.kp (thn (ha.run pos pins s σ H _ I h2) fun us s1 ⟨vs, H1, I1, r1, q1⟩ => ⟨I1.kIn, run_mk (E := WE W) M F K.room hb (passAt K.tk σ) I1 r1 q1⟩) (star_cons hn2.1) (star_plain hn2.2)
  · rw [if_pos hh] at q; exact q.elim⟩
end
end Fg

set_option maxHeartbeats 4000000
/-! Zm: zip of a list with a tuple: the next pair. -/
namespace Zm
open PySem
section
variable {prog : Program} {w : World} {A : Around} {E : Value → Shared → Prop} {s : Shared}
/-- what a pair more leaves -/
structure Left (h h' : Heap) (zr TI ot j1 j2 la lb : Addr) (n m : Nat) (x y : Value) : Prop where
  zip : IsZip h' zr TI ot (rawInt h.objs.size)
  own : IsPair h' ot x y
  a : h'.IsListIter j1 la (n + 1)
  b : h'.IsTupleIter j2 lb (m + 1)
  new : IsPair h' h.objs.size x y
  size : h'.objs.size = h.objs.size + 1
  keep : ∀ c o, c ≠ zr → c ≠ ot → c ≠ j1 → c ≠ j2 → h.get? c = some o → h'.get? c = some o
theorem next_pair {zr TI ot j1 j2 la lb : Addr} {n m : Nat} {xs ys : Array Value} {x y u v : Value} {Q : Value → Shared → Prop} (far : ZipApart zr TI ot j1 j2 la lb) (z0 : IsZip s.heap zr TI ot .none) (p0 : IsPair s.heap TI (.ref j1) (.ref j2))
    (o0 : IsPair s.heap ot u v) (a0 : s.heap.IsListIter j1 la n) (b0 : s.heap.IsTupleIter j2 lb m) (la0 : s.heap.IsList la xs) (lb0 : s.heap.IsTuple lb ys) (ex : xs[n]? = some x) (ey : ys[m]? = some y)
    (q : ∀ h', Left s.heap h' zr TI ot j1 j2 la lb n m x y → Q (.ref s.heap.objs.size) { s with heap := h' }) : wpAny (model prog w) A (Builtin.«zip.__next__» ⟨[.ref zr], []⟩) (fun r s' => ∃ t, r = .done (.ret t) ∧ Q t s') E s := by
  -- not strict; its two iterators
  show wpAny _ _ (field (.ref zr) 2 >>= _) _ _ _
  refine wpAny_bind (wpAny_field z0 rfl (x := .bool false) rfl (show wpAny _ _ (field (.ref zr) 3 >>= _) _ _ _ from wpAny_bind (wpAny_field z0 rfl (x := .ref TI) rfl (wpAny_bind (wpAny_seqItems p0 rfl ?_)))))
  -- its own pair is free
  show wpAny _ _ (Builtin.SmallTypes.ownedTupleIsFree (.ref zr) >>= _) _ _ _
  unfold Builtin.SmallTypes.ownedTupleIsFree
  refine wpAny_bind (wpAny_bind (wpAny_field z0 rfl (x := .none) rfl (wpAny_pure ?_)))
  simp only [if_true]
  refine wpAny_bind (wpAny_rule (wpAny_bind (wpAny_field z0 rfl (x := .ref ot) rfl (wpAny_bind (wpAny_setField_rec z0 (by simp) fun g1 z1 e1 => ?_)))))
  replace z1 : IsZip g1 zr TI ot .ellipsis := z1
  have t1 := e1.extBut
  refine wpAny_bind (by
    simp only [List.zipIdx_cons, List.zipIdx_nil, List.forIn_cons, List.forIn_nil]
    refine wpAny_bind (wpAny_bind (wpAny_onRaise (show wpAny _ _ (Builtin.SmallTypes.nextOf (.ref j1) >>= _) _ _ _ from wpAny_bind (wpAny_nextOf_list_item (a0.extBut t1 far.i1z) (la0.extBut t1 far.l1z) ex fun g2 a2 e2 => wpAny_pure ?_))))
    have t2 := e2.extBut
    have o2 : IsPair g2 ot u v := t2 _ _ far.TOi1 (t1 _ _ far.TOz o0)
    refine wpAny_bind (wpAny_seqItems o2 rfl (wpAny_bind (wpAny_updateSeq_pair o2 fun g3 o3 e3 => ?_)))
    replace o3 : IsPair g3 ot x v := o3
    have t3 := e3.extBut
    refine wpAny_bind (wpAny_letGo (wpAny_pure (wpAny_bind (wpAny_bind (wpAny_onRaise ?_)))))
    refine (show wpAny _ _ (Builtin.SmallTypes.nextOf (.ref j2) >>= _) _ _ _ from wpAny_bind (RZ.nextOf_tuple_item (((b0.extBut t1 far.i2z).extBut t2 far.i12.symm).extBut t3 far.TOi2.symm) (((lb0.extBut t1 far.l2z).extBut t2 far.l2i1).extBut t3 far.l2TO) ey fun g4 b4 e4 => wpAny_pure ?_))
    have t4 := e4.extBut
    have o4 : IsPair g4 ot x v := t4 _ _ far.TOi2 o3
    refine wpAny_bind (wpAny_seqItems o4 rfl (wpAny_bind (wpAny_updateSeq_pair o4 fun g5 o5 e5 => ?_)))
    replace o5 : IsPair g5 ot x y := o5
    have t5 := e5.extBut
    refine wpAny_bind (wpAny_letGo (wpAny_pure (wpAny_pure (wpAny_bind (wpAny_seqItems o5 rfl (wpAny_bind (wpAny_newTuple ?_)))))))
    have sz : g5.objs.size = s.heap.objs.size := by rw [e5.1, e4.1, e3.1, e2.1, e1.1]
    have z5 : IsZip g5 zr TI ot .ellipsis := t5 _ _ far.TOz.symm (t4 _ _ far.i2z.symm (t3 _ _ far.TOz.symm (t2 _ _ far.i1z.symm z1)))
    have kp : ∀ c o, c ≠ zr → c ≠ ot → c ≠ j1 → c ≠ j2 → s.heap.get? c = some o → g5.get? c = some o := fun c o n1 n2 n3 n4 e => t5 _ _ n2 (t4 _ _ n4 (t3 _ _ n2 (t2 _ _ n3 (t1 _ _ n1 e))))
    have a5 : g5.IsListIter j1 la (n + 1) := ((a2.extBut t3 far.TOi1.symm).extBut t4 far.i12).extBut t5 far.TOi1.symm
    have b5 : g5.IsTupleIter j2 lb (m + 1) := b4.extBut t5 far.TOi2.symm
    have zl : zr < g5.objs.size := Heap.lt_size z5
    show wpAny _ _ (Builtin.SmallTypes.ownedTupleHandOut (.ref zr) (.ref g5.objs.size) >>= _) _ _ _
    unfold Builtin.SmallTypes.ownedTupleHandOut
    have z6 : IsZip (g5.push { cls := .type "tuple", data := .seq #[x, y] }) zr TI ot .ellipsis := Heap.get?_push_of_some _ z5
    refine wpAny_bind (wpAny_bind (wpAny_setField_rec z6 (by simp) fun g7 z7 e7 => ?_))
    replace z7 : IsZip g7 zr TI ot (rawInt g5.objs.size) := z7
    refine wpAny_setField_rec z7 (by simp) fun g8 z8 e8 => ?_
    replace z8 : IsZip g8 zr TI ot (rawInt g5.objs.size) := z8
    have up : ∀ c o, c ≠ zr → g5.get? c = some o → g8.get? c = some o := fun c o n1 e => e8.extBut _ _ n1 (e7.extBut _ _ n1 (Heap.get?_push_of_some _ e))
    have p8 : IsPair g8 g5.objs.size x y := e8.extBut _ _ (Nat.ne_of_gt zl) (e7.extBut _ _ (Nat.ne_of_gt zl) (Heap.get?_push_size _ rfl))
    have s8 : g8.objs.size = g5.objs.size + 1 := by rw [e8.1, e7.1, Heap.size_push]
    rw [sz] at z8 p8 s8
    refine wpAny_pure ⟨_, rfl, ?_⟩
    show Q (.ref g5.objs.size) _
    rw [sz]
    exact q g8 ⟨z8, up _ _ far.TOz o5, a5.at fun o e => up _ o far.i1z e, b5.at fun o e => up _ o far.i2z e, p8, s8, fun c o n1 n2 n3 n4 e => up c o n1 (kp c o n1 n2 n3 n4 e)⟩)
/-- one of the two has come to its end -/
theorem next_none {zr TI ot j1 j2 la lb : Addr} {n m : Nat} {xs ys : Array Value} {u v : Value} {Q : Fin → Shared → Prop} (calm : A.handled = none) (far : ZipApart zr TI ot j1 j2 la lb) (z0 : IsZip s.heap zr TI ot .none) (p0 : IsPair s.heap TI (.ref j1) (.ref j2))
    (o0 : IsPair s.heap ot u v) (a0 : s.heap.IsListIter j1 la n) (b0 : s.heap.IsTupleIter j2 lb m) (la0 : s.heap.IsList la xs) (lb0 : s.heap.IsTuple lb ys) (fin : xs[n]? = none ∨ ys[m]? = none)
    (q : ∀ h' e, (∀ c o, c ≠ zr → c ≠ ot → c ≠ j1 → c ≠ j2 → s.heap.get? c = some o → h'.get? c = some o) → (∃ o, h'.get? e = some o ∧ o.cls = .type "StopIteration") → E (.ref e) { s with heap := h' }) :
    wpAny (model prog w) A (Builtin.«zip.__next__» ⟨[.ref zr], []⟩) Q E s := by
  -- not strict; its two iterators
  show wpAny _ _ (field (.ref zr) 2 >>= _) _ _ _
  refine wpAny_bind (wpAny_field z0 rfl (x := .bool false) rfl (show wpAny _ _ (field (.ref zr) 3 >>= _) _ _ _ from wpAny_bind (wpAny_field z0 rfl (x := .ref TI) rfl (wpAny_bind (wpAny_seqItems p0 rfl ?_)))))
  -- its own pair is free
  show wpAny _ _ (Builtin.SmallTypes.ownedTupleIsFree (.ref zr) >>= _) _ _ _
  unfold Builtin.SmallTypes.ownedTupleIsFree
  refine wpAny_bind (wpAny_bind (wpAny_field z0 rfl (x := .none) rfl (wpAny_pure ?_)))
  simp only [if_true]
  refine wpAny_bind (wpAny_rule (wpAny_bind (wpAny_field z0 rfl (x := .ref ot) rfl (wpAny_bind (wpAny_setField_rec z0 (by simp) fun g1 z1 e1 => ?_)))))
  replace z1 : IsZip g1 zr TI ot .ellipsis := z1
  have t1 := e1.extBut
  refine wpAny_bind (by
    simp only [List.zipIdx_cons, List.zipIdx_nil, List.forIn_cons, List.forIn_nil]
    cases ex : xs[n]? with
    | none =>
      refine wpAny_bind (wpAny_bind (wpAny_onRaise (show wpAny _ _ (Builtin.SmallTypes.nextOf (.ref j1) >>= _) _ _ _ from wpAny_bind (wpAny_nextOf_list_end calm (a0.extBut t1 far.i1z) (la0.extBut t1 far.l1z) ex fun g2 e t2 he => ?_))))
      obtain ⟨oe, ho, hc⟩ := he
      have z2 : IsZip g2 zr TI ot .ellipsis := t2 _ _ far.i1z.symm z1
      have ne : e ≠ zr := fun i => by subst i; rw [z2] at ho; cases ho; simp at hc
      refine wpAny_setField_rec z2 (by simp) fun g3 _ e3 => q g3 e (fun c o n1 _ n3 _ i => e3.extBut _ _ n1 (t2 _ _ n3 (t1 _ _ n1 i))) ⟨oe, e3.extBut _ _ ne ho, hc⟩
    | some x =>
      have ey : ys[m]? = none := fin.elim (fun i => by rw [ex] at i; cases i) id
      refine wpAny_bind (wpAny_bind (wpAny_onRaise (show wpAny _ _ (Builtin.SmallTypes.nextOf (.ref j1) >>= _) _ _ _ from wpAny_bind (wpAny_nextOf_list_item (a0.extBut t1 far.i1z) (la0.extBut t1 far.l1z) ex fun g2 a2 e2 => wpAny_pure ?_))))
      have t2 := e2.extBut
      have o2 : IsPair g2 ot u v := t2 _ _ far.TOi1 (t1 _ _ far.TOz o0)
      refine wpAny_bind (wpAny_seqItems o2 rfl (wpAny_bind (wpAny_updateSeq_pair o2 fun g3 o3 e3 => ?_)))
      have t3 := e3.extBut
      refine wpAny_bind (wpAny_letGo (wpAny_pure (wpAny_bind (wpAny_bind (wpAny_onRaise ?_)))))
      refine (show wpAny _ _ (Builtin.SmallTypes.nextOf (.ref j2) >>= _) _ _ _ from wpAny_bind (RZ.nextOf_tuple_end calm (((b0.extBut t1 far.i2z).extBut t2 far.i12.symm).extBut t3 far.TOi2.symm) (((lb0.extBut t1 far.l2z).extBut t2 far.l2i1).extBut t3 far.l2TO) ey fun g4 e t4 he => ?_))
      obtain ⟨oe, ho, hc⟩ := he
      have z4 : IsZip g4 zr TI ot .ellipsis := t4 _ _ far.i2z.symm (t3 _ _ far.TOz.symm (t2 _ _ far.i1z.symm z1))
      have ne : e ≠ zr := fun i => by subst i; rw [z4] at ho; cases ho; simp at hc
      refine wpAny_setField_rec z4 (by simp) fun g5 _ e5 => q g5 e (fun c o n1 n2 n3 n4 i => e5.extBut _ _ n1 (t4 _ _ n4 (t3 _ _ n2 (t2 _ _ n3 (t1 _ _ n1 i))))) ⟨oe, e5.extBut _ _ ne ho, hc⟩)
theorem py_pair {zr TI ot j1 j2 la lb : Addr} {n m : Nat} {xs ys : Array Value} {x y u v : Value} {Q : Option Value → Shared → Prop} (far : ZipApart zr TI ot j1 j2 la lb) (z0 : IsZip s.heap zr TI ot .none) (p0 : IsPair s.heap TI (.ref j1) (.ref j2))
    (o0 : IsPair s.heap ot u v) (a0 : s.heap.IsListIter j1 la n) (b0 : s.heap.IsTupleIter j2 lb m) (la0 : s.heap.IsList la xs) (lb0 : s.heap.IsTuple lb ys) (ex : xs[n]? = some x) (ey : ys[m]? = some y)
    (q : ∀ h', Left s.heap h' zr TI ot j1 j2 la lb n m x y → Q (some (.ref s.heap.objs.size)) { s with heap := h' }) : wpAny (model prog w) A (pyNext (.ref zr)) Q E s := by
  have ty : s.TypeIs (.ref zr) "zip" := ⟨_, z0, rfl⟩
  unfold pyNext
  exact wpAny_bind (wpAny_attempt (wpAny_callSpecial?_slot (name := Str.ofString "__next__") ty F.slot_zip_next (wpAny_call_entry F.slot_zip_next ty F.entry_zip_next (next_pair far z0 p0 o0 a0 b0 la0 lb0 ex ey fun h' l => wpAny_pure (q h' l)) (F.args_zip_next_1 _))))
theorem py_none {zr TI ot j1 j2 la lb : Addr} {n m : Nat} {xs ys : Array Value} {u v : Value} {Q : Option Value → Shared → Prop} (calm : A.handled = none) (far : ZipApart zr TI ot j1 j2 la lb) (z0 : IsZip s.heap zr TI ot .none) (p0 : IsPair s.heap TI (.ref j1) (.ref j2))
    (o0 : IsPair s.heap ot u v) (a0 : s.heap.IsListIter j1 la n) (b0 : s.heap.IsTupleIter j2 lb m) (la0 : s.heap.IsList la xs) (lb0 : s.heap.IsTuple lb ys) (fin : xs[n]? = none ∨ ys[m]? = none)
    (q : ∀ h', (∀ c o, c ≠ zr → c ≠ ot → c ≠ j1 → c ≠ j2 → s.heap.get? c = some o → h'.get? c = some o) → Q none { s with heap := h' }) : wpAny (model prog w) A (pyNext (.ref zr)) Q E s := by
  have ty : s.TypeIs (.ref zr) "zip" := ⟨_, z0, rfl⟩
  unfold pyNext
  refine wpAny_bind (wpAny_attempt (wpAny_callSpecial?_slot (name := Str.ofString "__next__") ty F.slot_zip_next (wpAny_call_entry F.slot_zip_next ty F.entry_zip_next (next_none calm far z0 p0 o0 a0 b0 la0 lb0 fin fun h' e kp he => ?_) (F.args_zip_next_1 _))))
  obtain ⟨o, ho, hc⟩ := he
  exact wpAny_bind (wpAny_isInstance (T := "StopIteration") (b := true) ⟨o, ho, hc⟩ isSubtype_stop (wpAny_pure (q _ kp)))
end
end Zm

set_option maxHeartbeats 4000000
/-! Zn: zip of a list with a tuple: made, walked. -/
namespace Zm
open PySem
abbrev mk1 (h : Heap) (la : Addr) : Heap := h.push { cls := .type "list_iterator", data := .fields #[.ref la, .int 0 0] }
abbrev mk2 (h : Heap) (la lb : Addr) : Heap := (mk1 h la).push { cls := .type "tuple_iterator", data := .fields #[.ref lb, .int 0 0] }
abbrev mk3 (h : Heap) (la lb : Addr) : Heap := (mk2 h la lb).push { cls := .type "tuple", data := .seq #[.ref h.objs.size, .ref (mk1 h la).objs.size] }
abbrev mk4 (h : Heap) (la lb : Addr) : Heap := (mk3 h la lb).push { cls := .type "tuple", data := .seq #[.none, .none] }
abbrev mk5 (h : Heap) (la lb : Addr) : Heap := (mk4 h la lb).push { cls := .type "zip", data := .fields #[.none, .bool false, .bool false, .ref (mk2 h la lb).objs.size, .ref (mk3 h la lb).objs.size] }
theorem new_meets (la lb : Addr) (xs ys : Array Value) : Meets (Builtin.«zip.__new__» ⟨[.type "zip", .ref la, .ref lb], []⟩) (fun _ R s => s.heap.IsList la xs ∧ s.heap.IsTuple lb ys ∧ R (.ok (.ret (.ref (mk4 s.heap la lb).objs.size))) { s with heap := mk5 s.heap la lb }) :=
  .of_wp fun prog w A R s h => by
    obtain ⟨hp, g, d, tk, os⟩ := s; obtain ⟨ha, hb, h⟩ := h
    have hsub := sub_zip
    have hA : Heap.IsList (Shared.heap ⟨hp, g, d, tk, os⟩) la xs := ha
    have hB : Heap.IsTuple (Shared.heap ⟨mk1 hp la, g, d, tk, os⟩) lb ys := Heap.IsTuple.push hb _
    wp_walk using wpAny_pyIter_list hA, wpAny_pyIter_tuple hB
    exact ⟨_, rfl, h⟩
section
variable {prog : Program} {w : World} {A : Around} {E : Value → Shared → Prop} {s : Shared}
/-- what zip(..) leaves: n the first new address -/
structure Made (h h' : Heap) (la lb n : Addr) : Prop where
  zip : IsZip h' (n + 4) (n + 2) (n + 3) .none
  two : IsPair h' (n + 2) (.ref n) (.ref (n + 1))
  own : IsPair h' (n + 3) .none .none
  a : h'.IsListIter n la 0
  b : h'.IsTupleIter (n + 1) lb 0
  keep : ∀ c o, h.get? c = some o → h'.get? c = some o
theorem made_call {la lb : Addr} {xs ys : Array Value} {Q : Value → Shared → Prop} (ha : s.heap.IsList la xs) (hb : s.heap.IsTuple lb ys) (q : ∀ h', Made s.heap h' la lb s.heap.objs.size → Q (.ref (s.heap.objs.size + 4)) { s with heap := h' }) :
    wpAny (model prog w) A (call (.type "zip") [.ref la, .ref lb]) Q E s := by
  refine callType_new F.called_zip (by decide) (F.typeCall_zip_2 _ _) (F.newCall_zip_2 _ _) (fun o => F.args_object_init_3 o _ _) F.entry_zip_new (new_meets la lb xs ys) ⟨ha, hb, ?_⟩
  have n1 : (mk1 s.heap la).objs.size = s.heap.objs.size + 1 := Heap.size_push ..
  have n2 : (mk2 s.heap la lb).objs.size = s.heap.objs.size + 2 := by rw [Heap.size_push, n1]
  have n3 : (mk3 s.heap la lb).objs.size = s.heap.objs.size + 3 := by rw [Heap.size_push, n2]
  have n4 : (mk4 s.heap la lb).objs.size = s.heap.objs.size + 4 := by rw [Heap.size_push, n3]
  have q5 : (mk5 s.heap la lb).get? (mk4 s.heap la lb).objs.size = some _ := Heap.get?_push_size _ rfl
  have q4 : (mk5 s.heap la lb).get? (mk3 s.heap la lb).objs.size = some _ := Heap.get?_push_of_some _ (Heap.get?_push_size _ rfl)
  have q3 : (mk5 s.heap la lb).get? (mk2 s.heap la lb).objs.size = some _ := Heap.get?_push_of_some _ (Heap.get?_push_of_some _ (Heap.get?_push_size _ rfl))
  have q2 : (mk5 s.heap la lb).get? (mk1 s.heap la).objs.size = some _ := Heap.get?_push_of_some _ (Heap.get?_push_of_some _ (Heap.get?_push_of_some _ (Heap.get?_push_size _ rfl)))
  have q1 : (mk5 s.heap la lb).get? s.heap.objs.size = some _ := Heap.get?_push_of_some _ (Heap.get?_push_of_some _ (Heap.get?_push_of_some _ (Heap.get?_push_of_some _ (Heap.get?_push_size _ rfl))))
  show _ ∧ _
  rw [n2, n3, n4] at q5; rw [n1, n2] at q3; rw [n3] at q4; rw [n1] at q2; rw [n4]
  have old : ∀ c o, s.heap.get? c = some o → (mk5 s.heap la lb).get? c = some o := fun c o i => Heap.get?_push_of_some _ (Heap.get?_push_of_some _ (Heap.get?_push_of_some _ (Heap.get?_push_of_some _ (Heap.get?_push_of_some _ i))))
  exact ⟨⟨_, q5, rfl⟩, q _ ⟨q5, q3, q4, ⟨_, q1, rfl, rfl⟩, ⟨_, q2, rfl, rfl⟩, old⟩⟩
end
end Zm

set_option maxHeartbeats 4000000
/-! Zo: zip of a list with a tuple, walked. -/
namespace Zm
open PySem PySem.Spec PyProof.Rows L2
/-- the list at a, the tuple at b, item by item in new pairs -/
def Itm (K : PySem.W.Frag) (a b : Addr) : It where
  go := fun i H => ∃ (xs ys : List V) (x y : V), SqL K H a xs ∧ SqT K H b ys ∧ xs[i]? = some x ∧ ys[i]? = some y
  yld := fun i H v H' => ∃ t x y, v = .ref t ∧ H t = none ∧ H' = upd H t (.tup [x, y]) ∧ (∀ xs, SqL K H a xs → xs[i]? = some x) ∧ ∀ ys, SqT K H b ys → ys[i]? = some y
  stop := fun i H => ∃ xs ys : List V, SqL K H a xs ∧ SqT K H b ys ∧ (xs.length ≤ i ∨ ys.length ≤ i)
theorem five {z TI ot j1 j2 c : Addr} (h : c ∈ [z, TI, ot, j1, j2]) : c = z ∨ c = TI ∨ c = ot ∨ c = j1 ∨ c = j2 := by simpa using h
theorem turn_m {P : Program} {w : World} {K : PySem.W.Frag} {elts : List Expr} {kk : Nat} {tpos : Pos} {a b z TI ot j1 j2 : Addr} (far : ZipApart z TI ot j1 j2 a b) :
    Turn P w K (.Tuple elts kk tpos) (Itm K a b) [z, TI, ot, j1, j2] z (fun i h => IsZip h z TI ot .none ∧ IsPair h TI (.ref j1) (.ref j2) ∧ (∃ u v, IsPair h ot u v) ∧ h.IsListIter j1 a i ∧ h.IsTupleIter j2 b i) where
  mem := by simp
  obj := fun i h ⟨hz, hT, ⟨u, v, ho⟩, ⟨o1, e1, _, d1⟩, ⟨o2, e2, _, d2⟩⟩ c hc => by
    rcases five hc with q | q | q | q | q <;> rw [q]
    · exact ⟨_, hz, fun v q => nomatch q⟩
    · exact ⟨_, hT, fun v q => nomatch q⟩
    · exact ⟨_, ho, fun v q => nomatch q⟩
    · exact ⟨o1, e1, fun v q => by rw [d1] at q; cases q⟩
    · exact ⟨o2, e2, fun v q => by rw [d2] at q; cases q⟩
  keep := fun i h h' ⟨hz, hT, ⟨u, v, ho⟩, h1, h2⟩ kp => ⟨kp z (by simp) _ hz, kp TI (by simp) _ hT, ⟨u, v, kp ot (by simp) _ ho⟩, h1.at fun o q => kp j1 (by simp) o q, h2.at fun o q => kp j2 (by simp) o q⟩
  item := by
    intro X hP hw hK hc i pins s σ H E I hf ⟨hz, hT, ⟨u0, v0, ho⟩, h1, h2⟩ ⟨xs, ys, x, y, qx, qy, hx, hy⟩
    subst hP hw hK
    obtain ⟨its, rv, p, _⟩ := I.list qx
    obtain ⟨its2, rv2, p2, _⟩ := I.tuple qy
    obtain ⟨u, hu, ru⟩ := rv.get hx
    obtain ⟨u2, hu2, ru2⟩ := rv2.get hy
    have zl : z < s.heap.objs.size := Heap.lt_size hz
    refine py_pair far hz hT ho h1 h2 p.isList p2 (x := u) (y := u2) (by simpa using hu) (by simpa using hu2) fun h' l => ?_
    refine ⟨_, rfl, wpAny_letOwnedTupleGo_zip (s := { s with heap := h' }) l.zip fun g zg sb => ?_⟩
    have pt : g.get? s.heap.objs.size = some { cls := .type "tuple", data := .seq #[u, u2] } := (sb.2 _ (Nat.ne_of_gt zl)).trans l.new
    have nw : ObjOk X.prog X.w (upd H s.heap.objs.size (.tup [x, y])) g s.heap.objs.size (.tup [x, y]) := ⟨by show 2 ≤ sizeLine; decide, [u, u2], .cons ru (.cons ru2 .nil), ⟨_, pt, rfl, _, rfl⟩⟩
    have I1 : Inv X pins σ (upd H s.heap.objs.size (.tup [x, y])) { s with heap := g } := I.turnedNew (t' := s.toks) (ch := [z, TI, ot, j1, j2]) (fun c o nb q => by
      have n1 : c ≠ z := fun e => nb (by simp [e])
      have n2 : c ≠ ot := fun e => nb (by simp [e])
      have n3 : c ≠ j1 := fun e => nb (by simp [e])
      have n4 : c ≠ j2 := fun e => nb (by simp [e])
      exact (sb.2 c n1).trans (l.keep c o n1 n2 n3 n4 q)) hf (Nat.le_refl _) nw
    refine ⟨.ref s.heap.objs.size, _, I1, rfl, ⟨_, x, y, rfl, I.hok.fresh (Nat.le_refl _), rfl, fun w hw => by rw [I.list_inj hw qx]; exact hx, fun w hw => by rw [I.tuple_inj hw qy]; exact hy⟩, ⟨zg, ?_, ⟨u, u2, ?_⟩, ?_, ?_⟩, fun c hcm => ?_⟩
    · exact (sb.2 _ far.TIz).trans (l.keep _ _ far.TIz far.TITO far.TIi1 far.TIi2 hT)
    · exact (sb.2 _ far.TOz).trans l.own
    · exact l.a.at fun o q => (sb.2 _ far.i1z).trans q
    · exact l.b.at fun o q => (sb.2 _ far.i2z).trans q
    · have lt : c < s.heap.objs.size := by
        obtain ⟨o1, e1, _⟩ := h1
        obtain ⟨o2, e2, _⟩ := h2
        rcases five hcm with q | q | q | q | q
        · rw [q]; exact zl
        · rw [q]; exact Heap.lt_size hT
        · rw [q]; exact Heap.lt_size ho
        · rw [q]; exact Heap.lt_size e1
        · rw [q]; exact Heap.lt_size e2
      rw [upd_ne (Nat.ne_of_lt lt)]
      exact (hf c hcm).1
  done := by
    intro X hP hw hK hc i pins s σ H E I hf ⟨hz, hT, ⟨u0, v0, ho⟩, h1, h2⟩ ⟨xs, ys, qx, qy, fin⟩
    subst hP hw hK
    obtain ⟨its, rv, p, _⟩ := I.list qx
    obtain ⟨its2, rv2, p2, _⟩ := I.tuple qy
    have m1 := rv.length
    have m2 := rv2.length
    refine py_none (I.ok.hd hc) far hz hT ho h1 h2 p.isList p2 (fin.imp (fun q => by simp; omega) fun q => by simp; omega) fun h' kp => ⟨rfl, I.turnedL (t' := s.toks) (ch := [z, TI, ot, j1, j2]) (fun c o nb q => ?_) hf⟩
    exact kp c o (fun e => nb (by simp [e])) (fun e => nb (by simp [e])) (fun e => nb (by simp [e])) (fun e => nb (by simp [e])) q
  self := fun A i s Q E st h => wpAny_pyIter_zip st.1 h
def iZipM (K : PySem.W.Frag) (ta : TA) : TI := fun σ H R => ta σ H fun vs H1 => ∃ a b xs ys, vs = [.ref a, .ref b] ∧ SqL K H1 a xs ∧ SqT K H1 b ys ∧ R (Itm K a b) H1
theorem pi_zipM {X : Cx} {e e2 : Expr} {ta : TA} {p pos tpos : Pos} {elts : List Expr} {kk : Nat} (hg : Gl X "zip") (hm : X.mg "zip" = none) (ha : PA X [e, e2] ta) (hs : starEach [e, e2] X.env = (false, eval e X.env) :: starEach [e2] X.env) (hpl : (backTo pos (starEach [e2] X.env)).any (·.1) = false) :
    PI X (.Tuple elts kk tpos) (.Call (.Name "zip" p) [e, e2] [] pos) (iZipM X.K ta) := by
  refine ⟨fun pins s σ H R I h => ?_⟩
  refine Call_ (ld_blt I hg hm PyProof.Rows.boot_zip (PyProof.Rows.callWith_type1 (thn (ha.run pos pins s σ H _ I h) fun us s1 ⟨vs, H1, I1, r1, q1⟩ => ?_) hs hpl))
  obtain ⟨a, b, xs, ys, ex, qx, qy, q⟩ := q1
  subst ex
  cases r1 with
  | cons r rr =>
    cases rr with
    | cons r' rr =>
      cases rr
      cases r
      cases r'
      have fresh5 : ∀ c, c ∈ [s1.heap.objs.size + 4, s1.heap.objs.size + 2, s1.heap.objs.size + 3, s1.heap.objs.size, s1.heap.objs.size + 1] → FpOk X pins H1 c := fun c hcm => by
        have hle : s1.heap.objs.size ≤ c := by
          rcases five hcm with z | z | z | z | z
          · rw [z]; exact Nat.le_add_right _ _
          · rw [z]; exact Nat.le_add_right _ _
          · rw [z]; exact Nat.le_add_right _ _
          · rw [z]; exact Nat.le_refl _
          · rw [z]; exact Nat.le_add_right _ _
        exact I1.fpOk hle (I1.hok.fresh hle)
      obtain ⟨its, rv, p1, _⟩ := I1.list qx
      obtain ⟨its2, rv2, p2, _⟩ := I1.tuple qy
      obtain ⟨o2, ho2, _⟩ := id p2
      refine made_call (show s1.heap.IsList a its.toArray from p1.isList) (show s1.heap.IsTuple b its2.toArray from p2) fun h' l => wpAny_pyIter_zip l.zip ?_
      have I2 : Inv X pins σ H1 { s1 with heap := h' } := I1.kept (t' := s1.toks) l.keep
      exact ⟨s1.heap.objs.size + 4, [s1.heap.objs.size + 4, s1.heap.objs.size + 2, s1.heap.objs.size + 3, s1.heap.objs.size, s1.heap.objs.size + 1], _, _, H1, rfl, I2, turn_m (PySem.W.ktu_apart s1.heap.objs.size a b p1.lt (Heap.lt_size ho2)), ⟨l.zip, l.two, ⟨_, _, l.own⟩, l.a, l.b⟩, fresh5, q⟩
end Zm

set_option maxHeartbeats 4000000
/-! Fm: what is walked; targets; comprehensions. -/
namespace Fg
open PySem PySem.Spec PyProof.Rows L2

/-- the iterator J draws the items, while what is walked is held as h says -/
def WalkOk (G : GE) (B0 : Hp) (μ0 : List Addr) (J : It) (h : Hold) (items : List D) : Prop :=
  ∀ (fx B : Hp) (μ : List Addr) (st : Store) (H : Hp) (i : Nat), Same B0 B → Pre μ0 μ → SR G fx B μ st H → h.ok st →
    (∀ d, items[i]? = some d → J.go i H ∧ ∀ x H', J.yld i H x H' → ∃ B', Same B B' ∧ SR G fx B' μ st H' ∧ Rep G B' μ d x) ∧ (i = items.length → J.stop i H)
section
variable {G : GE} {fx B B' : Hp} {μ μ' : List Addr} {st : Store} {H : Hp}
/-- what a hold says of the heap -/
theorem hold_lst (s0 : SR G fx B μ st H) {d : D} {v : V} {xs : List D} (r : Rep G B μ d v) (e : view st d = .lst xs) : ∃ a, v = .ref a ∧ ∀ (fx' B' : Hp) (μ' : List Addr) (st' : Store) (H' : Hp), Same B B' → Pre μ μ' → SR G fx' B' μ' st' H' → (hold d st).ok st' →
    ∃ vs, H' a = some (.lst vs) ∧ RepL G B' μ' xs vs := by
  cases d with
  | ref n =>
    cases r with
    | @ref _ a hn =>
      have hl : n < st.length := by rw [← s0.len]; exact (List.getElem?_eq_some_iff.mp hn).1
      have e2 : st[n]? = some (.lst xs) := by
        have := List.getElem?_eq_getElem hl
        simp only [view, this, Option.getD_some] at e
        rw [this, e]
      refine ⟨a, rfl, fun fx' B' μ' st' H' h1 h2 s ho => ?_⟩
      simp only [hold, e2, Hold.ok] at ho
      obtain ⟨_, _, o, k3, k4⟩ := s.cell n a _ (h2 _ _ hn) ho
      cases k4 with
      | lst q => exact ⟨_, k3, q⟩
  | lst ys =>
    cases e
    cases r with
    | lst h l q => exact ⟨_, rfl, fun fx' B' μ' st' H' h1 h2 s _ => ⟨_, s.sub _ _ (h1 _ _ h), RepL.mono h1 h2 ⟨l, q⟩⟩⟩
  | _ => cases e
theorem walk_lst (s0 : SR G fx B μ st H) {d : D} {v : V} {xs : List D} (r : Rep G B μ d v) (e : view st d = .lst xs) : ∃ a, v = .ref a ∧ WalkOk G B μ (Itl G.K a) (hold d st) xs := by
  obtain ⟨a, ev, hh⟩ := hold_lst s0 r e
  refine ⟨a, ev, fun fx' B' μ' st' H' i h1 h2 s ho => ?_⟩
  obtain ⟨vs, k1, k2⟩ := hh fx' B' μ' st' H' h1 h2 s ho
  refine ⟨fun d hd => ?_, fun hi => ⟨vs, .of k1, by rw [← k2.1, hi]; exact Nat.le_refl _⟩⟩
  obtain ⟨x, hx, rx⟩ := k2.get hd
  refine ⟨⟨vs, x, .of k1, hx⟩, fun y H'' ⟨eH, hy⟩ => ?_⟩
  subst eH
  have := hy vs (.of k1)
  rw [hx] at this; cases this
  exact ⟨B', Same.refl _, s, rx⟩
theorem walk_tup (s0 : SR G fx B μ st H) {d : D} {v : V} {xs : List D} (r : Rep G B μ d v) (e : view st d = .tup xs) : ∃ a, v = .ref a ∧ (∃ vs, SqT G.K H a vs) ∧ WalkOk G B μ (Itt G.K a) (hold d st) xs := by
  obtain ⟨a, vs, ev, h1, h2⟩ := view_tup_inv s0 r e
  have eo := view_tup_eq s0 r e
  subst eo; subst ev
  cases r with
  | @tup a vs0 _ h l q =>
    refine ⟨a, rfl, ⟨vs, .of h1⟩, fun fx' B' μ' st' H' i h1 h2 s _ => ?_⟩
    have k1 : SqT G.K H' a vs0 := .of (s.sub _ _ (h1 _ _ h))
    have k2 : RepL G B' μ' xs vs0 := RepL.mono h1 h2 ⟨l, q⟩
    refine ⟨fun d hd => ?_, fun hi => ⟨vs0, k1, by rw [← k2.1, hi]; exact Nat.le_refl _⟩⟩
    obtain ⟨x, hx, rx⟩ := k2.get hd
    refine ⟨⟨vs0, x, k1, hx⟩, fun y H'' ⟨eH, hy⟩ => ?_⟩
    subst eH
    have := hy vs0 k1
    rw [hx] at this; cases this
    exact ⟨B', Same.refl _, s, rx⟩
theorem view_ktup_eq (s : SR G fx B μ st H) {d : D} {v : V} {xs : List D} (r : Rep G B μ d v) (e : view st d = .ktup xs) : d = .ktup xs := by
  cases d with
  | ref n =>
    obtain ⟨a, o, h1, h2, h3, h4, h5⟩ := viewRef s r e (by intro h; cases h)
    cases h5
  | ktup ys => exact e
  | _ => cases e
theorem view_scr_eq (s : SR G fx B μ st H) {d : D} {v : V} {xs : List D} (r : Rep G B μ d v) (e : view st d = .scr xs) : d = .scr xs := by
  cases d with
  | ref n =>
    obtain ⟨a, o, h1, h2, h3, h4, h5⟩ := viewRef s r e (by intro h; cases h)
    cases h5
  | scr ys => exact e
  | _ => cases e
theorem walk_ktup (s0 : SR G fx B μ st H) {d : D} {v : V} {xs : List D} (r : Rep G B μ d v) (e : view st d = .ktup xs) : ∃ a, v = .ref a ∧ (∃ vs, SqT G.K H a vs) ∧ WalkOk G B μ (Itt G.K a) (hold d st) xs := by
  obtain ⟨a, vs, ev, h1, h2⟩ := view_ktup_inv s0 r e
  have eo := view_ktup_eq s0 r e
  subst eo; subst ev
  cases r with
  | @ktup a vs0 _ h l q =>
    refine ⟨a, rfl, ⟨vs, h1⟩, fun fx' B' μ' st' H' i h1 h2 s _ => ?_⟩
    have k1 : SqT G.K H' a vs0 := Same.sqT s.sub (Same.sqT h1 h)
    have k2 : RepL G B' μ' xs vs0 := RepL.mono h1 h2 ⟨l, q⟩
    refine ⟨fun d hd => ?_, fun hi => ⟨vs0, k1, by rw [← k2.1, hi]; exact Nat.le_refl _⟩⟩
    obtain ⟨x, hx, rx⟩ := k2.get hd
    refine ⟨⟨vs0, x, k1, hx⟩, fun y H'' ⟨eH, hy⟩ => ?_⟩
    subst eH
    have := hy vs0 k1
    rw [hx] at this; cases this
    exact ⟨B', Same.refl _, s, rx⟩
theorem walk_scr (s0 : SR G fx B μ st H) {d : D} {v : V} {xs : List D} (r : Rep G B μ d v) (e : view st d = .scr xs) : ∃ a, v = .ref a ∧ (∃ vs, SqL G.K H a vs) ∧ WalkOk G B μ (Itl G.K a) (hold d st) xs := by
  obtain ⟨a, vs, ev, h1, h2⟩ := view_scr_inv s0 r e
  have eo := view_scr_eq s0 r e
  subst eo; subst ev
  cases r with
  | @scr a vs0 _ h l q =>
    refine ⟨a, rfl, ⟨vs, h1⟩, fun fx' B' μ' st' H' i h1 h2 s _ => ?_⟩
    have k1 : SqL G.K H' a vs0 := Same.sqL s.sub (Same.sqL h1 h)
    have k2 : RepL G B' μ' xs vs0 := RepL.mono h1 h2 ⟨l, q⟩
    refine ⟨fun d hd => ?_, fun hi => ⟨vs0, k1, by rw [← k2.1, hi]; exact Nat.le_refl _⟩⟩
    obtain ⟨x, hx, rx⟩ := k2.get hd
    refine ⟨⟨vs0, x, k1, hx⟩, fun y H'' ⟨eH, hy⟩ => ?_⟩
    subst eH
    have := hy vs0 k1
    rw [hx] at this; cases this
    exact ⟨B', Same.refl _, s, rx⟩
theorem walk_rng (lo hi : Int) : WalkOk G B μ (Itr lo (hi - lo).toNat) .free (rngI lo hi) := fun fx' B' μ' st' H' i h1 h2 s _ => by
  have hl : (rngI lo hi).length = (hi - lo).toNat := by simp [rngI]
  refine ⟨fun d hd => ?_, fun h => by rw [hl] at h; exact Nat.le_of_eq h.symm⟩
  have hi' : i < (hi - lo).toNat := by rw [← hl]; exact (List.getElem?_eq_some_iff.mp hd).1
  unfold rngI at hd
  rw [List.getElem?_map, List.getElem?_range hi'] at hd
  simp only [Option.map_some, Option.some.injEq] at hd
  subst hd
  exact ⟨hi', fun x H'' ⟨eH, ex⟩ => ⟨B', Same.refl _, by rw [eH]; exact s, by rw [ex]; exact .int _⟩⟩
end

/-! ### the readings of what is walked -/
section
variable {G : GE} {C : Cf} {W : WX} {k : Nat} {fl : List String} {X : Cx}
abbrev PI' (G : GE) : Hp → List Addr → Hp → (List D × Hold) → It → Prop := fun B μ _ p J => WalkOk G B μ J p.2 p.1
def tevI (G : GE) (W : WX) (C : Cf) (it : II) : TI := fun σ H R => ∃ fx B μ st sl, SR G fx B μ st H ∧ Fg.SlR G B μ sl σ ∧ End G (PI' G) fx B μ W σ (evI C sl it st) R
theorem PI.imp {tg x : Expr} {t t' : TI} (h : PI X tg x t) (k : ∀ σ H Q, t' σ H Q → t σ H Q) : PI X tg x t' := ⟨fun pins s σ H Q I q => h.run pins s σ H Q I (k σ H Q q)⟩
theorem PI.or {tg x : Expr} {t u : TI} (h : PI X tg x t) (k : PI X tg x u) : PI X tg x (fun σ H Q => t σ H Q ∨ u σ H Q) := ⟨fun pins s σ H Q I q => q.elim (h.run pins s σ H Q I) (k.run pins s σ H Q I)⟩
/-- a list, a tuple, walked -/
theorem snd_seq (K : Cxt G C W k fl X) {e : IE} {tg x : Expr} (h : PE X x (tev G W C e)) : PI X tg x (tevI G W C (.seq e)) := by
  refine PI.imp (PI.or (pi_list h) (pi_tup h)) fun σ H Z ⟨fx, B, μ, st, sl, s, r, q⟩ => ?_
  have q1 := End.bind (P := PD G) q
  by_cases ht : ∃ d st1 xs, (evX C sl e).v st = .ok d st1 ∧ (view st1 d = .tup xs ∨ view st1 d = .ktup xs)
  · obtain ⟨d, st1, xs, e1, e2⟩ := ht
    refine .inr ⟨fx, B, μ, st, sl, s, r, ?_⟩
    rw [e1] at q1 ⊢
    intro B1 μ1 H1 v h1 h2 s1 rv
    obtain ⟨B2, μ2, st2, d2, k1, k2, s2, r2, q2⟩ := q1 B1 μ1 H1 v h1 h2 s1 rv
    have q3 := q; simp only [evI, e1, Fg.R.bind_ok] at q3
    have q3 := q3.mono h1 h2
    rw [K.K]
    rcases e2 with e2 | e2
    · obtain ⟨a, ev, hx, w⟩ := walk_tup s1 rv e2
      have hs : seqI d st1 = some (xs, hold d st1) := by simp [seqI, seqOf, e2]
      rw [hs] at q3
      exact ⟨a, ev, hx, End.ok (P := PI' G) q3 s1 w⟩
    · obtain ⟨a, ev, hx, w⟩ := walk_ktup s1 rv e2
      have hs : seqI d st1 = some (xs, hold d st1) := by simp [seqI, seqOf, e2]
      rw [hs] at q3
      exact ⟨a, ev, hx, End.ok (P := PI' G) q3 s1 w⟩
  · refine .inl ⟨fx, B, μ, st, sl, s, r, ?_⟩
    cases e1 : (evX C sl e).v st with
    | no => rw [e1] at q1; exact q1
    | exc x st1 => rw [e1] at q1; exact q1
    | ok d st1 =>
      intro B1 μ1 H1 v h1 h2 s1 rv
      have q3 := q; simp only [evI, e1, Fg.R.bind_ok] at q3
      have q3 := q3.mono h1 h2
      rw [K.K]
      cases e2 : view st1 d with
      | lst xs =>
        obtain ⟨a, ev, w⟩ := walk_lst s1 rv e2
        obtain ⟨a', vs, ev', g1, g2⟩ := view_lst_inv s1 rv e2
        rw [ev] at ev'; cases ev'
        have hs : seqI d st1 = some (xs, hold d st1) := by simp [seqI, seqOf, e2]
        rw [hs] at q3
        exact ⟨a, ev, ⟨vs, .of g1⟩, End.ok (P := PI' G) q3 s1 w⟩
      | scr xs =>
        obtain ⟨a, ev, hx, w⟩ := walk_scr s1 rv e2
        have hs : seqI d st1 = some (xs, hold d st1) := by simp [seqI, seqOf, e2]
        rw [hs] at q3
        exact ⟨a, ev, hx, End.ok (P := PI' G) q3 s1 w⟩
      | tup xs => exact absurd ⟨d, st1, xs, e1, .inl e2⟩ ht
      | ktup xs => exact absurd ⟨d, st1, xs, e1, .inr e2⟩ ht
      | _ => (have hs : seqI d st1 = none := by simp [seqI, seqOf, e2]); rw [hs] at q3; exact q3.elim
theorem snd_rng1 (K : Cxt G C W k fl X) {e : IE} {tg x : Expr} {p pos : Pos} (h : PE X x (tev G W C e)) (hg : glB X.env.scope (Str.ofString "range") = true) (hn : noStar x = true) :
    PI X tg (.Call (.Name (Str.ofString "range") p) [x] [] pos) (tevI G W C (.rng1 e)) :=
  PI.imp (pi_range1 (gl_of hg) (K.blt "range" (by decide)) (pa_cons h pa_nil (star_cons hn)) (star_cons hn)) fun σ H Z ⟨fx, B, μ, st, sl, s, r, q⟩ => ⟨fx, B, μ, st, sl, s, r,
    (End.bind (P := PD G) q).imp fun v H1 ⟨B1, μ1, st1, d, h1, h2, s1, rv, q1⟩ => by
      cases hr : rng1Of d with
      | none => rw [hr] at q1; exact q1.elim
      | some rr =>
        rw [hr] at q1
        unfold rng1Of at hr
        split at hr
        · rename_i j
          split at hr
          · rename_i hj
            cases hr
            cases rv
            refine ⟨j, rfl, hj.1, hj.2, End.ok (P := PI' G) (v := Itr 0 j.toNat) q1 s1 ?_⟩
            have := walk_rng (G := G) (B := B1) (μ := μ1) 0 j
            rw [Int.sub_zero] at this
            exact this
          · cases hr
        · cases hr⟩
theorem snd_rng2 (K : Cxt G C W k fl X) {a b : IE} {tg x y : Expr} {p pos : Pos} (ha : PE X x (tev G W C a)) (hb : PE X y (tev G W C b)) (hg : glB X.env.scope (Str.ofString "range") = true) (hn : noStar x = true) (hn2 : noStar y = true) :
    PI X tg (.Call (.Name (Str.ofString "range") p) [x, y] [] pos) (tevI G W C (.rng2 a b)) :=
  PI.imp (pi_range2 (gl_of hg) (K.blt "range" (by decide)) (pa_cons ha (pa_cons hb pa_nil (star_cons hn2)) (star_cons hn)) (by rw [star_cons hn, star_cons hn2]; rfl) (star_cons hn2)) fun σ H Z ⟨fx, B, μ, st, sl, s, r, q⟩ => ⟨fx, B, μ, st, sl, s, r,
    (End.bind (P := PD G) q).imp fun v H1 ⟨B1, μ1, st1, d, h1, h2, s1, rv, q1⟩ => ⟨fx, B1, μ1, st1, sl, s1, r.mono h1 h2, (End.bind (P := PD G) q1).imp fun u H2 ⟨B2, μ2, st2, e, h3, h4, s2, ru, q2⟩ => by
      cases hr : rng2Of d e with
      | none => rw [hr] at q2; exact q2.elim
      | some rr =>
        rw [hr] at q2
        unfold rng2Of at hr
        split at hr
        · rename_i i j
          split at hr
          · rename_i hj
            cases hr
            cases rv; cases ru
            exact ⟨_, _, rfl, ⟨hj.1, hj.2.1, hj.2.2.1, hj.2.2.2⟩, End.ok (P := PI' G) q2 s2 (walk_rng _ _)⟩
          · cases hr
        · cases hr⟩⟩
/-! ### targets -/
mutual
/-- the slots that a target stores -/
def igs : IG → List Nat
  | .nm i => [i] | .tp gs => igss gs
def igss : IGs → List Nat
  | .nil => [] | .cons g gs => igs g ++ igss gs
end
def tevG (G : GE) (g : IG) : TG := fun v σ H Q => ∃ fx B μ st sl d sl', SR G fx B μ st H ∧ Fg.SlR G B μ sl σ ∧ Rep G B μ d v ∧ setG g d sl = some sl' ∧
  ∀ σ', Fg.SlR G B μ sl' σ' → σ'.length = σ.length → (∀ (i : Nat), i ∉ igs g → σ'[i]? = σ[i]?) → Q σ' H
def tevGs (G : GE) (g : IGs) : TGs := fun vs σ H Q => ∃ fx B μ st sl ds sl', SR G fx B μ st H ∧ Fg.SlR G B μ sl σ ∧ RepL G B μ ds vs ∧ setGs g ds sl = some sl' ∧
  ∀ σ', Fg.SlR G B μ sl' σ' → σ'.length = σ.length → (∀ (i : Nat), i ∉ igss g → σ'[i]? = σ[i]?) → Q σ' H
theorem SlR.set {B : Hp} {μ : List Addr} {sl : Slots} {σ : L2.St} (r : Fg.SlR G B μ sl σ) {i : Nat} {d : D} {v : V} (h : Rep G B μ d v) : Fg.SlR G B μ (sl.set i (some d)) (σ.set i (some v)) := by
  refine ⟨by simp [r.1], fun j e hj => ?_⟩
  by_cases hij : i = j
  · subst hij
    have hl : i < sl.length := by have := (List.getElem?_eq_some_iff.mp hj).1; simpa using this
    rw [List.getElem?_set_self hl] at hj
    cases hj
    exact ⟨v, by rw [List.getElem?_set_self (by rw [← r.1]; exact hl)], h⟩
  · rw [List.getElem?_set_ne hij] at hj
    rw [List.getElem?_set_ne hij]
    exact r.2 j e hj
theorem PG.imp {x : Expr} {t t' : TG} (h : PG X x t) (k : ∀ v σ H Q, t' v σ H Q → t v σ H Q) : PG X x t' := ⟨fun pins s σ H v u Q I r q => h.run pins s σ H v u Q I r (k v σ H Q q)⟩
theorem PGs.imp {x : List Expr} {t t' : TGs} (h : PGs X x t) (k : ∀ v σ H Q, t' v σ H Q → t v σ H Q) : PGs X x t' := ⟨fun pins s σ H v u Q I r q => h.run pins s σ H v u Q I r (k v σ H Q q)⟩
def locV (sc : Scope) (x : Str) : Bool := match sc.names.lookup x with | some .local => true | some .cell => true | _ => false
theorem loc_of {sc : Scope} {x : Str} (h : locV sc x = true) : L2.Loc sc x := by
  unfold locV at h; unfold L2.Loc
  split at h <;> simp_all
theorem snd_nm (hN : X.N.Nodup) {i : Nat} {x : Str} {pos : Pos} (hi : X.N[i]? = some x) (hl : locV X.env.scope x = true) (hf : X.fn x = true ∨ X.env.scope.names.lookup x = some .local) : PG X (.Name x pos) (tevG G (.nm i)) :=
  PG.imp (pg_name hN hi (loc_of hl) hf) fun v σ H Q ⟨fx, B, μ, st, sl, d, sl', s, r, rv, e, q⟩ => by
    simp only [setG] at e
    split at e
    · cases e
      exact q _ (r.set rv) (by simp) fun j hj => by
        simp only [igs, List.mem_singleton] at hj
        rw [List.getElem?_set_ne (Ne.symm hj)]
    · cases e
theorem snd_gnil : PGs X [] (tevGs G .nil) := PGs.imp pgs_nil fun vs σ H Q ⟨fx, B, μ, st, sl, ds, sl', s, r, rv, e, q⟩ => by
  cases ds with
  | nil => cases e; exact ⟨rv.nil_inv, q σ r rfl fun _ _ => rfl⟩
  | cons d ds => cases e
theorem snd_gcons {g : IG} {gs : IGs} {x : Expr} {xs : List Expr} (h : PG X x (tevG G g)) (hs : PGs X xs (tevGs G gs)) (he : (assignEach (x :: xs) X.env).map (·.2) = assign x X.env :: (assignEach xs X.env).map (·.2)) : PGs X (x :: xs) (tevGs G (.cons g gs)) :=
  PGs.imp (pgs_cons h hs he) fun vs σ H Q ⟨fx, B, μ, st, sl, ds, sl', s, r, rv, e, q⟩ => by
    cases ds with
    | nil => cases e
    | cons d ds =>
      simp only [setGs] at e
      split at e
      · rename_i sl1 e1
        obtain ⟨v, ws, ev, r1, r2⟩ := rv.cons_inv
        subst ev
        refine ⟨v, ws, rfl, fx, B, μ, st, sl, d, sl1, s, r, r1, e1, fun σ1 q1 l1 n1 => ⟨fx, B, μ, st, sl1, ds, sl', s, q1, r2, e, fun σ2 q2 l2 n2 => q σ2 q2 (l2.trans l1) fun i hi => ?_⟩⟩
        simp only [igss, List.mem_append, not_or] at hi
        rw [n2 i hi.2, n1 i hi.1]
      · cases e
theorem snd_tp (K : Cxt G C W k fl X) {gs : IGs} {n : Nat} {xs : List Expr} {kk : Nat} {pos : Pos} (h : PGs X xs (tevGs G gs)) (hn : (assignEach xs X.env).length = n) (hst : (assignEach xs X.env).findIdx? (·.1) = none)
    (hl : ∀ (ds : List D) sl sl', setGs gs ds sl = some sl' → ds.length = n) : PG X (.Tuple xs kk pos) (tevG G (.tp gs)) :=
  PG.imp (pg_tup K.calm h hn hst) fun v σ H Q ⟨fx, B, μ, st, sl, d, sl', s, r, rv, e, q⟩ => by
    cases d with
    | tup ds =>
      simp only [setG] at e
      cases rv with
      | tup hb l qq => exact ⟨_, _, rfl, .of (s.sub _ _ hb), by rw [← l]; exact hl ds sl sl' e, fx, B, μ, st, sl, ds, sl', s, r, ⟨l, qq⟩, e, q⟩
    | _ => cases e
end
end Fg

set_option maxHeartbeats 4000000
/-! Fmz: zip walked. -/
namespace Fg
open PySem PySem.Spec PyProof.Rows L2
/-- what is held stands at a as S says -/
def LH (G : GE) (B : Hp) (μ : List Addr) (S : Hp → Addr → List V → Prop) (a : Addr) (h : Hold) (xs : List D) : Prop :=
  ∀ (fx' B' : Hp) (μ' : List Addr) (st' : Store) (H' : Hp), Same B B' → Pre μ μ' → SR G fx' B' μ' st' H' → h.ok st' → ∃ vs, S H' a vs ∧ RepL G B' μ' xs vs
theorem hold_self (d : D) (st : Store) : (hold d st).ok st := by
  cases d with
  | ref n =>
    show Hold.ok (match st[n]? with | some c => .live n c | none => .free) st
    cases h : st[n]? with
    | none => exact trivial
    | some c => exact h
  | _ => exact trivial
section
variable {G : GE} {fx B B' : Hp} {μ μ' : List Addr} {st : Store} {H : Hp}
theorem lh_L (s0 : SR G fx B μ st H) {d : D} {v : V} (r : Rep G B μ d v) (h : isLq (view st d) = true) : ∃ a xs, v = .ref a ∧ seqOf st d = some xs ∧ LH G B μ (SqL G.K) a (hold d st) xs := by
  cases e : view st d with
  | lst xs =>
    obtain ⟨a, ev, hh⟩ := hold_lst s0 r e
    refine ⟨a, xs, ev, by simp [seqOf, e], fun fx' B' μ' st' H' h1 h2 s ho => ?_⟩
    obtain ⟨vs, k1, k2⟩ := hh fx' B' μ' st' H' h1 h2 s ho
    exact ⟨vs, .of k1, k2⟩
  | scr xs =>
    have eo := view_scr_eq s0 r e
    subst eo
    cases r with
    | @scr a vs0 _ h l q => exact ⟨a, xs, rfl, by simp [seqOf], fun fx' B' μ' st' H' h1 h2 s _ => ⟨vs0, Same.sqL s.sub (Same.sqL h1 h), RepL.mono h1 h2 ⟨l, q⟩⟩⟩
  | _ => rw [e] at h; cases h
theorem lh_T (s0 : SR G fx B μ st H) {d : D} {v : V} (r : Rep G B μ d v) (h : isTq (view st d) = true) : ∃ a xs, v = .ref a ∧ seqOf st d = some xs ∧ LH G B μ (SqT G.K) a (hold d st) xs := by
  cases e : view st d with
  | tup xs =>
    have eo := view_tup_eq s0 r e
    subst eo
    cases r with
    | @tup a vs0 _ h l q => exact ⟨a, xs, rfl, by simp [seqOf], fun fx' B' μ' st' H' h1 h2 s _ => ⟨vs0, .of (s.sub _ _ (h1 _ _ h)), RepL.mono h1 h2 ⟨l, q⟩⟩⟩
  | ktup xs =>
    have eo := view_ktup_eq s0 r e
    subst eo
    cases r with
    | @ktup a vs0 _ h l q => exact ⟨a, xs, rfl, by simp [seqOf], fun fx' B' μ' st' H' h1 h2 s _ => ⟨vs0, Same.sqT s.sub (Same.sqT h1 h), RepL.mono h1 h2 ⟨l, q⟩⟩⟩
  | _ => rw [e] at h; cases h
theorem seq_LT {d : D} {xs : List D} (h : seqOf st d = some xs) : isLq (view st d) = true ∨ isTq (view st d) = true := by
  unfold seqOf at h
  split at h <;> simp_all [isLq, isTq]
theorem walk_zip {S1 S2 : Hp → Addr → List V → Prop} {J : It} {a b : Addr} {h1 h2 : Hold} {xs ys : List D} (l1 : LH G B μ S1 a h1 xs) (l2 : LH G B μ S2 b h2 ys)
    (hgo : ∀ i H, (∃ (xs ys : List V) (x y : V), S1 H a xs ∧ S2 H b ys ∧ xs[i]? = some x ∧ ys[i]? = some y) → J.go i H)
    (hy : ∀ i H v H', J.yld i H v H' → ∃ T x y, v = .ref T ∧ H T = none ∧ H' = upd H T (.tup [x, y]) ∧ (∀ xs, S1 H a xs → xs[i]? = some x) ∧ ∀ ys, S2 H b ys → ys[i]? = some y)
    (hst : ∀ i H, (∃ xs ys : List V, S1 H a xs ∧ S2 H b ys ∧ (xs.length ≤ i ∨ ys.length ≤ i)) → J.stop i H) : WalkOk G B μ J (.both h1 h2) (zipD xs ys) := by
  intro fx' B' μ' st' H' i e1 e2 s ⟨o1, o2⟩
  obtain ⟨vs, p1, q1⟩ := l1 fx' B' μ' st' H' e1 e2 s o1
  obtain ⟨us, p2, q2⟩ := l2 fx' B' μ' st' H' e1 e2 s o2
  refine ⟨fun d hd => ?_, fun hi => ?_⟩
  · unfold zipD at hd
    rw [List.getElem?_map] at hd
    cases hz : (xs.zip ys)[i]? with
    | none => rw [hz] at hd; cases hd
    | some p =>
      rw [hz] at hd
      cases hd
      obtain ⟨z1, z2⟩ := List.getElem?_zip_eq_some.mp hz
      obtain ⟨x, hx, rx⟩ := q1.get z1
      obtain ⟨y, hyy, ry⟩ := q2.get z2
      refine ⟨hgo i H' ⟨vs, us, x, y, p1, p2, hx, hyy⟩, fun v H'' hyl => ?_⟩
      obtain ⟨T, x', y', rfl, hT, rfl, f1, f2⟩ := hy i H' v H'' hyl
      have g1 := f1 vs p1
      have g2 := f2 us p2
      rw [hx] at g1; rw [hyy] at g2
      cases g1; cases g2
      obtain ⟨sm, s2⟩ := s.newB (o := .tup [x, y]) hT
      have rr : RepL G (upd B' T (.tup [x, y])) μ' [p.1, p.2] [x, y] := .cons (rx.mono sm (Pre.refl _)) (.cons (ry.mono sm (Pre.refl _)) .nil)
      exact ⟨_, sm, s2, .tup upd_same rr.1 rr.2⟩
  · refine hst i H' ⟨vs, us, p1, p2, ?_⟩
    have := q1.1
    have := q2.1
    simp [zipD] at hi
    omega
end
section
variable {G : GE} {C : Cf} {W : WX} {k : Nat} {fl : List String} {X : Cx}
theorem snd_zip (K : Cxt G C W k fl X) {a b : IE} {elts : List Expr} {kk : Nat} {tpos : Pos} {x y : Expr} {p pos : Pos} (ha : PE X x (tev G W C a)) (hb : PE X y (tev G W C b)) (hg : glB X.env.scope (Str.ofString "zip") = true) (hn : noStar x = true) (hn2 : noStar y = true) :
    PI X (.Tuple elts kk tpos) (.Call (.Name (Str.ofString "zip") p) [x, y] [] pos) (tevI G W C (.zip a b)) := by
  have hargs : PA X [x, y] (tevs G W C (.cons a (.cons b .nil))) := snd_cons ha (snd_cons hb snd_nil hn2) hn
  refine PI.imp (PI.or (RZ.pi_zipA (elts := elts) (kk := kk) (tpos := tpos) (gl_of hg) (K.blt "zip" (by decide)) hargs (star_cons hn) (by rw [star_cons hn2]; rfl)) (Zm.pi_zipM (elts := elts) (kk := kk) (tpos := tpos) (gl_of hg) (K.blt "zip" (by decide)) hargs (star_cons hn) (by rw [star_cons hn2]; rfl))) fun σ H Z ⟨fx, B, μ, st, sl, s, r, q⟩ => ?_
  simp only [evI] at q
  cases eA : (evX C sl a).v st with
  | no => rw [eA] at q; exact q.elim
  | exc x st1 => rw [eA] at q; exact .inl ⟨fx, B, μ, st, sl, s, r, by simp only [evEs, eA]; exact q⟩
  | ok d st1 =>
    rw [eA, R.bind_ok] at q
    cases eB : (evX C sl b).v st1 with
    | no => rw [eB] at q; exact q.elim
    | exc x st1 => rw [eB] at q; exact .inl ⟨fx, B, μ, st, sl, s, r, by simp only [evEs, eA, R.bind_ok, eB]; exact q⟩
    | ok e st2 =>
      rw [eB, R.bind_ok] at q
      have eL : evEs C sl (.cons a (.cons b .nil)) st = .ok [d, e] st2 := by simp only [evEs, eA, eB, R.bind_ok]
      cases hz : zipI d e st2 with
      | none => rw [hz] at q; exact q.elim
      | some pr =>
        rw [hz] at q
        unfold zipI at hz
        split at hz
        · rename_i xs ys hx hy
          split at hz
          · cases hz
          · rename_i hk
            cases hz
            rcases seq_LT hx with kx | kx
            · rcases seq_LT hy with ky | ky
              · refine .inl ⟨fx, B, μ, st, sl, s, r, ?_⟩
                rw [eL]
                intro B1 μ1 H1 vs h1 h2 s1 rv
                obtain ⟨v1, v2, ev, r1, r2⟩ := two_rep rv
                subst ev
                obtain ⟨a1, xs', rfl, ex, lx⟩ := lh_L s1 r1 kx
                obtain ⟨a2, ys', rfl, ey, ly⟩ := lh_L s1 r2 ky
                rw [hx] at ex; rw [hy] at ey
                cases ex; cases ey
                obtain ⟨vx, qx, _⟩ := lx _ _ _ _ _ (Same.refl _) (Pre.refl _) s1 (hold_self _ _)
                obtain ⟨vy, qy, _⟩ := ly _ _ _ _ _ (Same.refl _) (Pre.refl _) s1 (hold_self _ _)
                rw [K.K]
                exact ⟨a1, a2, vx, vy, rfl, .inl ⟨qx, qy, End.ok (P := PI' G) (q.mono h1 h2) s1 (walk_zip lx ly (fun _ _ h => h) (fun _ _ _ _ h => h) fun _ _ h => h)⟩⟩
              · refine .inr ⟨fx, B, μ, st, sl, s, r, ?_⟩
                rw [eL]
                intro B1 μ1 H1 vs h1 h2 s1 rv
                obtain ⟨v1, v2, ev, r1, r2⟩ := two_rep rv
                subst ev
                obtain ⟨a1, xs', rfl, ex, lx⟩ := lh_L s1 r1 kx
                obtain ⟨a2, ys', rfl, ey, ly⟩ := lh_T s1 r2 ky
                rw [hx] at ex; rw [hy] at ey
                cases ex; cases ey
                obtain ⟨vx, qx, _⟩ := lx _ _ _ _ _ (Same.refl _) (Pre.refl _) s1 (hold_self _ _)
                obtain ⟨vy, qy, _⟩ := ly _ _ _ _ _ (Same.refl _) (Pre.refl _) s1 (hold_self _ _)
                rw [K.K]
                exact ⟨a1, a2, vx, vy, rfl, qx, qy, End.ok (P := PI' G) (q.mono h1 h2) s1 (walk_zip lx ly (fun _ _ h => h) (fun _ _ _ _ h => h) fun _ _ h => h)⟩
            · rcases seq_LT hy with ky | ky
              · exact absurd ⟨kx, ky⟩ hk
              · refine .inl ⟨fx, B, μ, st, sl, s, r, ?_⟩
                rw [eL]
                intro B1 μ1 H1 vs h1 h2 s1 rv
                obtain ⟨v1, v2, ev, r1, r2⟩ := two_rep rv
                subst ev
                obtain ⟨a1, xs', rfl, ex, lx⟩ := lh_T s1 r1 kx
                obtain ⟨a2, ys', rfl, ey, ly⟩ := lh_T s1 r2 ky
                rw [hx] at ex; rw [hy] at ey
                cases ex; cases ey
                obtain ⟨vx, qx, _⟩ := lx _ _ _ _ _ (Same.refl _) (Pre.refl _) s1 (hold_self _ _)
                obtain ⟨vy, qy, _⟩ := ly _ _ _ _ _ (Same.refl _) (Pre.refl _) s1 (hold_self _ _)
                rw [K.K]
                exact ⟨a1, a2, vx, vy, rfl, .inr ⟨qx, qy, End.ok (P := PI' G) (q.mono h1 h2) s1 (walk_zip lx ly (fun _ _ h => h) (fun _ _ _ _ h => h) fun _ _ h => h)⟩⟩
        · cases hz
end
end Fg

set_option maxHeartbeats 4000000
/-! Fn: list comprehensions. -/
namespace Fg
open PySem PySem.Spec PyProof.Rows L2

section
variable {G : GE} {fx B : Hp} {μ : List Addr} {st : Store} {H : Hp}
/-- what is held and may change, put away or taken in -/
theorem SR.setfx (s : SR G fx B μ st H) {p : Addr} {o : HO} (h : H p = none) : SR G (upd fx p o) B μ st (upd H p o) := by
  have hB : B p = none := s.sub.free h
  have hμ : p ∉ μ := fun hm => by
    obtain ⟨n, hn, e2⟩ := List.getElem_of_mem hm
    have h3 : n < st.length := by rw [← s.len]; exact hn
    obtain ⟨_, _, o, k, _⟩ := s.cell n p st[n] (by rw [List.getElem?_eq_getElem hn, e2]) (List.getElem?_eq_getElem h3)
    rw [h] at k; cases k
  refine ⟨s.len, s.nd, fun n a d h1 h2 => ?_, fun a u e => ?_, fun a h1 h2 => ?_⟩
  · obtain ⟨k1, k2, u, k3, k4⟩ := s.cell n a d h1 h2
    have ne := ne_of_none k3 h
    exact ⟨k1, by rw [upd_ne ne]; exact k2, u, by rw [upd_ne ne]; exact k3, k4⟩
  · by_cases ne : a = p
    · subst ne; rw [upd_same] at e; cases e; exact ⟨hB, upd_same⟩
    · rw [upd_ne ne] at e ⊢
      exact s.fix a u e
  · by_cases ne : a = p
    · subst ne; rw [upd_same] at h1; cases h1
    · rw [upd_ne ne] at h1 ⊢
      exact s.rest a h1 h2
theorem SR.chfx {p : Addr} {o o' : HO} (s : SR G (upd fx p o) B μ st H) : SR G (upd fx p o') B μ st (upd H p o') := by
  obtain ⟨hB, hp⟩ := s.fix p o upd_same
  have hμ : ∀ (n : Nat) a d, μ[n]? = some a → st[n]? = some d → a ≠ p := fun n a d h1 h2 e => by
    subst e
    have := (s.cell n a d h1 h2).2.1
    rw [upd_same] at this; cases this
  refine ⟨s.len, s.nd, fun n a d h1 h2 => ?_, fun a u e => ?_, fun a h1 h2 => ?_⟩
  · obtain ⟨k1, k2, u, k3, k4⟩ := s.cell n a d h1 h2
    have ne := hμ n a d h1 h2
    rw [upd_ne ne] at k2
    exact ⟨k1, by rw [upd_ne ne]; exact k2, u, by rw [upd_ne ne]; exact k3, k4⟩
  · by_cases ne : a = p
    · subst ne; rw [upd_same] at e; cases e; exact ⟨hB, upd_same⟩
    · rw [upd_ne ne] at e ⊢
      exact s.fix a u (by rw [upd_ne ne]; exact e)
  · by_cases ne : a = p
    · subst ne; rw [upd_same] at h1; cases h1
    · rw [upd_ne ne] at h1 ⊢
      exact s.rest a (by rw [upd_ne ne]; exact h1) h2
/-- put away for good -/
theorem SR.outB {p : Addr} {o : HO} (s : SR G (upd fx p o) B μ st H) (hf : fx p = none) : Same B (upd B p o) ∧ SR G fx (upd B p o) μ st H := by
  obtain ⟨hB, hp⟩ := s.fix p o upd_same
  have hμ : ∀ (n : Nat) a d, μ[n]? = some a → st[n]? = some d → a ≠ p := fun n a d h1 h2 e => by
    subst e
    have := (s.cell n a d h1 h2).2.1
    rw [upd_same] at this; cases this
  have sm : Same B (upd B p o) := fun b u e => by rw [upd_ne (ne_of_none e hB)]; exact e
  refine ⟨sm, s.len, s.nd, fun n a d h1 h2 => ?_, fun a u e => ?_, fun a h1 h2 => ?_⟩
  · obtain ⟨k1, k2, u, k3, k4⟩ := s.cell n a d h1 h2
    have ne := hμ n a d h1 h2
    rw [upd_ne ne] at k2
    exact ⟨by rw [upd_ne ne]; exact k1, k2, u, k3, k4.mono sm (Pre.refl _)⟩
  · have ne : a ≠ p := fun z => by subst z; rw [hf] at e; cases e
    obtain ⟨k1, k2⟩ := s.fix a u (by rw [upd_ne ne]; exact e)
    exact ⟨by rw [upd_ne ne]; exact k1, k2⟩
  · by_cases ne : a = p
    · subst ne; rw [upd_same]; exact hp
    · rw [upd_ne ne]
      exact s.rest a (by rw [upd_ne ne]; exact h1) h2
/-- put away as a cell -/
theorem SR.outC {p : Addr} {o : HO} {d : D} (s : SR G (upd fx p o) B μ st H) (hf : fx p = none) (r : CRep G B (μ ++ [p]) d o) : SR G fx B (μ ++ [p]) (st ++ [d]) H := by
  obtain ⟨hB, hp⟩ := s.fix p o upd_same
  have hμ : ∀ (n : Nat) a d, μ[n]? = some a → st[n]? = some d → a ≠ p := fun n a d h1 h2 e => by
    subst e
    have := (s.cell n a d h1 h2).2.1
    rw [upd_same] at this; cases this
  have hm : p ∉ μ := fun hm => by
    obtain ⟨n, hn, e2⟩ := List.getElem_of_mem hm
    have h3 : n < st.length := by rw [← s.len]; exact hn
    exact hμ n p st[n] (by rw [List.getElem?_eq_getElem hn, e2]) (List.getElem?_eq_getElem h3) rfl
  refine ⟨by simp [s.len], List.nodup_append.mpr ⟨s.nd, by simp, fun a ha b hb e => by simp at hb; subst hb; subst e; exact hm ha⟩, fun n a d' h1 h2 => ?_, fun a u e => ?_, fun a h1 h2 => ?_⟩
  · by_cases hn : n < μ.length
    · rw [List.getElem?_append_left hn] at h1
      rw [List.getElem?_append_left (by rw [← s.len]; exact hn)] at h2
      obtain ⟨k1, k2, u, k3, k4⟩ := s.cell n a d' h1 h2
      have ne := hμ n a d' h1 h2
      rw [upd_ne ne] at k2
      exact ⟨k1, k2, u, k3, k4.mono (Same.refl _) (Pre.app _ _)⟩
    · rw [List.getElem?_append_right (by omega)] at h1
      rw [List.getElem?_append_right (by rw [← s.len]; omega), ← s.len] at h2
      have e0 : n - μ.length = 0 := by
        cases k : n - μ.length with
        | zero => rfl
        | succ m => rw [k] at h1; simp at h1
      rw [e0] at h1 h2
      simp at h1 h2
      subst h1; subst h2
      exact ⟨hB, hf, o, hp, r⟩
  · have ne : a ≠ p := fun z => by subst z; rw [hf] at e; cases e
    exact s.fix a u (by rw [upd_ne ne]; exact e)
  · have ne : a ≠ p := fun e => h2 (by simp [e])
    exact s.rest a (by rw [upd_ne ne]; exact h1) fun hm => h2 (by simp [hm])
/-- the list that a comprehension made, handed out -/
theorem End.outL {W : WX} {σ : L2.St} {c : Bool} {p : Addr} {o : HO} {d : D} {Q : VK} (h : End G (PD G) fx B μ W σ (Fg.alloc c d st) Q) (s : SR G (upd fx p o) B μ st H) (hf : fx p = none) (r : CRep G B μ d o) : Q (.ref p) H := by
  cases c with
  | true =>
    have s' := s.outC hf (r.mono (Same.refl _) (Pre.app μ [p]))
    refine h B (μ ++ [p]) H (.ref p) (Same.refl _) (Pre.app _ _) s' (.ref ?_)
    rw [← s.len]; simp
  | false =>
    obtain ⟨sm, s'⟩ := s.outB hf
    exact h _ μ _ _ sm (Pre.refl _) s' (r.rep sm)
theorem wipeS_length (σ : Slots) : ∀ vs : List Nat, (wipeS σ vs).length = σ.length
  | [] => rfl
  | v :: vs => by rw [wipeS, List.length_set, wipeS_length σ vs]
theorem SlR.wipe {sl : Slots} {σ : L2.St} (r : Fg.SlR G B μ sl σ) : ∀ vs : List Nat, Fg.SlR G B μ (wipeS sl vs) (L2.wipe σ vs)
  | [] => r
  | v :: vs => by
    have ih := SlR.wipe r vs
    refine ⟨by rw [wipeS, L2.wipe, List.length_set, List.length_set]; exact ih.1, fun j e hj => ?_⟩
    rw [wipeS] at hj
    rw [L2.wipe]
    by_cases hv : v = j
    · subst hv
      by_cases hl : v < (wipeS sl vs).length
      · rw [List.getElem?_set_self hl] at hj; cases hj
      · rw [List.getElem?_eq_none (by simpa using hl)] at hj; cases hj
    · rw [List.getElem?_set_ne hv] at hj
      rw [List.getElem?_set_ne hv]
      exact ih.2 j e hj
theorem wipe_get (σ : L2.St) : ∀ (vs : List Nat) (i : Nat), (L2.wipe σ vs)[i]? = if i ∈ vs then (σ[i]?).map fun _ => none else σ[i]?
  | [], i => by simp [L2.wipe]
  | v :: vs, i => by
    rw [L2.wipe]
    by_cases hv : v = i
    · subst hv
      by_cases hl : v < σ.length
      · rw [List.getElem?_set_self (by rw [L2.wipe_length]; exact hl)]
        simp [List.getElem?_eq_getElem hl]
      · have : v ≥ σ.length := by omega
        rw [List.getElem?_eq_none (by rw [List.length_set, L2.wipe_length]; omega), List.getElem?_eq_none this]
        simp
    · rw [List.getElem?_set_ne hv, wipe_get σ vs i]
      simp [Ne.symm hv]
/-- slots that differ at the own names alone -/
theorem wipe_own {σ σ2 : L2.St} {vs is : List Nat} (hi : ∀ i ∈ is, i ∈ vs) (hl : σ2.length = (L2.wipe σ vs).length) (he : ∀ (i : Nat), i ∉ is → σ2[i]? = (L2.wipe σ vs)[i]?) : L2.wipe σ2 vs = L2.wipe σ vs := by
  apply List.ext_getElem?
  intro i
  rw [wipe_get]
  by_cases hv : i ∈ vs
  · rw [if_pos hv, wipe_get, if_pos hv]
    rw [L2.wipe_length] at hl
    by_cases hb : i < σ.length
    · rw [List.getElem?_eq_getElem (by omega), List.getElem?_eq_getElem hb]; rfl
    · rw [List.getElem?_eq_none (by omega), List.getElem?_eq_none (by omega)]
  · rw [if_neg hv]
    exact he i fun h => hv (hi i h)
end

/-- the context of a comprehension's block -/
theorem Cxt.blk {G : GE} {C : Cf} {W : WX} {k : Nat} {fl : List String} {X : Cx} (K : Cxt G C W k fl X) (s : Shared) (H : Hp) (scope : Scope) (cenv : Env) (fp : List Addr) : Cxt G C (fun _ _ _ _ => False) k fl (X.blk s H scope cenv fp) :=
  ⟨K.K, K.calm, K.nd, K.room, fun u s' ⟨_, _, _, _, _, _, _, _, _, _, _, _, _, _, _, _, w⟩ => w, K.blt, K.con, K.kit, K.cls, K.fld,
    fun f h => let ⟨fa, h1, ⟨⟨fd, ps, h2, h3⟩, h4⟩⟩ := K.fn f h; ⟨fa, h1, ⟨⟨fd, ps, h2, h3⟩, h4⟩⟩,
    fun c m a h g => let ⟨fa, h1, ⟨⟨fd, ps, h2, h3⟩, h4⟩⟩ := K.mt c m a h g; ⟨fa, h1, ⟨⟨fd, ps, h2, h3⟩, h4⟩⟩,
    fun c h => let ⟨a, fa, h0, h1, h5, ⟨⟨fd, ps, h2, h3⟩, h4⟩⟩ := K.mke c h; ⟨a, fa, h0, h1, h5, ⟨⟨fd, ps, h2, h3⟩, h4⟩⟩⟩

abbrev WF : WX := fun _ _ _ _ => False
/-- one turn of a comprehension -/
noncomputable def lcF (C : Cf) (sl : Slots) (own : List Nat) (g : IG) (cond elt : IE) : D → Store → R (Option D) := fun d st => match setG g d (wipeS sl own) with
  | some σ1 => ((evX C σ1 cond).t st).bind fun b st2 => if b = true then ((evX C σ1 elt).v st2).bind fun y st3 => .ok (some y) st3 else .ok none st2
  | none => .no
/-- what a list comprehension's reading asks, from the evaluator's way -/
theorem lc_step {G : GE} {C : Cf} {W : WX} {c : Bool} {own : List Nat} {g : IG} {it : II} {cond elt : IE} (ho : ∀ i ∈ igs g, i ∈ own) {σ : L2.St} {H : Hp} {Q : VK} (h : tev G W C (.lc c own g it cond elt) σ H Q) :
    tLc (tevI G W C it) (tevG G g) (tevT G WF C cond) (tev G WF C elt) own σ H Q := by
  obtain ⟨fx, B, μ, st, sl, s, r, q⟩ := h
  refine ⟨fx, B, μ, st, sl, s, r, (End.bind (P := PI' G) q).imp fun J H1 ⟨B1, μ1, st1, p, h1, h2, s1, wk, q1⟩ => ?_⟩
  intro Dn hD
  have hfD : fx Dn = none := by
    cases e : fx Dn with
    | none => rfl
    | some u => have := (s1.fix Dn u e).2; rw [hD] at this; cases this
  obtain ⟨items, hld⟩ := p
  -- the whole loop's end
  cases hw : lcLoop (lcF C sl own g cond elt) hld items st1 with
  | no => exact absurd q1 (by show ¬ End G (PD G) fx B1 μ1 W σ ((lcLoop (lcF C sl own g cond elt) hld items st1).bind _) Q; rw [hw]; exact id)
  | exc x st2 =>
    exact absurd hw (by
      cases items with
      | nil => unfold lcLoop; split <;> simp
      | cons d ds => unfold lcLoop; split <;> (try split) <;> (try split) <;> simp)
  | ok ys stF =>
    have q2 : End G (PD G) fx B1 μ1 W σ (if ys.length ≤ sizeLine then alloc c (.lst ys) stF else .no) Q := by
      have : End G (PD G) fx B1 μ1 W σ ((lcLoop (lcF C sl own g cond elt) hld items st1).bind fun ys st2 => if ys.length ≤ sizeLine then alloc c (.lst ys) st2 else .no) Q := q1
      rw [hw] at this; exact this
    have hlen : ys.length ≤ sizeLine := by
      by_cases hc : ys.length ≤ sizeLine
      · exact hc
      · rw [if_neg hc] at q2; exact q2.elim
    rw [if_pos hlen] at q2
    -- the invariant
    refine ⟨fun i m H => m = items.length - i ∧ i ≤ items.length ∧ ∃ B2 μ2 st2 accD acc ys', Same B1 B2 ∧ Pre μ1 μ2 ∧ SR G (upd fx Dn (.lst acc)) B2 μ2 st2 H ∧ RepL G B2 μ2 accD acc ∧ lcLoop (lcF C sl own g cond elt) hld (items.drop i) st2 = .ok ys' stF ∧ ys = accD ++ ys',
      ⟨items.length, rfl, Nat.zero_le _, B1, μ1, st1, [], [], ys, Same.refl _, Pre.refl _, s1.setfx hD, RepL.nil, by simpa using hw, rfl⟩, ?_⟩
    rintro i m H2 ⟨rfl, hi, B2, μ2, st2, accD, acc, ys', b1, b2, s2, ra, hl, ey⟩
    have hok : hld.ok st2 := by
      by_cases hc : hld.ok st2
      · exact hc
      · cases e : items.drop i with
        | nil => rw [e] at hl; unfold lcLoop at hl; rw [if_neg hc] at hl; cases hl
        | cons d ds => rw [e] at hl; unfold lcLoop at hl; rw [if_neg hc] at hl; cases hl
    obtain ⟨w1, w2⟩ := wk _ B2 μ2 st2 H2 i b1 b2 s2 hok
    by_cases hlt : i < items.length
    · right
      obtain ⟨go, yl⟩ := w1 items[i] (List.getElem?_eq_getElem hlt)
      refine ⟨go, fun H' => ∃ B2 μ2 st2 accD acc ys', Same B1 B2 ∧ Pre μ1 μ2 ∧ SR G (upd fx Dn (.lst acc)) B2 μ2 st2 H' ∧ RepL G B2 μ2 accD acc ∧ lcLoop (lcF C sl own g cond elt) hld (items.drop (i + 1)) st2 = .ok ys' stF ∧ ys = accD ++ ys',
        fun H' hN => ⟨items.length - (i + 1), by omega, rfl, hlt, hN⟩, fun x H' hy => ?_⟩
      obtain ⟨B3, b3, s3, rx⟩ := yl x H' hy
      rw [List.drop_eq_getElem_cons hlt] at hl
      unfold lcLoop at hl
      rw [if_pos hok] at hl
      cases hf : lcF C sl own g cond elt items[i] st2 with
      | no => rw [hf] at hl; cases hl
      | exc x st3 => rw [hf] at hl; cases hl
      | ok o st3 =>
        rw [hf] at hl
        cases hr : lcLoop (lcF C sl own g cond elt) hld (items.drop (i + 1)) st3 with
        | no => simp only [hr] at hl; cases hl
        | exc x st4 => simp only [hr] at hl; cases hl
        | ok rest stR =>
          simp only [hr] at hl
          -- the target
          unfold lcF at hf
          split at hf
          · rename_i sl1 hg
            have rw0 := (r.mono (h1.trans (b1.trans b3)) (h2.trans b2)).wipe own
            refine ⟨_, B3, μ2, st2, wipeS sl own, items[i], sl1, s3, rw0, rx, hg, fun σ2 r2 l2 n2 => ⟨wipe_own (is := igs g) ho l2 n2, ?_⟩⟩
            -- the test
            refine ⟨_, B3, μ2, st2, sl1, s3, r2, ?_⟩
            cases ht : (evX C sl1 cond).t st2 with
            | no => rw [ht] at hf; cases hf
            | exc x st4 => rw [ht] at hf; cases hf
            | ok b st4 =>
              rw [ht] at hf
              intro B4 μ4 H4 b' b4 m4 s4 eb
              cases eb
              simp only [Fg.R.bind_ok] at hf
              cases b with
              | false =>
                rw [if_neg Bool.false_ne_true] at hf
                cases hf
                rw [if_neg Bool.false_ne_true]
                cases hl
                exact ⟨B4, μ4, st3, accD, acc, rest, b1.trans (b3.trans b4), b2.trans m4, s4, ra.mono (b3.trans b4) m4, hr, ey⟩
              | true =>
                rw [if_pos rfl] at hf
                rw [if_pos rfl]
                refine ⟨_, B4, μ4, st4, sl1, s4, r2.mono b4 m4, ?_⟩
                cases hv : (evX C sl1 elt).v st4 with
                | no => rw [hv] at hf; cases hf
                | exc x st5 => rw [hv] at hf; cases hf
                | ok y st5 =>
                  rw [hv] at hf
                  simp only [Fg.R.bind_ok] at hf
                  cases hf
                  intro B5 μ5 H5 yv b5 m5 s5 ry
                  cases hl
                  have ra5 : RepL G B5 μ5 accD acc := ra.mono (b3.trans (b4.trans b5)) (m4.trans m5)
                  refine ⟨acc, (s5.fix Dn _ upd_same).2, ?_, B5, μ5, st3, accD ++ [y], acc ++ [yv], rest, b1.trans (b3.trans (b4.trans b5)), b2.trans (m4.trans m5), s5.chfx, ra5.app (.cons ry .nil), hr, by rw [ey]; simp⟩
                  rw [ey] at hlen
                  rw [← ra5.1]
                  simp at hlen; omega
          · cases hf
    · left
      have ei : i = items.length := by omega
      refine ⟨w2 ei, ?_⟩
      rw [ei, List.drop_length] at hl
      unfold lcLoop at hl
      rw [if_pos hok] at hl
      cases hl
      rw [List.append_nil] at ey
      subst ey
      exact End.outL (q2.mono b1 b2) s2 hfD (.lst ra)
end Fg

set_option maxHeartbeats 4000000
/-! Fo: chains of comparisons; list comprehensions as values. -/
namespace Fg
open PySem PySem.Spec PyProof.Rows L2

section
variable {G : GE} {C : Cf} {W : WX} {k : Nat} {fl : List String} {X : Cx}
theorem chain_step {op op' : CmpOp} {a b c : IE} {σ : L2.St} {H : Hp} {Q : VK} (h : tev G W C (.chain op op' a b c) σ H Q) :
    tChain (rCmp G.K op) (rCmp G.K op') (tev G W C a) (tev G W C b) (tev G W C c) σ H Q := by
  obtain ⟨fx, B, μ, st, sl, s, r, q⟩ := h
  refine ⟨fx, B, μ, st, sl, s, r, (End.bind (P := PD G) q).imp fun v H1 ⟨B1, μ1, st1, d, h1, h2, s1, rx, q1⟩ => ⟨fx, B1, μ1, st1, sl, s1, r.mono h1 h2, (End.bind (P := PD G) q1).imp fun u H2 ⟨B2, μ2, st2, e, h3, h4, s2, ry, q2⟩ => ?_⟩⟩
  cases hv : cmpV st2 op d e with
  | none => simp only [hv] at q2; exact q2.elim
  | some w =>
    simp only [hv] at q2
    refine cmp_end s2 (rx.mono h3 h4) ry hv ⟨w, rfl, ?_⟩
    cases w with
    | false => rw [if_neg Bool.false_ne_true]; exact End.ok (P := PD G) q2 s2 (.bl _)
    | true =>
      rw [if_pos rfl]
      refine ⟨fx, B2, μ2, st2, sl, s2, r.mono (h1.trans h3) (h2.trans h4), (End.bind (P := PD G) q2).imp fun t H3 ⟨B3, μ3, st3, z, h5, h6, s3, rz, q3⟩ => ?_⟩
      cases hw : cmpV st3 op' e z with
      | none => simp only [hw] at q3; exact q3.elim
      | some w2 =>
        simp only [hw] at q3
        exact cmp_end s3 (ry.mono h5 h6) rz hw (End.ok (P := PD G) q3 s3 (.bl _))
theorem snd_chainT (K : Cxt G C W k fl X) {op op' : CmpOp} {a b c : IE} {x y z : Expr} {pos : Pos} (ha : PE X x (tev G W C a)) (hb : PE X y (tev G W C b)) (hc : PE X z (tev G W C c)) (hm : lastMarks [op, op'] [y, z] = false) :
    PT X (.Compare x [op, op'] [y, z] pos) (tevT G W C (.chain op op' a b c)) :=
  PT.imp (pt_chain (op_cmp op K.units) (op_cmp op' K.units) ha hb hc hm) fun σ H Q ⟨fx, B, μ, st, sl, s, r, q⟩ => by
    rw [K.K]
    refine chain_step ⟨fx, B, μ, st, sl, s, r, (End.bind (P := PD G) (P2 := PB) (show End G PB fx B μ W σ (((evX C sl (.chain op op' a b c)).v st).bind fun x st1 => match x with | .bl b => R.ok b st1 | _ => .no) Q from q)).imp fun v H1 ⟨B1, μ1, st1, d, h1, h2, s1, rv, q1⟩ => ?_⟩
    split at q1
    · cases rv
      exact ⟨_, rfl, End.ok (P := PB) q1 s1 rfl⟩
    · exact q1.elim
theorem snd_chain (K : Cxt G C W k fl X) {op op' : CmpOp} {a b c : IE} {x y z : Expr} {pos : Pos} (ha : PE X x (tev G W C a)) (hb : PE X y (tev G W C b)) (hc : PE X z (tev G W C c)) (hm : lastMarks [op, op'] [y, z] = false) :
    PE X (.Compare x [op, op'] [y, z] pos) (tev G W C (.chain op op' a b c)) :=
  PE.imp (pe_chain (op_cmp op K.units) (op_cmp op' K.units) ha hb hc hm) fun σ H Q h => by rw [K.K]; exact chain_step h
/-- the reading of a block's tests -/
theorem pts_yes : PTs X [] (tevT G W C (.con (.bl true))) := ⟨fun pins s σ H Q I ⟨fx, B, μ, st, sl, s', r, q⟩ => pts_nil.run pins s σ H Q I (End.ok (P := PB) q s' rfl)⟩
theorem snd_lc (K : Cxt G C W k fl X) {c : Bool} {own : List (Str × Nat)} {g : IG} {it : II} {cond elt : IE} {tg iter ex : Expr} {ifs : List Expr} {scope : Scope} {pos : Pos} (hi : PI X tg iter (tevI G W C it)) (ok : BlkOk X.N X.env.scope scope own)
    (hg : ∀ (s : Shared) (H : Hp) (D : Addr) (cl : List (Str × Addr)) (fp : List Addr), PG (X.blk s H scope (compEnvC scope cl D X.env) fp) tg (tevG G g))
    (ht : ∀ (s : Shared) (H : Hp) (D : Addr) (cl : List (Str × Addr)) (fp : List Addr), PTs (X.blk s H scope (compEnvC scope cl D X.env) fp) ifs (tevT G WF C cond))
    (he : ∀ (s : Shared) (H : Hp) (D : Addr) (cl : List (Str × Addr)) (fp : List Addr), PE (X.blk s H scope (compEnvC scope cl D X.env) fp) ex (tev G WF C elt)) (ho : ∀ i ∈ igs g, i ∈ own.map (·.2)) (hs : ∀ x, foldedSetIterable iter X.env x = pure x) :
    PE X (.ListComp ex [⟨tg, iter, ifs, 0⟩] scope pos) (tev G W C (.lc c (own.map (·.2)) g it cond elt)) :=
  PE.imp (pe_lc K.calm K.nd hi ok hg ht he hs) fun σ H Q h => lc_step ho h
end
end Fg

set_option maxHeartbeats 4000000
/-! Fp: statements: the evaluator, what its end gives, the first readings. -/
namespace Fg
open PySem PySem.Spec PyProof.Rows L2

/-- what a statement comes to -/
inductive RS where
  | nx (sl : Slots) (st : Store) | rt (d : D) (st : Store) | bk (sl : Slots) (st : Store) | ct (sl : Slots) (st : Store) | exc (x : Exn) (sl : Slots) (st : Store) | no
def RS.of {α : Type} (r : R α) (sl : Slots) (f : α → Store → RS) : RS := match r with | .ok a st => f a st | .exc x st => .exc x sl st | .no => .no
@[simp] theorem RS.of_ok {α : Type} (a : α) (st : Store) (sl : Slots) (f : α → Store → RS) : RS.of (.ok a st) sl f = f a st := nrfl rfl
@[simp] theorem RS.of_exc {α : Type} (x : Exn) (st : Store) (sl : Slots) (f : α → Store → RS) : RS.of (.exc x st) sl f = .exc x sl st := nrfl rfl
@[simp] theorem RS.of_no {α : Type} (sl : Slots) (f : α → Store → RS) : RS.of (.no : R α) sl f = .no := nrfl rfl
def RS.seq (r : RS) (k : Slots → Store → RS) : RS := match r with | .nx sl st => k sl st | r => r
@[simp] theorem RS.seq_nx (sl : Slots) (st : Store) (k : Slots → Store → RS) : (RS.nx sl st).seq k = k sl st := nrfl rfl
@[simp] theorem RS.seq_rt (d : D) (st : Store) (k : Slots → Store → RS) : (RS.rt d st).seq k = .rt d st := nrfl rfl
@[simp] theorem RS.seq_bk (sl : Slots) (st : Store) (k : Slots → Store → RS) : (RS.bk sl st).seq k = .bk sl st := nrfl rfl
@[simp] theorem RS.seq_ct (sl : Slots) (st : Store) (k : Slots → Store → RS) : (RS.ct sl st).seq k = .ct sl st := nrfl rfl
@[simp] theorem RS.seq_exc (x : Exn) (sl : Slots) (st : Store) (k : Slots → Store → RS) : (RS.exc x sl st).seq k = .exc x sl st := nrfl rfl
@[simp] theorem RS.seq_no (k : Slots → Store → RS) : RS.no.seq k = .no := nrfl rfl
/-- what a loop does behind its body -/
def RS.turn (r : RS) (k : Slots → Store → RS) : RS := match r with | .nx sl st => k sl st | .ct sl st => k sl st | .bk sl st => .nx sl st | r => r

open Classical in
noncomputable def forL (body : Slots → Store → RS) (g : IG) (h : Hold) : List D → Slots → Store → RS
  | [], sl, st => if h.ok st then .nx sl st else .no
  | d :: ds, sl, st => if h.ok st then (match setG g d sl with | some sl1 => (body sl1 st).turn (forL body g h ds) | none => .no) else .no
def whlL (c : Slots → Store → R Bool) (body : Slots → Store → RS) : Nat → Slots → Store → RS
  | 0, _, _ => .no
  | n + 1, sl, st => RS.of (c sl st) sl fun b st1 => if b = true then (body sl st1).turn (whlL c body n) else .nx sl st1
/-- o[i] = v: the cell behind -/
def putV (st : Store) (o i v : D) : Option D := match view st o with
  | .lst xs => match i with | .int j => if -(2 ^ 63) ≤ j ∧ j < 2 ^ 63 then (ixN xs.length j).map fun k => .lst (xs.set k v) else none | _ => none
  | d => dPut d i v
def stoV (st : Store) (o i v : D) : Option Store := match o with | .ref n => (putV st o i v).map fun d => st.set n d | _ => none
/-- o.f = v -/
def fldS (st : Store) (o : D) (f : String) (v : D) : Option Store := match o with
  | .ref n => match view st o with | .obj c fs => if fs.length < 1000 then some (st.set n (.obj c (putA f v fs))) else none | _ => none
  | _ => none
/-- ints, added to and taken from in place -/
def ipV : Operator → D → D → Option D
  | .Add, .int i, .int j => some (.int (i + j)) | .Sub, .int i, .int j => some (.int (i - j)) | _, _, _ => none

def isLD : D → Bool
  | .lst _ => true | .dk _ => true | .dt _ => true | _ => false
/-- o[i] of a list, a dict -/
def idxS (d y : D) : Option D := if isLD d = true then idxV d y else none

mutual
noncomputable def evS (C : Cf) : IS → Slots → Store → RS
  | .set _ _, _, _ => .no
  | .tgt g e, sl, st => RS.of ((evX C sl e).v st) sl fun d st1 => match setG g d sl with | some sl1 => .nx sl1 st1 | none => .no
  | .par i j a b, sl, st => RS.of ((evX C sl a).v st) sl fun x st1 => RS.of ((evX C sl b).v st1) sl fun y st2 => .nx ((sl.set i (some x)).set j (some y)) st2
  | .sub o i v, sl, st => RS.of ((evX C sl v).v st) sl fun z st1 => RS.of ((evX C sl o).v st1) sl fun x st2 => RS.of ((evX C sl i).v st2) sl fun y st3 => match stoV st3 x y z with | some st4 => .nx sl st4 | none => .no
  | .fst o f v, sl, st => RS.of ((evX C sl v).v st) sl fun z st1 => RS.of ((evX C sl o).v st1) sl fun x st2 => match fldS st2 x f z with | some st3 => .nx sl st3 | none => .no
  | .aug i op e, sl, st => match sl[i]? with
      | some (some x) => RS.of ((evX C sl e).v st) sl fun y st1 => match ipV op x y with | some z => .nx (sl.set i (some z)) st1 | none => .no
      | _ => .no
  | .augS o i op e, sl, st => RS.of ((evX C sl o).v st) sl fun x st1 => RS.of ((evX C sl i).v st1) sl fun y st2 => match idxS (view st2 x) y with
      | some u => RS.of ((evX C sl e).v st2) sl fun w st3 => match ipV op u w with | some z => (match stoV st3 x y z with | some st4 => .nx sl st4 | none => .no) | none => .no
      | none => .no
  | .augF o f op e, sl, st => RS.of ((evX C sl o).v st) sl fun x st1 => match fldV (view st1 x) f with
      | some u => RS.of ((evX C sl e).v st1) sl fun w st2 => match ipV op u w with | some z => (match fldS st2 x f z with | some st3 => .nx sl st3 | none => .no) | none => .no
      | none => .no
  | .ex e, sl, st => RS.of ((evX C sl e).v st) sl fun _ st1 => .nx sl st1
  | .ret e, sl, st => RS.of ((evX C sl e).v st) sl fun d st1 => .rt d st1
  | .retN, _, st => .rt .non st
  | .ife c a b, sl, st => RS.of ((evX C sl c).t st) sl fun x st1 => if x = true then evSs C a sl st1 else evSs C b sl st1
  | .for_ g it body, sl, st => RS.of (evI C sl it st) sl fun p st1 => forL (fun sl st => evSs C body sl st) g p.2 p.1 sl st1
  | .whl c body, sl, st => whlL (fun sl st => (evX C sl c).t st) (fun sl st => evSs C body sl st) C.L sl st
  | .rai _ _, _, _ => .no
  | .brk, sl, st => .bk sl st
  | .cnt, sl, st => .ct sl st
  | .pas, sl, st => .nx sl st
noncomputable def evSs (C : Cf) : ISs → Slots → Store → RS
  | .nil, sl, st => .nx sl st
  | .cons s ss, sl, st => (evS C s sl st).seq (evSs C ss)
end

section
variable {G : GE} {fx B B1 : Hp} {μ μ1 : List Addr} {st : Store} {H : Hp} {W : WX}
/-- what a statement's end must give -/
def EndS (G : GE) (fx B : Hp) (μ : List Addr) (W : WX) (r : RS) (D : Ends) : Prop := match r with
  | .nx sl st => ∀ B' μ' H' σ, Same B B' → Pre μ μ' → SR G fx B' μ' st H' → Fg.SlR G B' μ' sl σ → D.nx σ H'
  | .bk sl st => ∀ B' μ' H' σ, Same B B' → Pre μ μ' → SR G fx B' μ' st H' → Fg.SlR G B' μ' sl σ → D.bk σ H'
  | .ct sl st => ∀ B' μ' H' σ, Same B B' → Pre μ μ' → SR G fx B' μ' st H' → Fg.SlR G B' μ' sl σ → D.ct σ H'
  | .rt d st => ∀ B' μ' H' v, Same B B' → Pre μ μ' → SR G fx B' μ' st H' → Rep G B' μ' d v → D.rt v H'
  | .exc x sl st => ∀ B' μ' H' σ cls dd, Same B B' → Pre μ μ' → SR G fx B' μ' st H' → Fg.SlR G B' μ' sl σ → XRep G B' μ' x cls dd → W cls dd σ H'
  | .no => False
theorem EndS.mono {r : RS} {D : Ends} (h : EndS G fx B μ W r D) (hB : Same B B1) (hμ : Pre μ μ1) : EndS G fx B1 μ1 W r D := by
  cases r with
  | nx sl st => exact fun B' μ' H' σ k1 k2 => h B' μ' H' σ (hB.trans k1) (hμ.trans k2)
  | bk sl st => exact fun B' μ' H' σ k1 k2 => h B' μ' H' σ (hB.trans k1) (hμ.trans k2)
  | ct sl st => exact fun B' μ' H' σ k1 k2 => h B' μ' H' σ (hB.trans k1) (hμ.trans k2)
  | rt d st => exact fun B' μ' H' v k1 k2 => h B' μ' H' v (hB.trans k1) (hμ.trans k2)
  | exc x sl st => exact fun B' μ' H' σ c d k1 k2 => h B' μ' H' σ c d (hB.trans k1) (hμ.trans k2)
  | no => exact h
/-- an expression ahead of what is done with it -/
theorem EndS.of {α β : Type} {P : Hp → List Addr → Hp → α → β → Prop} {r : R α} {sl : Slots} {σ : L2.St} {f : α → Store → RS} {D : Ends} (h : EndS G fx B μ W (RS.of r sl f) D) (s : Fg.SlR G B μ sl σ) :
    End G P fx B μ W σ r fun v H1 => ∃ B1 μ1 st1 d, Same B B1 ∧ Pre μ μ1 ∧ SR G fx B1 μ1 st1 H1 ∧ P B1 μ1 H1 d v ∧ Fg.SlR G B1 μ1 sl σ ∧ EndS G fx B1 μ1 W (f d st1) D := by
  cases r with
  | ok d st => exact fun B' μ' H' v k1 k2 k3 k4 => ⟨B', μ', st, d, k1, k2, k3, k4, s.mono k1 k2, EndS.mono (r := f d st) h k1 k2⟩
  | exc x st => exact fun B' μ' H' c d k1 k2 k3 k4 => h B' μ' H' σ c d k1 k2 k3 (s.mono k1 k2) k4
  | no => exact h
theorem EndS.nx {sl : Slots} {σ : L2.St} {D : Ends} (h : EndS G fx B μ W (.nx sl st) D) (s : SR G fx B μ st H) (r : Fg.SlR G B μ sl σ) : D.nx σ H := h B μ H σ (Same.refl _) (Pre.refl _) s r
theorem EndS.bk {sl : Slots} {σ : L2.St} {D : Ends} (h : EndS G fx B μ W (.bk sl st) D) (s : SR G fx B μ st H) (r : Fg.SlR G B μ sl σ) : D.bk σ H := h B μ H σ (Same.refl _) (Pre.refl _) s r
theorem EndS.ct {sl : Slots} {σ : L2.St} {D : Ends} (h : EndS G fx B μ W (.ct sl st) D) (s : SR G fx B μ st H) (r : Fg.SlR G B μ sl σ) : D.ct σ H := h B μ H σ (Same.refl _) (Pre.refl _) s r
theorem EndS.rt {d : D} {v : V} {D : Ends} (h : EndS G fx B μ W (.rt d st) D) (s : SR G fx B μ st H) (r : Rep G B μ d v) : D.rt v H := h B μ H v (Same.refl _) (Pre.refl _) s r
end

/-- the readings -/
def tevS (G : GE) (W : WX) (C : Cf) (x : IS) : TS := fun D σ H => ∃ fx B μ st sl, SR G fx B μ st H ∧ Fg.SlR G B μ sl σ ∧ EndS G fx B μ W (evS C x sl st) D
def tevSs (G : GE) (W : WX) (C : Cf) (x : ISs) : TS := fun D σ H => ∃ fx B μ st sl, SR G fx B μ st H ∧ Fg.SlR G B μ sl σ ∧ EndS G fx B μ W (evSs C x sl st) D

section
variable {G : GE} {C : Cf} {W : WX} {k : Nat} {fl : List String} {X : Cx}
theorem snd_snil : PSs X [] (tevSs G W C .nil) := PSs.imp pss_nil fun D σ H ⟨fx, B, μ, st, sl, s, r, q⟩ => by
  simp only [evSs] at q
  exact EndS.nx q s r
theorem seq_end {fx B : Hp} {μ : List Addr} {r : RS} {ss : ISs} {D : Ends} (q : EndS G fx B μ W (r.seq (evSs C ss)) D) : EndS G fx B μ W r { D with nx := tevSs G W C ss D } := by
  cases r with
  | nx sl st => exact fun B' μ' H' σ k1 k2 k3 k4 => ⟨fx, B', μ', st, sl, k3, k4, EndS.mono (r := evSs C ss sl st) q k1 k2⟩
  | bk sl st => exact q
  | ct sl st => exact q
  | rt d st => exact q
  | exc x sl st => exact q
  | no => exact q
theorem snd_scons {s : IS} {ss : ISs} {x : Stmt} {xs : List Stmt} (h : PS X x (tevS G W C s)) (hs : PSs X xs (tevSs G W C ss)) : PSs X (x :: xs) (tevSs G W C (.cons s ss)) :=
  PSs.imp (pss_cons h hs) fun D σ H ⟨fx, B, μ, st, sl, s', r, q⟩ => by
    simp only [evSs] at q
    exact ⟨fx, B, μ, st, sl, s', r, seq_end q⟩
theorem snd_pas {pos : Pos} : PS X (.Pass pos) (tevS G W C .pas) := PS.imp ps_pass fun D σ H ⟨fx, B, μ, st, sl, s, r, q⟩ => by
  simp only [evS] at q; exact EndS.nx q s r
theorem snd_brk {pos : Pos} : PS X (.Break pos) (tevS G W C .brk) := PS.imp ps_break fun D σ H ⟨fx, B, μ, st, sl, s, r, q⟩ => by
  simp only [evS] at q; exact EndS.bk q s r
theorem snd_cnt {pos : Pos} : PS X (.Continue pos) (tevS G W C .cnt) := PS.imp ps_continue fun D σ H ⟨fx, B, μ, st, sl, s, r, q⟩ => by
  simp only [evS] at q; exact EndS.ct q s r
theorem snd_retN {pos : Pos} : PS X (.Return none pos) (tevS G W C .retN) := PS.imp ps_retN fun D σ H ⟨fx, B, μ, st, sl, s, r, q⟩ => by
  simp only [evS] at q; exact EndS.rt q s .non
theorem snd_ret {e : IE} {x : Expr} {pos : Pos} (h : PE X x (tev G W C e)) : PS X (.Return (some x) pos) (tevS G W C (.ret e)) :=
  PS.imp (ps_ret h) fun D σ H ⟨fx, B, μ, st, sl, s, r, q⟩ => by
    simp only [evS] at q
    exact ⟨fx, B, μ, st, sl, s, r, (EndS.of (P := PD G) q r).imp fun v H1 ⟨B1, μ1, st1, d, h1, h2, s1, rv, r1, q1⟩ => EndS.rt q1 s1 rv⟩
theorem snd_ex {e : IE} {x : Expr} {pos : Pos} (h : PE X x (tev G W C e)) (hs : swapsWith x none pos.line X.env = pure false) : PS X (.Expr x pos) (tevS G W C (.ex e)) :=
  PS.imp (ps_expr h hs) fun D σ H ⟨fx, B, μ, st, sl, s, r, q⟩ => by
    simp only [evS] at q
    exact ⟨fx, B, μ, st, sl, s, r, (EndS.of (P := PD G) q r).imp fun v H1 ⟨B1, μ1, st1, d, h1, h2, s1, rv, r1, q1⟩ => EndS.nx q1 s1 r1⟩
theorem snd_ife {c : IE} {a b : ISs} {x : Expr} {xs ys : List Stmt} {pos : Pos} (hc : PT X x (tevT G W C c)) (ha : PSs X xs (tevSs G W C a)) (hb : PSs X ys (tevSs G W C b)) : PS X (.If x xs ys pos) (tevS G W C (.ife c a b)) :=
  PS.imp (ps_if hc ha hb) fun D σ H ⟨fx, B, μ, st, sl, s, r, q⟩ => by
    simp only [evS] at q
    refine ⟨fx, B, μ, st, sl, s, r, (EndS.of (P := PB) q r).imp fun v H1 ⟨B1, μ1, st1, d, h1, h2, s1, rv, r1, q1⟩ => ?_⟩
    cases rv
    cases v with
    | true => exact ⟨fx, B1, μ1, st1, sl, s1, r1, q1⟩
    | false => exact ⟨fx, B1, μ1, st1, sl, s1, r1, q1⟩
/-- g = e -/
theorem tgt_step {g : IG} {e : IE} {D : Ends} {σ : L2.St} {H : Hp} (h : tevS G W C (.tgt g e) D σ H) : tev G W C e σ H fun x H1 => tevG G g x σ H1 D.nx := by
  obtain ⟨fx, B, μ, st, sl, s, r, q⟩ := h
  simp only [evS] at q
  refine ⟨fx, B, μ, st, sl, s, r, (EndS.of (P := PD G) q r).imp fun v H1 ⟨B1, μ1, st1, d, h1, h2, s1, rv, r1, q1⟩ => ?_⟩
  cases hg : setG g d sl with
  | none => simp only [hg] at q1; exact q1.elim
  | some sl1 =>
    simp only [hg] at q1
    exact ⟨fx, B1, μ1, st1, sl, d, sl1, s1, r1, rv, hg, fun σ' r' _ _ => EndS.nx q1 s1 r'⟩
theorem snd_tgt {g : IG} {e : IE} {tg x : Expr} {pos : Pos} (he : PE X x (tev G W C e)) (hg : PG X tg (tevG G g)) (hs : swapsWithSole [tg] x pos.line X.env = pure false) (hw : swappedStores [tg] x X.env = pure none)
    (h1 : (assignEach [tg] X.env).map (·.2) = [assign tg X.env]) : PS X (.Assign [tg] x pos) (tevS G W C (.tgt g e)) :=
  PS.imp (ps_asg he hg hs hw h1) fun D σ H h => tgt_step h
end
end Fg

set_option maxHeartbeats 4000000
/-! Fq: loops. -/
namespace Fg
open PySem PySem.Spec PyProof.Rows L2

section
variable {G : GE} {C : Cf} {W : WX} {k : Nat} {fl : List String} {X : Cx}
theorem turn_end {fx B : Hp} {μ : List Addr} {r : RS} {kk : Slots → Store → RS} {D : Ends} {N : L2.St → Hp → Prop} (q : EndS G fx B μ W (r.turn kk) D)
    (hN : ∀ B' μ' st sl σ' H', Same B B' → Pre μ μ' → SR G fx B' μ' st H' → Fg.SlR G B' μ' sl σ' → EndS G fx B' μ' W (kk sl st) D → N σ' H') : EndS G fx B μ W r { D with nx := N, ct := N, bk := D.nx } := by
  cases r with
  | nx sl st => exact fun B' μ' H' σ k1 k2 k3 k4 => hN B' μ' st sl σ H' k1 k2 k3 k4 (EndS.mono (r := kk sl st) q k1 k2)
  | ct sl st => exact fun B' μ' H' σ k1 k2 k3 k4 => hN B' μ' st sl σ H' k1 k2 k3 k4 (EndS.mono (r := kk sl st) q k1 k2)
  | bk sl st => exact q
  | rt d st => exact q
  | exc x sl st => exact q
  | no => exact q
theorem for_step {g : IG} {it : II} {b : ISs} {D : Ends} {σ : L2.St} {H : Hp} (h : tevS G W C (.for_ g it b) D σ H) : tFor (tevI G W C it) (tevG G g) (tevSs G W C b) D σ H := by
  obtain ⟨fx, B, μ, st, sl, s, r, q⟩ := h
  simp only [evS] at q
  refine ⟨fx, B, μ, st, sl, s, r, (EndS.of (P := PI' G) q r).imp fun J H1 ⟨B1, μ1, st1, p, h1, h2, s1, wk, r1, q1⟩ => ?_⟩
  obtain ⟨items, hld⟩ := p
  refine ⟨fun i m σ H => m = items.length - i ∧ i ≤ items.length ∧ ∃ B2 μ2 st2 sl2, Same B1 B2 ∧ Pre μ1 μ2 ∧ SR G fx B2 μ2 st2 H ∧ Fg.SlR G B2 μ2 sl2 σ ∧ EndS G fx B2 μ2 W (forL (fun sl st => evSs C b sl st) g hld (items.drop i) sl2 st2) D,
    ⟨items.length, rfl, Nat.zero_le _, B1, μ1, st1, sl, Same.refl _, Pre.refl _, s1, r1, q1⟩, ?_⟩
  rintro i m σ2 H2 ⟨rfl, hi, B2, μ2, st2, sl2, b1, b2, s2, r2, q2⟩
  have hok : hld.ok st2 := by
    by_cases hc : hld.ok st2
    · exact hc
    · cases e : items.drop i with
      | nil => rw [e] at q2; unfold forL at q2; rw [if_neg hc] at q2; exact q2.elim
      | cons d ds => rw [e] at q2; unfold forL at q2; rw [if_neg hc] at q2; exact q2.elim
  obtain ⟨w1, w2⟩ := wk fx B2 μ2 st2 H2 i b1 b2 s2 hok
  by_cases hlt : i < items.length
  · right
    obtain ⟨go, yl⟩ := w1 items[i] (List.getElem?_eq_getElem hlt)
    refine ⟨go, fun σ' H' => ∃ B2 μ2 st2 sl2, Same B1 B2 ∧ Pre μ1 μ2 ∧ SR G fx B2 μ2 st2 H' ∧ Fg.SlR G B2 μ2 sl2 σ' ∧ EndS G fx B2 μ2 W (forL (fun sl st => evSs C b sl st) g hld (items.drop (i + 1)) sl2 st2) D,
      fun σ' H' hN => ⟨items.length - (i + 1), by omega, rfl, hlt, hN⟩, fun x H' hy => ?_⟩
    obtain ⟨B3, b3, s3, rx⟩ := yl x H' hy
    rw [List.drop_eq_getElem_cons hlt] at q2
    unfold forL at q2
    rw [if_pos hok] at q2
    cases hg : setG g items[i] sl2 with
    | none => simp only [hg] at q2; exact q2.elim
    | some sl3 =>
      simp only [hg] at q2
      refine ⟨fx, B3, μ2, st2, sl2, items[i], sl3, s3, r2.mono b3 (Pre.refl _), rx, hg, fun σ3 r3 _ _ => ⟨fx, B3, μ2, st2, sl3, s3, r3, turn_end (q2.mono b3 (Pre.refl _)) ?_⟩⟩
      exact fun B' μ' st' sl' σ' H'' k1 k2 k3 k4 k5 => ⟨B', μ', st', sl', b1.trans (b3.trans k1), b2.trans k2, k3, k4, k5⟩
  · left
    have ei : i = items.length := by omega
    refine ⟨w2 ei, ?_⟩
    rw [ei, List.drop_length] at q2
    unfold forL at q2
    rw [if_pos hok] at q2
    exact EndS.nx q2 s2 r2
theorem snd_for (K : Cxt G C W k fl X) (hp : PassesOwn (model X.prog X.w) X.A X.env X.xe) {g : IG} {it : II} {b : ISs} {tg iter : Expr} {body : List Stmt} {pos : Pos} (hi : PI X tg iter (tevI G W C it)) (hg : PG X tg (tevG G g)) (hb : PSs X body (tevSs G W C b))
    (hs : ∀ x, foldedSetIterable iter X.env x = pure x) : PS X (.For tg iter body [] pos) (tevS G W C (.for_ g it b)) :=
  PS.imp (ps_for hp K.calm hi hg hb hs) fun D σ H h => for_step h
theorem whl_step {c : IE} {b : ISs} {D : Ends} {σ : L2.St} {H : Hp} (h : tevS G W C (.whl c b) D σ H) : tWhile (tevT G W C c) (tevSs G W C b) D σ H := by
  obtain ⟨fx, B, μ, st, sl, s, r, q⟩ := h
  simp only [evS] at q
  refine ⟨fun m σ H => ∃ B2 μ2 st2 sl2, SR G fx B2 μ2 st2 H ∧ Fg.SlR G B2 μ2 sl2 σ ∧ EndS G fx B2 μ2 W (whlL (fun sl st => (evX C sl c).t st) (fun sl st => evSs C b sl st) m sl2 st2) D, ⟨C.L, B, μ, st, sl, s, r, q⟩, ?_⟩
  rintro m σ2 H2 ⟨B2, μ2, st2, sl2, s2, r2, q2⟩
  cases m with
  | zero => exact q2.elim
  | succ m =>
    unfold whlL at q2
    refine ⟨fx, B2, μ2, st2, sl2, s2, r2, (EndS.of (P := PB) q2 r2).imp fun v H3 ⟨B3, μ3, st3, d, h1, h2, s3, rv, r3, q3⟩ => ?_⟩
    cases rv
    cases v with
    | true =>
      rw [if_pos rfl] at q3
      rw [if_pos rfl]
      refine ⟨fun σ H => ∃ B2 μ2 st2 sl2, SR G fx B2 μ2 st2 H ∧ Fg.SlR G B2 μ2 sl2 σ ∧ EndS G fx B2 μ2 W (whlL (fun sl st => (evX C sl c).t st) (fun sl st => evSs C b sl st) m sl2 st2) D, fun σ' H' hN => ⟨m, Nat.lt_succ_self m, hN⟩, ?_⟩
      exact ⟨fx, B3, μ3, st3, sl2, s3, r3, turn_end q3 fun B' μ' st' sl' σ' H'' k1 k2 k3 k4 k5 => ⟨B', μ', st', sl', k3, k4, k5⟩⟩
    | false =>
      rw [if_neg Bool.false_ne_true] at q3
      rw [if_neg Bool.false_ne_true]
      exact EndS.nx q3 s3 r3
theorem snd_whl (hp : PassesOwn (model X.prog X.w) X.A X.env X.xe) {c : IE} {b : ISs} {x : Expr} {body : List Stmt} {pos : Pos} (hc : PT X x (tevT G W C c)) (hb : PSs X body (tevSs G W C b)) : PS X (.While x body [] pos) (tevS G W C (.whl c b)) :=
  PS.imp (ps_while hp hc hb) fun D σ H h => whl_step h
end
end Fg

set_option maxHeartbeats 4000000
/-! Fr: stores. -/
namespace Fg
open PySem PySem.Spec PyProof.Rows L2

section
variable {G : GE} {fx B : Hp} {μ : List Addr} {st : Store} {H : Hp}
theorem RepF.put : ∀ {ds : List (String × D)} {vs : List (Str × V)}, RepF G B μ ds vs → ∀ (f : String) {d : D} {v : V}, Rep G B μ d v → RepF G B μ (putA f d ds) (putF (Str.ofString f) v vs)
  | [], vs, r, f, d, v, h => by
    have : vs = [] := by have := r.1; simpa using this.symm
    subst this
    refine ⟨rfl, fun i p q h1 h2 => ?_⟩
    cases i with
    | zero => simp [putA, putF] at h1 h2; subst h1; subst h2; exact h
    | succ n => simp [putA] at h1
  | p :: ds, vs, r, f, d, v, h => by
    cases vs with
    | nil => have := r.1; simp at this
    | cons q ws =>
      have h1 := r.1
      simp only [List.map_cons, List.cons.injEq] at h1
      have r2 : RepF G B μ ds ws := ⟨h1.2, fun i d' v' k1 k2 => r.2 (i + 1) d' v' (by simpa using k1) (by simpa using k2)⟩
      have r0 := r.2 0 p q rfl rfl
      obtain ⟨g, d0⟩ := p
      obtain ⟨g', v0⟩ := q
      have e : g' = Str.ofString g := h1.1.symm
      subst e
      by_cases hf : g = f
      · subst hf
        simp only [putA, putF, if_true]
        refine ⟨by simpa using h1.2, fun i p q k1 k2 => ?_⟩
        cases i with
        | zero => simp at k1 k2; subst k1; subst k2; exact h
        | succ n => exact r2.2 n p q (by simpa using k1) (by simpa using k2)
      · have n2 : ¬ Str.ofString g = Str.ofString f := fun h => hf (ofString_inj h)
        have ih := r2.put f h
        simp only [putA, putF, if_neg hf, if_neg n2]
        refine ⟨by simpa using ih.1, fun i p q k1 k2 => ?_⟩
        cases i with
        | zero => simp at k1 k2; subst k1; subst k2; exact r0
        | succ n => exact ih.2 n p q (by simpa using k1) (by simpa using k2)
/-- a cell and what it holds -/
theorem cell_of (s : SR G fx B μ st H) {n : Nat} {v : V} (r : Rep G B μ (.ref n) v) : ∃ a d o, v = .ref a ∧ μ[n]? = some a ∧ st[n]? = some d ∧ H a = some o ∧ CRep G B μ d o := by
  cases r with
  | @ref _ a h =>
    have hn : n < st.length := by rw [← s.len]; exact (List.getElem?_eq_some_iff.mp h).1
    have e1 : st[n]? = some st[n] := List.getElem?_eq_getElem hn
    obtain ⟨_, _, o, k1, k2⟩ := s.cell n a st[n] h e1
    exact ⟨a, _, o, rfl, h, e1, k1, k2⟩
def rSet2 : TSet := fun o i v H Q => rSetL o i v H Q ∨ rSetD o i v H Q
theorem sto_end {x y z : D} {xv yv zv : V} {st4 : Store} {Q : Hp → Prop} (s : SR G fx B μ st H) (rx : Rep G B μ x xv) (ry : Rep G B μ y yv) (rz : Rep G B μ z zv) (e : stoV st x y z = some st4) (hQ : ∀ H', SR G fx B μ st4 H' → Q H') : rSet2 xv yv zv H Q := by
  cases x with
  | ref n =>
    simp only [stoV, Option.map_eq_some_iff] at e
    obtain ⟨d', e1, e2⟩ := e
    subst e2
    obtain ⟨a, d, o, ev, hm, hs, hH, cr⟩ := cell_of s rx
    subst ev
    have hv : view st (.ref n) = d := view_ref hs
    unfold putV at e1
    rw [hv] at e1
    split at e1
    · rename_i xs
      split at e1
      · rename_i j
        split at e1
        · obtain ⟨k, h1, h2⟩ := Option.map_eq_some_iff.mp e1
          subst h2
          cases ry
          cases cr with
          | lst q =>
            refine .inl ⟨a, _, j, k, rfl, rfl, hH, by rw [← q.1]; exact h1, hQ _ (s.write hm (.lst (q.set k rz)))⟩
        · cases e1
      · cases e1
    · rename_i d hne
      unfold dPut at e1
      split at e1
      · rename_i kvs
        split at e1
        · rename_i hl
          obtain ⟨q, h1, h2⟩ := Option.map_eq_some_iff.mp e1
          subst h2
          cases cr with
          | dk qq => exact .inr ⟨a, _, rfl, .inl ⟨_, q, hH, key_rep ry h1, by rw [← qq.length]; exact hl, rfl⟩, hQ _ (s.write hm (.dk (qq.put q rz)))⟩
        · cases e1
      · rename_i kvs
        split at e1
        · rename_i ks
          split at e1
          · rename_i hl
            obtain ⟨q, h1, h2⟩ := Option.map_eq_some_iff.mp e1
            subst h2
            cases cr with
            | dt qq =>
              cases ry with
              | tup hb l q3 =>
                have ek := keys_rep (G := G) (B := B) (μ := μ) ⟨l, q3⟩ h1
                subst ek
                exact .inr ⟨a, _, rfl, .inr ⟨_, q, _, hH, rfl, s.sub _ _ hb, by rw [← qq.length]; exact hl, rfl⟩, hQ _ (s.write hm (.dt (qq.put q rz)))⟩
          · cases e1
        · cases e1
      · cases e1
  | _ => cases e
theorem flds_end {x z : D} {f : String} {xv zv : V} {st4 : Store} (s : SR G fx B μ st H) (rx : Rep G B μ x xv) (rz : Rep G B μ z zv) (e : fldS st x f z = some st4) :
    ∃ c a Ca dx fs, xv = .ref a ∧ H a = some (.ins Ca dx fs) ∧ G.cl c = some Ca ∧ fs.length < 1000 ∧ SR G fx B μ st4 (upd H a (.ins Ca dx (putF (Str.ofString f) zv fs))) := by
  cases x with
  | ref n =>
    simp only [fldS] at e
    obtain ⟨a, d, o, ev, hm, hs, hH, cr⟩ := cell_of s rx
    subst ev
    have hv : view st (.ref n) = d := view_ref hs
    rw [hv] at e
    split at e
    · rename_i c fs
      split at e
      · rename_i hl
        cases e
        cases cr with
        | @obj _ Ca dx _ vs hc q =>
          have el : fs.length = vs.length := by have := congrArg List.length q.1; simpa using this
          exact ⟨c, a, Ca, dx, vs, rfl, hH, hc, by rw [← el]; exact hl, s.write hm (.obj hc (q.put f rz))⟩
      · cases e
    · cases e
  | _ => cases e
theorem ip_end {op : Operator} {x y z : D} {xv yv : V} (rx : Rep G B μ x xv) (ry : Rep G B μ y yv) (e : ipV op x y = some z) :
    ∃ i j, xv = .int i ∧ yv = .int j ∧ ((op = .Add ∧ z = .int (i + j)) ∨ (op = .Sub ∧ z = .int (i - j))) := by
  unfold ipV at e
  split at e
  · cases e; cases rx; cases ry; exact ⟨_, _, rfl, rfl, .inl ⟨rfl, rfl⟩⟩
  · cases e; cases rx; cases ry; exact ⟨_, _, rfl, rfl, .inr ⟨rfl, rfl⟩⟩
  · cases e
end

section
variable {G : GE} {C : Cf} {W : WX} {k : Nat} {fl : List String} {X : Cx}
theorem PSet.or {t u : TSet} (h : PSet X t) (k : PSet X u) : PSet X fun o i v H Q => t o i v H Q ∨ u o i v H Q := by
  intro pins s σ H o i v ov iv w Q I r1 r2 r3 q
  rcases q with q | q
  · exact h pins s σ H o i v ov iv w Q I r1 r2 r3 q
  · exact k pins s σ H o i v ov iv w Q I r1 r2 r3 q
theorem snd_sub (K : Cxt G C W k fl X) {o i v : IE} {x y z : Expr} {p2 pos : Pos} (ho : PE X x (tev G W C o)) (hi : PE X y (tev G W C i)) (hv : PE X z (tev G W C v))
    (hs : swapsWithSole [.Subscript x y p2] z pos.line X.env = pure false) (hw : swappedStores [.Subscript x y p2] z X.env = pure none) (h1 : (assignEach [.Subscript x y p2] X.env).map (·.2) = [assign (.Subscript x y p2) X.env])
    (ha : ∀ v, assign (.Subscript x y p2) X.env v = (do
      let ov ← holding [v] (eval x X.env)
      let iv ← holding [v, ov] (eval y X.env)
      standAt p2
      holding [v, ov, iv] (setItem ov iv v)
      release [v, ov, iv] [])) :
    PS X (.Assign [.Subscript x y p2] z pos) (tevS G W C (.sub o i v)) :=
  PS.imp (ps_asg hv (pg_sub ho hi (show PSet X rSet2 from PSet.or set_list (set_dict (by have := K.units; omega))) ha) hs hw h1) fun D σ H ⟨fx, B, μ, st, sl, s, r, q⟩ => by
    simp only [evS] at q
    refine ⟨fx, B, μ, st, sl, s, r, (EndS.of (P := PD G) q r).imp fun zv H1 ⟨B1, μ1, st1, zd, a1, a2, s1, rz, r1, q1⟩ => ⟨fx, B1, μ1, st1, sl, s1, r1, (EndS.of (P := PD G) q1 r1).imp fun xv H2 ⟨B2, μ2, st2, xd, b1, b2, s2, rx, r2, q2⟩ =>
      ⟨fx, B2, μ2, st2, sl, s2, r2, (EndS.of (P := PD G) q2 r2).imp fun yv H3 ⟨B3, μ3, st3, yd, c1, c2, s3, ry, r3, q3⟩ => ?_⟩⟩⟩
    cases e : stoV st3 xd yd zd with
    | none => simp only [e] at q3; exact q3.elim
    | some st4 =>
      simp only [e] at q3
      exact sto_end s3 (rx.mono c1 c2) ry ((rz.mono b1 b2).mono c1 c2) e fun H' s' => EndS.nx q3 s' r3
theorem snd_fst (K : Cxt G C W k fl X) {o v : IE} {f : String} {x z : Expr} {p2 pos : Pos} (ho : PE X x (tev G W C o)) (hv : PE X z (tev G W C v)) (hf : f ∈ fl)
    (hs : swapsWith z (some (.Attribute x (Str.ofString f) p2)) pos.line X.env = pure false) : PS X (.Assign [.Attribute x (Str.ofString f) p2] z pos) (tevS G W C (.fst o f v)) :=
  PS.imp (ps_fld ho hv hs) fun D σ H ⟨fx, B, μ, st, sl, s, r, q⟩ => by
    simp only [evS] at q
    refine ⟨fx, B, μ, st, sl, s, r, (EndS.of (P := PD G) q r).imp fun zv H1 ⟨B1, μ1, st1, zd, a1, a2, s1, rz, r1, q1⟩ => ⟨fx, B1, μ1, st1, sl, s1, r1, (EndS.of (P := PD G) q1 r1).imp fun xv H2 ⟨B2, μ2, st2, xd, b1, b2, s2, rx, r2, q2⟩ => ?_⟩⟩
    cases e : fldS st2 xd f zd with
    | none => simp only [e] at q2; exact q2.elim
    | some st4 =>
      simp only [e] at q2
      obtain ⟨c, a, Ca, dx, fs, e1, g1, g2, g3, s'⟩ := flds_end s2 rx (rz.mono b1 b2) e
      rw [K.K]
      exact ⟨a, Ca, dx, fs, e1, g1, (K.cls c Ca g2).1.cls, K.fld c Ca f g2 hf, g3, EndS.nx q2 s' r2⟩
theorem snd_par (K : Cxt G C W k fl X) {i j : Nat} {x y : Str} {a b : IE} {ea eb : Expr} {px py pt : Pos} {kt k2 : Nat} {pt2 pos : Pos} (hi : X.N[i]? = some x) (hj : X.N[j]? = some y) (hij : i ≠ j)
    (hx : X.env.scope.names.lookup x = some .local) (hy : X.env.scope.names.lookup y = some .local) (ha : PA X [ea, eb] (tevs G W C (.cons a (.cons b .nil))))
    (hw : swappedStores [.Tuple [.Name x px, .Name y py] kt pt] (.Tuple [ea, eb] k2 pt2) X.env = pure (some [x, y]))
    (hs : swapsWithSole [.Tuple [.Name x px, .Name y py] kt pt] (.Tuple [ea, eb] k2 pt2) pos.line X.env = pure false) :
    PS X (.Assign [.Tuple [.Name x px, .Name y py] kt pt] (.Tuple [ea, eb] k2 pt2) pos) (tevS G W C (.par i j a b)) :=
  PS.imp (ps_par K.calm K.nd hi hj hij hx hy ha hw hs) fun D σ H ⟨fx, B, μ, st, sl, s, r, q⟩ => by
    simp only [evS] at q
    refine ⟨fx, B, μ, st, sl, s, r, ?_⟩
    have e : EndS G fx B μ W (RS.of (evEs C sl (.cons a (.cons b .nil)) st) sl fun ds st1 => match ds with | [x, y] => .nx ((sl.set i (some x)).set j (some y)) st1 | _ => .no) D := by
      refine cast (congrArg (fun z => EndS G fx B μ W z D) ?_) q
      simp only [evEs]
      cases (evX C sl a).v st with
      | ok d st1 =>
        simp only [R.bind_ok, RS.of_ok]
        cases (evX C sl b).v st1 with
        | ok e st2 => rfl
        | exc x st2 => rfl
        | no => rfl
      | exc x st2 => rfl
      | no => rfl
    refine (EndS.of (P := PL G) e r).imp fun vs H1 ⟨B1, μ1, st1, ds, a1, a2, s1, rv, r1, q1⟩ => ?_
    match ds, q1 with
    | [], q1 => exact q1.elim
    | [_], q1 => exact q1.elim
    | _ :: _ :: _ :: _, q1 => exact q1.elim
    | [d, e], q1 =>
      obtain ⟨v, ws, e1, k1, k2⟩ := rv.cons_inv
      obtain ⟨w, us, e2, k3, k4⟩ := k2.cons_inv
      have e3 := k4.nil_inv
      subst e3; subst e2; subst e1
      exact ⟨v, w, rfl, EndS.nx q1 s1 ((r1.set k1).set k3)⟩
theorem ip_any (op : Operator) (h : op = .Add ∨ op = .Sub) : PIp X op fun x y H Q => ∃ i j, x = .int i ∧ y = .int j ∧ Q (if op = .Add then .int (i + j) else .int (i - j)) H := by
  rcases h with h | h
  · subst h; exact ip_add
  · subst h; exact ip_sub
theorem snd_aug (K : Cxt G C W k fl X) {i : Nat} {x : Str} {op : Operator} {e : IE} {y : Expr} {p2 pos : Pos} (hi : X.N[i]? = some x) (hl : locV X.env.scope x = true) (hf : X.fn x = true ∨ X.env.scope.names.lookup x = some .local) (he : PE X y (tev G W C e)) (hop : op = .Add ∨ op = .Sub) :
    PS X (.AugAssign (.Name x p2) op y pos) (tevS G W C (.aug i op e)) :=
  PS.imp (ps_aug K.nd hi (loc_of hl) he (ip_any op hop) hf) fun D σ H ⟨fx, B, μ, st, sl, s, r, q⟩ => by
    simp only [evS] at q
    split at q
    · rename_i d hd
      obtain ⟨v, h1, rv⟩ := r.2 i d hd
      refine ⟨v, h1, fx, B, μ, st, sl, s, r, (EndS.of (P := PD G) q r).imp fun w H1 ⟨B1, μ1, st1, wd, a1, a2, s1, rw', r1, q1⟩ => ?_⟩
      cases e : ipV op d wd with
      | none => simp only [e] at q1; exact q1.elim
      | some z =>
        simp only [e] at q1
        obtain ⟨a, b, e1, e2, e3⟩ := ip_end (rv.mono a1 a2) rw' e
        refine ⟨a, b, e1, e2, ?_⟩
        rcases e3 with ⟨e3, e4⟩ | ⟨e3, e4⟩
        · subst e3; subst e4; exact EndS.nx q1 s1 (r1.set (.int _))
        · subst e3; subst e4; exact EndS.nx q1 s1 (r1.set (.int _))
    · exact q.elim
end
end Fg

set_option maxHeartbeats 4000000
/-! Fr2: o[i] += .. -/
namespace Fg
open PySem PySem.Spec PyProof.Rows L2

section
variable {G : GE} {C : Cf} {W : WX} {k : Nat} {fl : List String} {X : Cx}
def rGet2 (K : PySem.W.Frag) : V → V → Hp → VK → Prop := fun x y H Q => rIxL K x y H Q ∨ rDG x y H Q
theorem get_two (hu : X.A.units + 1 < cLine) : PGet X (rGet2 X.K) := by
  intro pins s σ H o i ov iv Q I ro ri h
  rcases h with ⟨p, xs, j, z, e1, e2, hq, he, q⟩ | ⟨p, z, e1, g, q⟩
  · subst e1; subst e2
    cases ro
    obtain ⟨tk, e3⟩ := ri
    subst e3
    obtain ⟨its, r, pl, hz⟩ := I.list hq
    obtain ⟨m, h1, h2, h3, h4, h5⟩ := atI_get he
    obtain ⟨u, eu, ru⟩ := r.get h2
    have hlen := r.length
    have hln := line63
    have done : EP X pins σ Q u s := ⟨z, H, I, ru, q⟩
    rcases Int.lt_or_le j 0 with neg | pos
    · refine wpAny_getItem_list_neg pl.isList neg (by rw [List.size_toArray]; omega) (by omega) ?_ done
      have hm : (j + (its.toArray.size : Int)).toNat = m := by
        rw [seqIndex_neg neg h4] at h1
        rw [List.size_toArray, ← hlen]
        exact Option.some.inj h1
      rw [hm]; simpa using eu
    · refine wpAny_getItem_list pl.isList pos (by omega) ?_ done
      have hm : j.toNat = m := by
        rw [seqIndex_of pos h5] at h1
        exact Option.some.inj h1
      rw [hm]; simpa using eu
  · subst e1
    cases ro
    exact d_getItem hu I g ri fun w' s' I' r' => ⟨z, H, I', r', q⟩
theorem aug_sto {i : Expr} (h : noSlc i = true) (ov iv new : Value) : augStore i ov iv new = (do holding [new, ov, iv] (setItem ov iv new); release [new, ov, iv] []; pure .next) := by
  cases i <;> first | exact Bool.noConfusion h | rfl
theorem get_end {fx B : Hp} {μ : List Addr} {st : Store} {H : Hp} {o i d : D} {x y : V} {Q : VK} (s : SR G fx B μ st H) (r : Rep G B μ o x) (q : Rep G B μ i y) (e : idxS (view st o) i = some d) (hQ : ∀ v, Rep G B μ d v → Q v H) : rGet2 G.K x y H Q := by
  unfold idxS at e
  split at e
  · rename_i hl
    unfold isLD at hl
    split at hl
    · rename_i xs hv
      have e0 := e
      rw [hv] at e0
      unfold idxV at e0
      split at e0
      · rename_i xs' j hx
        cases hx
        obtain ⟨a, vs, e1, h1, h2⟩ := view_lst_inv s r hv
        obtain ⟨v, h3, h4⟩ := h2.atI e0
        cases q
        exact .inl ⟨a, vs, _, v, e1, rfl, .of h1, h3, hQ v h4⟩
      all_goals first | (rename_i hx; cases hx) | cases e0 | (rename_i hx _; cases hx)
    · rename_i kvs hv
      exact .inr (idx_dct s r q e (.inl (by rw [hv]; rfl)) hQ)
    · rename_i kvs hv
      exact .inr (idx_dct s r q e (.inr (by rw [hv]; rfl)) hQ)
    · cases hl
  · cases e
theorem snd_augS (K : Cxt G C W k fl X) {o i : IE} {op : Operator} {v : IE} {x y z : Expr} {p2 pos : Pos} (ho : PE X x (tev G W C o)) (hi : PE X y (tev G W C i)) (hv : PE X z (tev G W C v)) (hn : noSlc y = true) (hop : op = .Add ∨ op = .Sub) :
    PS X (.AugAssign (.Subscript x y p2) op z pos) (tevS G W C (.augS o i op v)) :=
  PS.imp (ps_augS ho hi (get_two (by have := K.units; omega)) hv (ip_any op hop) (show PSet X rSet2 from PSet.or set_list (set_dict (by have := K.units; omega))) (aug_sto hn)) fun D σ H ⟨fx, B, μ, st, sl, s, r, q⟩ => by
    simp only [evS] at q
    refine ⟨fx, B, μ, st, sl, s, r, (EndS.of (P := PD G) q r).imp fun xv H1 ⟨B1, μ1, st1, xd, a1, a2, s1, rx, r1, q1⟩ => ⟨fx, B1, μ1, st1, sl, s1, r1, (EndS.of (P := PD G) q1 r1).imp fun yv H2 ⟨B2, μ2, st2, yd, b1, b2, s2, ry, r2, q2⟩ => ?_⟩⟩
    cases e : idxS (view st2 xd) yd with
    | none => simp only [e] at q2; exact q2.elim
    | some ud =>
      simp only [e] at q2
      rw [K.K]
      refine get_end s2 (rx.mono b1 b2) ry e fun uv ru => ⟨fx, B2, μ2, st2, sl, s2, r2, (EndS.of (P := PD G) q2 r2).imp fun wv H3 ⟨B3, μ3, st3, wd, c1, c2, s3, rw', r3, q3⟩ => ?_⟩
      cases e2 : ipV op ud wd with
      | none => simp only [e2] at q3; exact q3.elim
      | some zd =>
        simp only [e2] at q3
        obtain ⟨m1, m2, e3, e4, e5⟩ := ip_end (ru.mono c1 c2) rw' e2
        refine ⟨m1, m2, e3, e4, ?_⟩
        cases e6 : stoV st3 xd yd zd with
        | none => simp only [e6] at q3; exact q3.elim
        | some st4 =>
          simp only [e6] at q3
          refine sto_end s3 ((rx.mono b1 b2).mono c1 c2) (ry.mono c1 c2) (z := zd) ?_ e6 fun H' s' => EndS.nx q3 s' r3
          rcases e5 with ⟨e7, e8⟩ | ⟨e7, e8⟩
          · subst e7; subst e8; exact .int _
          · subst e7; subst e8; exact .int _
end
end Fg

set_option maxHeartbeats 4000000
/-! Ft: all defs of a table, run to a depth. -/
namespace Fg
open PySem PySem.Spec PyProof.Rows L2

structure Df where
  c : String
  nm : String
  np : Nat
  ns : Nat
  body : ISs
abbrev Tb := List Df
def Tb.get (T : Tb) (c f : String) : Option Df := T.find? fun d => d.c == c && d.nm == f
def RS.out : RS → R D
  | .rt d st => .ok d st | .nx _ st => .ok .non st | .exc x _ st => .exc x st | _ => .no
/-- a call, its own calls to so great a depth -/
noncomputable def callN (T : Tb) (L : Nat) (con : String → Option D) (kit : TyK → TyK → Option Bool) : Nat → String → String → List D → Store → R D
  | 0 => fun _ _ _ _ => .no
  | n + 1 => fun c f ds st => match T.get c f with
      | some d => if ds.length = d.np then (evSs ⟨L, callN T L con kit n, fun c f => (T.get c f).isSome, con, kit⟩ d.body (ds.map some ++ List.replicate (d.ns - ds.length) none) st).out else .no
      | none => .no
noncomputable def cfN (T : Tb) (L : Nat) (con : String → Option D) (kit : TyK → TyK → Option Bool) (n : Nat) : Cf := ⟨L, callN T L con kit n, fun c f => (T.get c f).isSome, con, kit⟩
theorem callN_succ {T : Tb} {L : Nat} {con : String → Option D} {kit : TyK → TyK → Option Bool} {n : Nat} {c f : String} {d : Df} (h : T.get c f = some d) {ds : List D} {st : Store} (hl : ds.length = d.np) :
    callN T L con kit (n + 1) c f ds st = (evSs (cfN T L con kit n) d.body (ds.map some ++ List.replicate (d.ns - ds.length) none) st).out := by
  simp only [callN, h, if_pos hl]; rfl

/-- what is known of a def -/
structure DefF (G : GE) (T : Tb) (L : Nat) (con : String → Option D) (kit : TyK → TyK → Option Bool) (fl : List String) (d : Df) (fa : Addr) : Prop where
  ex : ∃ (fd : FuncData) (qual : Str) (st : Stmt) (N ps : List Str), L2.Fun G.K (Str.ofString d.nm) qual st fa fd ∧ FnScope N ps (defScope st) ∧ ps.length = d.np ∧ N.length = d.ns ∧ d.np ≤ d.ns ∧ Binds G.K fd ps [] ∧
    ∀ (n k : Nat) (W : WX) (X : Cx), X.N = N → X.env.scope = defScope st → (∀ x, X.fn x = true) → Cxt G (cfN T L con kit n) W k fl X → PassesOwn (model X.prog X.w) X.A X.env X.xe → PSs X (defBody st) (tevSs G W (cfN T L con kit n) d.body)
/-- what is known of the program -/
structure Fx (P : Program) (w : World) (G : GE) (mg : Str → Option Value) (base : Heap) (T : Tb) (L : Nat) (con : String → Option D) (kit : TyK → TyK → Option Bool) (fl : List String) : Prop where
  blt : ∀ n ∈ bltNames, mg (Str.ofString n) = none
  hcon : ∀ x d, con x = some d → ∃ u v, mg (Str.ofString x) = some u ∧ RelV v u ∧ ∀ B μ, Rep G B μ d v
  hkit : KitOk G kit
  cls : ∀ c a, G.cl c = some a → ClsT G.K a ∧ G.gl c = some a
  fld : ∀ c a f, G.cl c = some a → f ∈ fl → NoAttr G.K a (Str.ofString f)
  fn : ∀ f d, T.get "" f = some d → ∃ fa, mg (Str.ofString f) = some (.ref fa) ∧ DefF G T L con kit fl d fa
  mt : ∀ c m d a, T.get c m = some d → G.cl c = some a → ∃ fa, Meth G.K a (Str.ofString m) fa ∧ DefF G T L con kit fl d fa
  mke : ∀ c d, T.get c "__init__" = some d → ∃ a fa, G.cl c = some a ∧ mg (Str.ofString c) = some (.ref a) ∧ Mk G.K a fa ∧ DefF G T L con kit fl d fa

section
variable {P : Program} {w : World} {G : GE} {mg : Str → Option Value} {base : Heap} {T : Tb} {L : Nat} {con : String → Option D} {kit : TyK → TyK → Option Bool} {fl : List String}
/-- the promise of a def at a depth, at a level -/
def FnY (P : Program) (w : World) (G : GE) (mg : Str → Option Value) (base : Heap) (C : Cf) (k : Nat) (c f : String) (fa : Addr) : Prop :=
  (∃ fd ps, Binds G.K fd ps [] ∧ FnOk P w G.K mg base (L2.CX P w) k fa fd ps (spOf G C c f)) ∧ PySem.W.keepIn G.K (.ref fa) = true
theorem FnY.x {C : Cf} {k : Nat} {c f : String} {fa : Addr} {X : Cx} (h : FnY X.prog X.w G X.mg X.base C k c f fa) (e : X.K = G.K) : FnX G C k X c f fa := by
  obtain ⟨⟨fd, ps, h1, h2⟩, h3⟩ := h
  exact ⟨⟨fd, ps, by rw [e]; exact h1, by rw [e]; exact h2⟩, by rw [e]; exact h3⟩
/-- the context of a def's body -/
theorem cxt_of (F : Fx P w G mg base T L con kit fl) {n k : Nat} (ih : ∀ c f d fa, T.get c f = some d → DefF G T L con kit fl d fa → FnY P w G mg base (cfN T L con kit n) k c f fa)
    {N ps : List Str} {qual : Str} {scope : Scope} {f : Addr} {cd : Value} {A : Around} {outer : List Env} {s : Shared} {H : Hp} {E : XK} (S : FnScope N ps scope) (hr : Room (k + 1) (A.deeper (envOfC qual scope s.heap.objs.size f cd))) :
    Cxt G (cfN T L con kit n) (fun cls d _ H => E cls d H) k fl (cxOf (L2.CX P w) P w G.K mg base N qual scope f cd A outer s H E) where
  K := rfl
  calm := rfl
  nd := S.nd
  room := hr
  tk := takes_of rfl rfl rfl rfl
  blt := F.blt
  con := F.hcon
  kit := F.hkit
  cls := F.cls
  fld := F.fld
  fn := fun f hf => by
    obtain ⟨d, hd⟩ := Option.isSome_iff_exists.mp (show (T.get "" f).isSome = true from hf)
    obtain ⟨fa, h1, h2⟩ := F.fn f d hd
    exact ⟨fa, h1, FnY.x (X := cxOf (L2.CX P w) P w G.K mg base N qual scope _ cd A outer s H E) (ih "" f d fa hd h2) rfl⟩
  mt := fun c m a hm hc => by
    obtain ⟨d, hd⟩ := Option.isSome_iff_exists.mp (show (T.get c m).isSome = true from hm)
    obtain ⟨fa, h1, h2⟩ := F.mt c m d a hd hc
    exact ⟨fa, h1, FnY.x (X := cxOf (L2.CX P w) P w G.K mg base N qual scope _ cd A outer s H E) (ih c m d fa hd h2) rfl⟩
  mke := fun c hc => by
    obtain ⟨d, hd⟩ := Option.isSome_iff_exists.mp (show (T.get c "__init__").isSome = true from hc)
    obtain ⟨a, fa, h1, h2, h3, h4⟩ := F.mke c d hd
    exact ⟨a, fa, h1, h2, h3, FnY.x (X := cxOf (L2.CX P w) P w G.K mg base N qual scope _ cd A outer s H E) (ih c "__init__" d fa hd h4) rfl⟩
theorem out_end {fx B : Hp} {μ : List Addr} {σ : L2.St} {r : RS} {Q : VK} {E : XK} (q : End G (PD G) fx B μ (fun cls d _ H => E cls d H) σ r.out Q) : EndS G fx B μ (fun cls d _ H => E cls d H) r { nx := fun _ H' => Q .non H', rt := Q } := by
  cases r with
  | nx sl st => exact fun B' μ' H' σ k1 k2 k3 _ => q B' μ' H' .non k1 k2 k3 .non
  | rt d st => exact q
  | bk sl st => exact q.elim
  | ct sl st => exact q.elim
  | exc x sl st => exact fun B' μ' H' σ cls dd k1 k2 k3 _ k5 => q B' μ' H' cls dd k1 k2 k3 k5
  | no => exact q.elim
theorem start_rep {B : Hp} {μ : List Addr} {N : List Str} {m : Nat} {ds : List D} {vs : List V} (r : RepL G B μ ds vs) (hm : N.length = m) : Fg.SlR G B μ (ds.map some ++ List.replicate (m - ds.length) none) (L2.start N vs) := by
  unfold L2.start
  have hl := r.1
  refine ⟨by simp; omega, fun i d h => ?_⟩
  by_cases hi : i < ds.length
  · rw [List.getElem?_append_left (by simpa using hi)] at h
    rw [List.getElem?_map] at h
    cases hd : ds[i]? with
    | none => rw [hd] at h; cases h
    | some d' =>
      rw [hd] at h
      simp only [Option.map_some, Option.some.injEq] at h
      subst h
      obtain ⟨v, hv, rv⟩ := r.get hd
      refine ⟨v, ?_, rv⟩
      rw [List.getElem?_append_left (by simp; omega), List.getElem?_map, hv]
      rfl
  · rw [List.getElem?_append_right (by simpa using hi)] at h
    rw [List.getElem?_replicate] at h
    split at h
    · cases h
    · cases h
/-- every def keeps its promise -/
theorem all_ok (F : Fx P w G mg base T L con kit fl) : ∀ (n : Nat) (c f : String) (d : Df) (fa : Addr), T.get c f = some d → DefF G T L con kit fl d fa → FnY P w G mg base (cfN T L con kit n) (2 * n + 1) c f fa
  | 0, c, f, d, fa, hd, h => by
    obtain ⟨fd, qual, st, N, ps, hF, hS, hp, hN, hle, hb, body⟩ := h.ex
    refine ⟨⟨fd, ps, hb, ⟨fun vs H Q E h => ?_, fun A outer s H args us vs Q E _ _ _ _ h => ?_⟩⟩, hF.kp⟩
    · obtain ⟨fx, B, μ, st, ds, s, r, q⟩ := h; exact q.elim
    · obtain ⟨fx, B, μ, st, ds, s, r, q⟩ := h; exact q.elim
  | n + 1, c, f, d, fa, hd, h => by
    obtain ⟨fd, qual, st, N, ps, hF, hS, hp, hN, hle, hb, body⟩ := h.ex
    have ih := all_ok F n
    have len : ∀ vs H Q E, spOf G (cfN T L con kit (n + 1)) c f vs H Q E → vs.length = ps.length := fun vs H Q E ⟨fx, B, μ, st, ds, s, r, q⟩ => by
      by_cases hl : ds.length = d.np
      · rw [← r.1, hl, hp]
      · simp only [cfN, callN, hd, if_neg hl] at q; exact q.elim
    refine ⟨⟨fd, ps, hb, ?_⟩, hF.kp⟩
    show FnOk P w G.K mg base (L2.CX P w) (2 * n + 2 + 1) fa fd ps _
    refine L2.Fun.okX hF hS len fun cdv A outer s H vs Q E hr hsp => ?_
    refine ⟨_, body n (2 * n + 1) (fun cls d _ H => E cls d H) _ rfl rfl (fun _ => rfl) (cxt_of F ih hS hr) (passes_of rfl), ?_⟩
    obtain ⟨fx, B, μ, st0, ds, s0, r, q⟩ := hsp
    have hl : ds.length = d.np := by
      by_cases hl : ds.length = d.np
      · exact hl
      · simp only [cfN, callN, hd, if_neg hl] at q; exact q.elim
    refine ⟨fx, B, μ, st0, _, s0, start_rep r hN, ?_⟩
    have e : (cfN T L con kit (n + 1)).call c f ds st0 = (evSs (cfN T L con kit n) d.body (ds.map some ++ List.replicate (d.ns - ds.length) none) st0).out := callN_succ hd hl
    rw [e] at q
    exact out_end q
end
end Fg

set_option maxHeartbeats 4000000
/-! Fu: a text's signs walked; y = [..] on one row. -/
namespace Fg
open PySem PySem.Spec PyProof.Rows L2

section
variable {G : GE} {C : Cf} {W : WX} {k : Nat} {fl : List String} {X : Cx}
theorem walk_str {B : Hp} {μ : List Addr} (t : Str) : WalkOk G B μ (Its t) .free (signsOf t) := fun fx' B' μ' st' H' i h1 h2 s _ => by
  have hl : (signsOf t).length = t.cps.size := by simp [signsOf]
  refine ⟨fun d hd => ?_, fun h => by rw [hl] at h; exact Nat.le_of_eq h.symm⟩
  unfold signsOf at hd
  rw [List.getElem?_map] at hd
  obtain ⟨c, hc, e⟩ := Option.map_eq_some_iff.mp hd
  subst e
  rw [Array.getElem?_toList] at hc
  refine ⟨(Array.getElem?_eq_some_iff.mp hc).1, fun y H'' ⟨eH, c', hc', ev⟩ => ?_⟩
  rw [hc] at hc'; cases hc'
  subst eH; subst ev
  exact ⟨B', Same.refl _, s, .str _⟩
theorem snd_str (K : Cxt G C W k fl X) {e : IE} {tg x : Expr} (h : PE X x (tev G W C e)) : PI X tg x (tevI G W C (.str e)) :=
  PI.imp (pi_str h) fun σ H Z ⟨fx, B, μ, st, sl, s, r, q⟩ => ⟨fx, B, μ, st, sl, s, r, (End.bind (P := PD G) q).imp fun v H1 ⟨B1, μ1, st1, d, h1, h2, s1, rv, q1⟩ => by
    split at q1
    · rename_i t
      cases rv
      exact ⟨t, rfl, End.ok (P := PI' G) q1 s1 (walk_str t)⟩
    · exact q1.elim⟩
theorem tev_imp {e : IE} {σ : L2.St} {H : Hp} {Q Q' : VK} (h : tev G W C e σ H Q) (k : ∀ v H, Q v H → Q' v H) : tev G W C e σ H Q' := by
  obtain ⟨fx, B, μ, st, sl, s, r, q⟩ := h
  exact ⟨fx, B, μ, st, sl, s, r, q.imp k⟩
theorem gnm {i : Nat} {v : V} {σ : L2.St} {H : Hp} {Q : L2.St → Hp → Prop} (h : tevG G (.nm i) v σ H Q) : gName i v σ H Q := by
  obtain ⟨fx, B, μ, st, sl, d, sl', s, r, rv, e, q⟩ := h
  simp only [setG] at e
  split at e
  · cases e
    exact q _ (r.set rv) (by simp) fun j hj => by
      simp only [igs, List.mem_singleton] at hj
      rw [List.getElem?_set_ne (Ne.symm hj)]
  · cases e
theorem snd_setLc (K : Cxt G C W k fl X) {i : Nat} {y : Str} {py : Pos} {c : Bool} {own : List (Str × Nat)} {g : IG} {it : II} {cond elt : IE} {tg iter ex : Expr} {ifs : List Expr} {scope : Scope} {pos spos : Pos}
    (hy : X.N[i]? = some y) (hyl : X.env.scope.names.lookup y = some .local) (hsw : swapsWith (.ListComp ex [⟨tg, iter, ifs, 0⟩] scope pos) (some (.Name y py)) spos.line X.env = pure true)
    (hi : PI X tg iter (tevI G W C it)) (ok : BlkOk X.N X.env.scope scope own)
    (hg : ∀ (s : Shared) (H : Hp) (D : Addr) (cl : List (Str × Addr)) (fp : List Addr), PG (X.blk s H scope (compEnvC scope cl D X.env) fp) tg (tevG G g))
    (ht : ∀ (s : Shared) (H : Hp) (D : Addr) (cl : List (Str × Addr)) (fp : List Addr), PTs (X.blk s H scope (compEnvC scope cl D X.env) fp) ifs (tevT G WF C cond))
    (he : ∀ (s : Shared) (H : Hp) (D : Addr) (cl : List (Str × Addr)) (fp : List Addr), PE (X.blk s H scope (compEnvC scope cl D X.env) fp) ex (tev G WF C elt)) (ho : ∀ i ∈ igs g, i ∈ own.map (·.2)) (hs : ∀ x, foldedSetIterable iter X.env x = pure x) :
    PS X (.Assign [.Name y py] (.ListComp ex [⟨tg, iter, ifs, 0⟩] scope pos) spos) (tevS G W C (.tgt (.nm i) (.lc c (own.map (·.2)) g it cond elt))) :=
  PS.imp (ps_setLc K.calm K.nd hy hyl hsw hi ok hg ht he hs) fun D σ H h => lc_step ho (tev_imp (tgt_step h) fun v H q => gnm q)
end
end Fg

set_option maxHeartbeats 4000000
/-! Fu2: f-strings of texts and ints. -/
namespace Fg
open PySem PySem.Spec PyProof.Rows L2

section
variable {G : GE} {C : Cf} {W : WX} {k : Nat} {fl : List String} {X : Cx}
theorem snd_fmt {c : Bool} {e : IE} {x : Expr} {pos : Pos} (h : PE X x (tev G W C e)) : PE X (.FormattedValue x (-1) none pos) (tev G W C (.blt c "str" (.cons e .nil))) :=
  PE.imp (pe_fmt h) fun σ H Q ⟨fx, B, μ, st, sl, s, r, q⟩ => ⟨fx, B, μ, st, sl, s, r, by
    have q0 : End G (PD G) fx B μ W σ (((evX C sl e).v st).bind fun x st1 => match bltV st1 "str" [x] with | some d => newR c d st1 | none => .no) Q := by
      refine cast (congrArg (fun z => End G (PD G) fx B μ W σ z Q) ?_) q
      simp only [evX, Ev.of, evEs]
      cases (evX C sl e).v st <;> rfl
    refine (End.bind (P := PD G) q0).imp fun v H1 ⟨B1, μ1, st1, d, h1, h2, s1, rv, q1⟩ => ?_
    cases d with
    | int i =>
      simp only [bltV] at q1
      by_cases hz : i.natAbs.log2 < 1920
      · simp only [if_pos hz] at q1
        cases rv
        cases c with
        | true => exact q1.elim
        | false => exact .inr ⟨i, rfl, hz, End.ok (P := PD G) q1 s1 (.str _)⟩
      · simp only [if_neg hz] at q1; exact q1.elim
    | str y =>
      simp only [bltV] at q1
      by_cases hz : y.length ≤ sizeLine
      · simp only [if_pos hz] at q1
        cases rv
        cases c with
        | true => exact q1.elim
        | false => exact .inl ⟨y, rfl, hz, End.ok (P := PD G) q1 s1 (.str _)⟩
      · simp only [if_neg hz] at q1; exact q1.elim
    | _ => (simp only [bltV] at q1; exact q1.elim)⟩
def tsJ (G : GE) (W : WX) (C : Cf) : IEs → List TE
  | .nil => []
  | .cons e es => tev G W C e :: tsJ G W C es
theorem js_end : ∀ (es : IEs) (acc : Str) {σ : L2.St} {H : Hp} {Q : Str → Hp → Prop} {fx B : Hp} {μ : List Addr} {st : Store} {sl : Slots}, SR G fx B μ st H → Fg.SlR G B μ sl σ → End G (fun _ _ _ (a b : Str) => a = b) fx B μ W σ (evJ C sl es acc st) Q → tJs (tsJ G W C es) acc σ H Q
  | .nil, acc, σ, H, Q, fx, B, μ, st, sl, s, r, q => End.ok (P := fun _ _ _ (a b : Str) => a = b) q s rfl
  | .cons e es, acc, σ, H, Q, fx, B, μ, st, sl, s, r, q => ⟨fx, B, μ, st, sl, s, r, (End.bind (P := PD G) q).imp fun v H1 ⟨B1, μ1, st1, d, h1, h2, s1, rv, q1⟩ => by
      split at q1
      · rename_i y
        split at q1
        · rename_i hz
          cases rv
          exact ⟨y, rfl, hz, js_end es (acc ++ y) s1 (r.mono h1 h2) q1⟩
        · exact q1.elim
      · exact q1.elim⟩
theorem snd_fstr {es : IEs} {v1 v2 : Expr} {rest : List Expr} {pos : Pos} (h : PJ X (v1 :: v2 :: rest) (tsJ G W C es)) : PE X (.JoinedStr (v1 :: v2 :: rest) pos) (tev G W C (.fstr es)) :=
  PE.imp (pe_joined h) fun σ H Q ⟨fx, B, μ, st, sl, s, r, q⟩ => js_end es Str.empty s r ((End.bind (P := fun _ _ _ (a b : Str) => a = b) (show End G (PD G) fx B μ W σ ((evJ C sl es Str.empty st).bind fun x st1 => .ok (.str x) st1) Q from q)).imp fun v H1 ⟨B1, μ1, st1, d, h1, h2, s1, rv, q1⟩ => by
    cases rv
    exact End.ok (P := PD G) q1 s1 (.str _))
end
end Fg

set_option maxHeartbeats 4000000
/-! Fv: an IR held against the text. -/
namespace Fg
open PySem PySem.Spec PyProof.Rows L2

def conB : D → Const → Bool
  | .int i, .int j => i == j
  | .str x, .str y => x == y
  | .non, .none => true
  | .bl a, .bool b => a == b
  | _, _ => false
/-- no comprehension -/
def noCmp : Expr → Bool
  | .ListComp .. => false | .SetComp .. => false | .DictComp .. => false | _ => true
def noSet : Expr → Bool
  | .Set .. => false | _ => true
def noTup : Expr → Bool
  | .Tuple .. => false | .List .. => false | _ => true
def noTupV : Expr → Bool
  | .Tuple .. => false | _ => true
def tyNames : List String := ["int", "str", "list", "tuple", "dict", "bool"]
def bmAny (m : String) : Bool := bmOk "list" m || bmOk "str" m || bmOk "dict" m
/-- an IR whose test is its value's truth -/
def ofE : IE → Bool
  | .notE _ => false | .and _ _ => false | .or _ _ => false | .chain .. => false | _ => true
/-- zip is walked by a written target alone -/
def zipT : II → Expr → Bool
  | .zip .., .Tuple .. => true
  | .zip .., _ => false
  | _, _ => true
def gsLen : IGs → Nat
  | .nil => 0 | .cons _ gs => gsLen gs + 1
mutual
def chG (fa : Bool) (N : List Str) (sc : Scope) : IG → Expr → Bool
  | .nm i, .Name x _ => N[i]? == some x && (if fa = true then locV sc x else locB sc x)
  | .tp gs, .Tuple xs _ _ => chGs fa N sc gs xs
  | _, _ => false
def chGs (fa : Bool) (N : List Str) (sc : Scope) : IGs → List Expr → Bool
  | .nil, [] => true
  | .cons g gs, x :: xs => chG fa N sc g x && noStar x && chGs fa N sc gs xs
  | _, _ => false
end
def ownOf (N : List Str) (own : List Nat) : List (Str × Nat) := own.map fun i => ((N[i]?).getD default, i)
theorem ownOf_snd (N : List Str) (own : List Nat) : (ownOf N own).map (·.2) = own := by simp [ownOf, Function.comp_def]

mutual
def chX (N : List Str) (fl : List String) : Nat → Scope → IE → Expr → Bool
  | 0, _, _, _ => false
  | n + 1, sc, ir, e => match ir, e with
    | .var i, .Name x _ => N[i]? == some x && visB sc x && okN x
    | .con d, .Constant c _ _ => conB d c
    | .gl x, .Name y _ => y == Str.ofString x && glB sc (Str.ofString x) && okN (Str.ofString x)
    | .bty t, .Name y _ => y == Str.ofString t && tyNames.contains t && glB sc (Str.ofString t) && okN (Str.ofString t)
    | .bin _ op a b, .BinOp x o y _ => o == op && chX N fl n sc a x && chX N fl n sc b y
    | .neg a, .UnaryOp o x _ => o == .USub && chX N fl n sc a x
    | .notE a, .UnaryOp o x _ => o == .Not && chX N fl n sc a x
    | .cmp op a b, .Compare x [o] [y] _ => o == op && chX N fl n sc a x && chX N fl n sc b y && !behindInMarks o y
    | .chain op op' a b c, .Compare x [o, o'] [y, z] _ => o == op && o' == op' && chX N fl n sc a x && chX N fl n sc b y && chX N fl n sc c z && !lastMarks [o, o'] [y, z]
    | ir, .BoolOp op es _ => chL N fl n sc op ir es
    | .ite c a b, .IfExp z x y _ => chT N fl n sc c z && chX N fl n sc a x && chX N fl n sc b y
    | .tup es, .Tuple xs _ _ => chA N fl n sc es xs
    | .lst _ es, .List xs _ => chA N fl n sc es xs
    | .dic _ .nil .nil, .Dict [] [] _ => true
    | .idx a i, .Subscript x y _ => noSlc y && chX N fl n sc a x && chX N fl n sc i y
    | .slc _ a lo hi, .Subscript x (.Slice l h none _) _ => chX N fl n sc a x && chP N fl n sc lo l && chP N fl n sc hi h
    | .fld a f, .Attribute x at_ _ => at_ == Str.ofString f && fl.contains f && baseE x && chX N fl n sc a x
    | .call _ f es, .Call (.Name x _) xs [] _ => x == Str.ofString f && glB sc (Str.ofString f) && okN (Str.ofString f) && xs.all noStar && chA N fl n sc es xs
    | .make _ f es, .Call (.Name x _) xs [] _ => x == Str.ofString f && glB sc (Str.ofString f) && okN (Str.ofString f) && xs.all noStar && chA N fl n sc es xs
    | .blt _ f es, .Call (.Name x _) (y :: ys) [] _ => x == Str.ofString f && bltNames.contains f && (isFnF f || isTyF f) && glB sc (Str.ofString f) && okN (Str.ofString f) && (y :: ys).all noStar && chA N fl n sc es (y :: ys)
    | .isi es, .Call (.Name x _) (y :: ys) [] _ => x == Str.ofString "isinstance" && glB sc (Str.ofString "isinstance") && (y :: ys).all noStar && chA N fl n sc es (y :: ys)
    | .meth _ a m es, .Call (.Attribute o at_ ap) xs [] p => at_ == Str.ofString m && baseE o && ap.endLine == p.line && xs.all noStar && decide (xs.length < 29) && chX N fl n sc a o && chA N fl n sc es xs
    | .bm _ m a es, .Call (.Attribute o at_ ap) xs [] p => at_ == Str.ofString m && bmAny m && baseE o && ap.endLine == p.line && xs.all noStar && decide (xs.length < 29) && chX N fl n sc a o && chA N fl n sc es xs
    | .fstr es, .JoinedStr (x :: y :: xs) _ => chJ N fl n sc es (x :: y :: xs)
    | .lc _ own g it cond elt, .ListComp ex [⟨tg, iter, ifs, 0⟩] scope _ => chC N fl n sc own g it cond tg iter ifs scope && chX N fl n (relS scope sc) elt ex
    | _, _ => false
/-- an f-string's parts -/
def chJ (N : List Str) (fl : List String) : Nat → Scope → IEs → List Expr → Bool
  | 0, _, _, _ => false
  | n + 1, sc, irs, es => match irs, es with
    | .nil, [] => true
    | .cons (.con d) as, .Constant c _ _ :: xs => conB d c && chJ N fl n sc as xs
    | .cons (.blt _ f (.cons a .nil)) as, .FormattedValue x cv none _ :: xs => f == "str" && cv == -1 && chX N fl n sc a x && chJ N fl n sc as xs
    | _, _ => false
/-- a comprehension but its element -/
def chC (N : List Str) (fl : List String) : Nat → Scope → List Nat → IG → II → IE → Expr → Expr → List Expr → Scope → Bool
  | 0, _, _, _, _, _, _, _, _, _ => false
  | n + 1, sc, own, g, it, cond, tg, iter, ifs, scope => blkC N sc scope (ownOf N own) && (igs g).all (fun i => own.contains i) && noSet iter && (chI N fl n sc it iter && zipT it tg) && chG false N (relS scope sc) g tg &&
      (match ifs with | [] => (match cond with | .con (.bl true) => true | _ => false) | [c] => chT N fl n (relS scope sc) cond c | _ => false)
def chT (N : List Str) (fl : List String) : Nat → Scope → IE → Expr → Bool
  | 0, _, _, _ => false
  | n + 1, sc, ir, e => match ir, e with
    | .notE a, .UnaryOp o x _ => o == .Not && chT N fl n sc a x
    | .cmp op a b, .Compare x [o] [y] _ => o == op && chX N fl n sc a x && chX N fl n sc b y && !behindInMarks o y
    | .chain op op' a b c, .Compare x [o, o'] [y, z] _ => o == op && o' == op' && chX N fl n sc a x && chX N fl n sc b y && chX N fl n sc c z && !lastMarks [o, o'] [y, z]
    | ir, .BoolOp op es _ => chLT N fl n sc op ir es
    | ir, e => ofE ir && plainE e && chX N fl n sc ir e
def chL (N : List Str) (fl : List String) : Nat → Scope → BoolOp → IE → List Expr → Bool
  | 0, _, _, _, _ => false
  | n + 1, sc, op, ir, es => match op, ir, es with
    | _, ir, [x] => chX N fl n sc ir x
    | .And, .and a b, x :: y :: r => chX N fl n sc a x && chL N fl n sc .And b (y :: r)
    | .Or, .or a b, x :: y :: r => chX N fl n sc a x && chL N fl n sc .Or b (y :: r)
    | _, _, _ => false
def chLT (N : List Str) (fl : List String) : Nat → Scope → BoolOp → IE → List Expr → Bool
  | 0, _, _, _, _ => false
  | n + 1, sc, op, ir, es => match op, ir, es with
    | _, ir, [x] => chT N fl n sc ir x
    | .And, .and a b, x :: y :: r => chT N fl n sc a x && chLT N fl n sc .And b (y :: r)
    | .Or, .or a b, x :: y :: r => chT N fl n sc a x && chLT N fl n sc .Or b (y :: r)
    | _, _, _ => false
def chA (N : List Str) (fl : List String) : Nat → Scope → IEs → List Expr → Bool
  | 0, _, _, _ => false
  | n + 1, sc, irs, es => match irs, es with
    | .nil, [] => true
    | .cons a as, x :: xs => noStar x && chX N fl n sc a x && chA N fl n sc as xs
    | _, _ => false
def chP (N : List Str) (fl : List String) : Nat → Scope → IE → Option Expr → Bool
  | 0, _, _, _ => false
  | n + 1, sc, ir, e => match e with
    | none => isNo ir
    | some x => !isNo ir && chX N fl n sc ir x
def chI (N : List Str) (fl : List String) : Nat → Scope → II → Expr → Bool
  | 0, _, _, _ => false
  | n + 1, sc, it, e => match it, e with
    | .seq ir, e => chX N fl n sc ir e
    | .str ir, e => chX N fl n sc ir e
    | .rng1 a, .Call (.Name x _) [y] [] _ => x == Str.ofString "range" && glB sc (Str.ofString "range") && noStar y && chX N fl n sc a y
    | .rng2 a b, .Call (.Name x _) [y, z] [] _ => x == Str.ofString "range" && glB sc (Str.ofString "range") && noStar y && noStar z && chX N fl n sc a y && chX N fl n sc b z
    | .zip a b, .Call (.Name x _) [y, z] [] _ => x == Str.ofString "zip" && glB sc (Str.ofString "zip") && noStar y && noStar z && chX N fl n sc a y && chX N fl n sc b z
    | _, _ => false
end

mutual
def chS (N : List Str) (fl : List String) : Nat → Scope → IS → Stmt → Bool
  | 0, _, _, _ => false
  | n + 1, sc, s, st => match s, st with
    | .tgt (.nm i) (.lc c own g it cond elt), .Assign [.Name y py] (.ListComp ex [⟨tg, iter, ifs, 0⟩] scope p) _ => N[i]? == some y && chC N fl n sc own g it cond tg iter ifs scope && chX N fl n (relS scope sc) elt ex &&
        ((locB sc y && sc.kind == .function && py.line == p.line && !(scope.names.any fun (n, k) => n == y && (k == .local || k == .cell))) || sc.names.lookup y == some .cell)
    | .tgt g e, .Assign [tg] x _ => noCmp x && noStar tg && (noTup tg || noTupV x) && chG true N sc g tg && chX N fl n sc e x
    | .sub o i v, .Assign [.Subscript x y _] z _ => noCmp z && noSlc y && chX N fl n sc o x && chX N fl n sc i y && chX N fl n sc v z
    | .fst o f v, .Assign [.Attribute x at_ _] z _ => noCmp z && at_ == Str.ofString f && fl.contains f && chX N fl n sc o x && chX N fl n sc v z
    | .aug i op e, .AugAssign (.Name x _) o y _ => o == op && (op == .Add || op == .Sub) && N[i]? == some x && locV sc x && chX N fl n sc e y
    | .augS o i op e, .AugAssign (.Subscript x y _) oo z _ => oo == op && (op == .Add || op == .Sub) && noSlc y && chX N fl n sc o x && chX N fl n sc i y && chX N fl n sc e z
    | .ex e, .Expr x _ => noCmp x && chX N fl n sc e x
    | .ret e, .Return (some x) _ => chX N fl n sc e x
    | .retN, .Return none _ => true
    | .ife c a b, .If x xs ys _ => chT N fl n sc c x && chSs N fl n sc a xs && chSs N fl n sc b ys
    | .for_ g it b, .For tg iter body [] _ => noSet iter && (chI N fl n sc it iter && zipT it tg) && chG true N sc g tg && chSs N fl n sc b body
    | .whl c b, .While x body [] _ => chT N fl n sc c x && chSs N fl n sc b body
    | .brk, .Break _ => true
    | .cnt, .Continue _ => true
    | .pas, .Pass _ => true
    | .rai _ _, _ => true
    | _, _ => false
def chSs (N : List Str) (fl : List String) : Nat → Scope → ISs → List Stmt → Bool
  | 0, _, _, _ => false
  | n + 1, sc, ss, sts => match ss, sts with
    | .nil, [] => true
    | .cons s r, x :: xs => chS N fl n sc s x && chSs N fl n sc r xs
    | _, _ => false
end
end Fg

set_option maxHeartbeats 4000000
/-! Fw: what is held against the text, holds. -/
namespace Fg
open PySem PySem.Spec PyProof.Rows L2

theorem bty_boot {t : String} (h : tyNames.contains t = true) : bootBuiltins (Str.ofString t) = some (.type t) := by
  have : t ∈ tyNames := by simpa using h
  simp only [tyNames, List.mem_cons, List.not_mem_nil, or_false] at this
  rcases this with rfl | rfl | rfl | rfl | rfl | rfl <;> decide +kernel
theorem bty_blt {t : String} (h : tyNames.contains t = true) : t ∈ bltNames := by
  have : t ∈ tyNames := by simpa using h
  simp only [tyNames, List.mem_cons, List.not_mem_nil, or_false] at this
  rcases this with rfl | rfl | rfl | rfl | rfl | rfl <;> decide
theorem bm_any {m : String} (h : bmAny m = true) : ∃ T, bmOk T m = true := by
  simp only [bmAny, Bool.or_eq_true] at h
  rcases h with (h | h) | h <;> exact ⟨_, h⟩
theorem evX_of {C : Cf} {sl : Slots} {e : IE} (h : ofE e = true) : evX C sl e = Ev.of (evX C sl e).v := by
  cases e with
  | dic c ks vs => cases ks <;> cases vs <;> simp only [evX] <;> rfl
  | notE => cases h
  | and => cases h
  | or => cases h
  | chain => cases h
  | _ => simp only [evX] <;> rfl
theorem setGs_len : ∀ {gs : IGs} {ds : List D} {sl sl' : Slots}, setGs gs ds sl = some sl' → ds.length = gsLen gs
  | .nil, [], _, _, _ => rfl
  | .nil, _ :: _, _, _, h => by simp [setGs] at h
  | .cons g gs, [], _, _, h => by simp [setGs] at h
  | .cons g gs, d :: ds, sl, sl', h => by
    simp only [setGs] at h
    split at h
    · simp only [List.length_cons, gsLen, setGs_len h]
    · cases h
theorem chGs_len {fa : Bool} {N : List Str} {sc : Scope} : ∀ {gs : IGs} {xs : List Expr}, chGs fa N sc gs xs = true → gsLen gs = xs.length
  | .nil, [], _ => rfl
  | .nil, _ :: _, h => by simp [chGs] at h
  | .cons g gs, [], h => by simp [chGs] at h
  | .cons g gs, x :: xs, h => by
    simp only [chGs, Bool.and_eq_true] at h
    simp only [gsLen, List.length_cons, chGs_len h.2]
theorem each_plain {env : Env} : ∀ {xs : List Expr}, xs.all noStar = true → (assignEach xs env).length = xs.length ∧ (assignEach xs env).findIdx? (·.1) = none
  | [], _ => ⟨rfl, rfl⟩
  | x :: xs, h => by
    simp only [List.all_cons, Bool.and_eq_true] at h
    obtain ⟨h1, h2⟩ := each_plain (env := env) h.2
    have e : assignEach (x :: xs) env = (false, assign x env) :: assignEach xs env := by
      cases x <;> first | exact Bool.noConfusion h.1 | rfl
    rw [e]
    exact ⟨by simp [h1], by rw [List.findIdx?_cons, h2]; rfl⟩
theorem each_cons {env : Env} {x : Expr} {xs : List Expr} (h : noStar x = true) : (assignEach (x :: xs) env).map (·.2) = assign x env :: (assignEach xs env).map (·.2) := by
  cases x <;> first | exact Bool.noConfusion h | rfl
theorem chGs_star {fa : Bool} {N : List Str} {sc : Scope} : ∀ {gs : IGs} {xs : List Expr}, chGs fa N sc gs xs = true → xs.all noStar = true
  | .nil, [], _ => rfl
  | .nil, _ :: _, h => by simp [chGs] at h
  | .cons g gs, [], h => by simp [chGs] at h
  | .cons g gs, x :: xs, h => by
    simp only [chGs, Bool.and_eq_true] at h
    simp only [List.all_cons, Bool.and_eq_true]
    exact ⟨h.1.2, chGs_star h.2⟩
theorem loc_locV {sc : Scope} {x : Str} (h : locB sc x = true) : locV sc x = true := by
  unfold locB at h; unfold locV
  split at h
  · rename_i e; rw [e]
  · cases h
theorem loc_look {sc : Scope} {x : Str} (h : locB sc x = true) : sc.names.lookup x = some .local := by
  unfold locB at h
  split at h
  · assumption
  · cases h
section
variable {G : GE} {C : Cf} {W : WX} {k : Nat} {N : List Str} {fl : List String} {X : Cx} {sc : Scope}
mutual
theorem chG_ok {fa : Bool} (K : Cxt G C W k fl X) (hf : fa = true → ∀ x, X.fn x = true) (hN : X.N = N) (hs : X.env.scope = sc) : ∀ (g : IG) (e : Expr), chG fa N sc g e = true → PG X e (tevG G g)
  | .nm i, e, h => by
    cases e <;> simp only [chG] at h <;> try exact Bool.noConfusion h
    simp only [Bool.and_eq_true, beq_iff_eq] at h
    obtain ⟨h1, h2⟩ := h
    split at h2
    · rename_i hfa
      exact snd_nm K.nd (by rw [hN]; exact h1) (by rw [hs]; exact h2) (.inl (hf hfa _))
    · exact snd_nm K.nd (by rw [hN]; exact h1) (by rw [hs]; exact loc_locV h2) (.inr (by rw [hs]; exact loc_look h2))
  | .tp gs, e, h => by
    cases e <;> simp only [chG] at h <;> try exact Bool.noConfusion h
    rename_i xs kk pos
    obtain ⟨e1, e2⟩ := each_plain (env := X.env) (chGs_star h)
    exact snd_tp K (chGs_ok K hf hN hs gs xs h) e1 e2 fun ds sl sl' q => (setGs_len q).trans (chGs_len h)
theorem chGs_ok {fa : Bool} (K : Cxt G C W k fl X) (hf : fa = true → ∀ x, X.fn x = true) (hN : X.N = N) (hs : X.env.scope = sc) : ∀ (gs : IGs) (es : List Expr), chGs fa N sc gs es = true → PGs X es (tevGs G gs)
  | .nil, [], _ => snd_gnil
  | .nil, _ :: _, h => by simp [chGs] at h
  | .cons g gs, [], h => by simp [chGs] at h
  | .cons g gs, x :: xs, h => by
    simp only [chGs, Bool.and_eq_true] at h
    exact snd_gcons (chG_ok K hf hN hs g x h.1.1) (chGs_ok K hf hN hs gs xs h.2) (each_cons h.1.2)
end
end
end Fg

set_option maxHeartbeats 8000000
/-! Fy: expressions that are held against the text, hold. -/
namespace Fg
open PySem PySem.Spec PyProof.Rows L2

/-- to the depth n -/
structure OkN (G : GE) (C : Cf) (N : List Str) (fl : List String) (n : Nat) : Prop where
  x : ∀ {W k X sc ir e}, Cxt G C W k fl X → X.N = N → X.env.scope = sc → chX N fl n sc ir e = true → PE X e (tev G W C ir)
  t : ∀ {W k X sc ir e}, Cxt G C W k fl X → X.N = N → X.env.scope = sc → chT N fl n sc ir e = true → PT X e (tevT G W C ir)
  l : ∀ {W k X sc op ir es}, Cxt G C W k fl X → X.N = N → X.env.scope = sc → chL N fl n sc op ir es = true → ∀ pos, PE X (.BoolOp op es pos) (tev G W C ir)
  lt : ∀ {W k X sc op ir es}, Cxt G C W k fl X → X.N = N → X.env.scope = sc → chLT N fl n sc op ir es = true → ∀ pos, PW X (.BoolOp op es pos) (tevT G W C ir)
  a : ∀ {W k X sc irs es}, Cxt G C W k fl X → X.N = N → X.env.scope = sc → chA N fl n sc irs es = true → PA X es (tevs G W C irs)
  p : ∀ {W k X sc ir o}, Cxt G C W k fl X → X.N = N → X.env.scope = sc → chP N fl n sc ir o = true → PO X o (tevP G W C ir)
  i : ∀ {W k X sc it e}, Cxt G C W k fl X → X.N = N → X.env.scope = sc → chI N fl n sc it e = true → ∀ tg, zipT it tg = true → PI X tg e (tevI G W C it)
  j : ∀ {W k X sc irs es}, Cxt G C W k fl X → X.N = N → X.env.scope = sc → chJ N fl n sc irs es = true → PJ X es (tsJ G W C irs)
  c : ∀ {W k X sc own g it cond tg iter ifs scope}, Cxt G C W k fl X → X.N = N → X.env.scope = sc → chC N fl n sc own g it cond tg iter ifs scope = true →
    BlkOk X.N X.env.scope scope (ownOf N own) ∧ (∀ i ∈ igs g, i ∈ (ownOf N own).map (·.2)) ∧ (∀ x, foldedSetIterable iter X.env x = pure x) ∧ PI X tg iter (tevI G W C it) ∧
      (∀ (s : Shared) (H : Hp) (D : Addr) (cl : List (Str × Addr)) (fp : List Addr), PG (X.blk s H scope (compEnvC scope cl D X.env) fp) tg (tevG G g)) ∧
      (∀ (s : Shared) (H : Hp) (D : Addr) (cl : List (Str × Addr)) (fp : List Addr), PTs (X.blk s H scope (compEnvC scope cl D X.env) fp) ifs (tevT G WF C cond))

section
variable {G : GE} {C : Cf} {N : List Str} {fl : List String}
theorem okN_zero : OkN G C N fl 0 where
  x := fun _ _ _ h => by simp [chX] at h
  t := fun _ _ _ h => by simp [chT] at h
  l := fun _ _ _ h => by simp [chL] at h
  lt := fun _ _ _ h => by simp [chLT] at h
  a := fun _ _ _ h => by simp [chA] at h
  p := fun _ _ _ h => by simp [chP] at h
  i := fun _ _ _ h => by simp [chI] at h
  j := fun _ _ _ h => by simp [chJ] at h
  c := fun _ _ _ h => by simp [chC] at h
theorem fold_set {iter : Expr} {env : Env} (h : noSet iter = true) : ∀ x, foldedSetIterable iter env x = pure x := fun x => by
  cases iter <;> first | exact Bool.noConfusion h | rfl
variable {n : Nat}
theorem ok_con {W : WX} {X : Cx} {d : D} {c : Const} {j : Nat} {pos : Pos} (h : conB d c = true) : PE X (.Constant c j pos) (tev G W C (.con d)) := by
  unfold conB at h
  split at h
  · have e := eq_of_beq h; subst e; exact snd_con pe_int fun _ _ => .int _
  · have e := eq_of_beq h; subst e; exact snd_con pe_str fun _ _ => .str _
  · exact snd_con pe_non fun _ _ => .non
  · have e := eq_of_beq h; subst e; exact snd_con pe_bl fun _ _ => .bl _
  · cases h
theorem chA_cons {sc : Scope} {es : IEs} {y : Expr} {ys : List Expr} (h : chA N fl n sc es (y :: ys) = true) : ∃ a as, es = .cons a as := by
  cases n with
  | zero => simp [chA] at h
  | succ n =>
    cases es with
    | nil => simp [chA] at h
    | cons a as => exact ⟨a, as, rfl⟩
theorem chA_nil {sc : Scope} {es : IEs} (h : chA N fl n sc es [] = true) : es = .nil := by
  cases n with
  | zero => simp [chA] at h
  | succ n =>
    cases es with
    | nil => rfl
    | cons a as => simp [chA] at h
theorem meth_any {W : WX} {k : Nat} {X : Cx} (K : Cxt G C W k fl X) {sd : Bool} {m : String} {a : IE} {es : IEs} {o : Expr} {xs : List Expr} {ap p : Pos} (ha : PE X o (tev G W C a)) (hx : PA X xs (tevs G W C es)) (he : xs = [] → es = .nil) (hb : baseE o = true)
    (hl : (ap.endLine == p.line) = true) (hn : xs.all noStar = true) (hz : xs.length < 29) : PE X (.Call (.Attribute o (Str.ofString m) ap) xs [] p) (tev G W C (.meth sd a m es)) := by
  cases xs with
  | nil => rw [he rfl]; exact snd_meth0 K ha hb hl
  | cons y ys => exact snd_meth K ha hx hb hl hn hz
theorem bm_anyE {W : WX} {k : Nat} {X : Cx} (K : Cxt G C W k fl X) {c : Bool} {m : String} {a : IE} {es : IEs} {o : Expr} {xs : List Expr} {ap p : Pos} (ha : PE X o (tev G W C a)) (hx : PA X xs (tevs G W C es)) (he : xs = [] → es = .nil) (hm : ∃ T, bmOk T m = true) (hb : baseE o = true)
    (hl : (ap.endLine == p.line) = true) (hn : xs.all noStar = true) (hz : xs.length < 29) : PE X (.Call (.Attribute o (Str.ofString m) ap) xs [] p) (tev G W C (.bm c m a es)) := by
  cases xs with
  | nil => rw [he rfl]; exact snd_bm0 K ha hm hb hl
  | cons y ys => exact snd_bm1 K ha hx hm hb hl hn hz
theorem okN_x (O : OkN G C N fl n) {W k X sc ir e} (K : Cxt G C W k fl X) (hN : X.N = N) (hs : X.env.scope = sc) (h : chX N fl (n + 1) sc ir e = true) : PE X e (tev G W C ir) := by
  unfold chX at h
  split at h
  all_goals try simp only [Bool.and_eq_true, beq_iff_eq, Bool.not_eq_true'] at h
  · exact snd_var (by rw [hN]; exact h.1.1) (by rw [hs]; exact h.1.2) h.2
  · exact ok_con h
  · obtain ⟨⟨rfl, h1⟩, h2⟩ := h
    exact snd_gl K (by rw [hs]; exact h1) h2
  · obtain ⟨⟨⟨rfl, h0⟩, h1⟩, h2⟩ := h
    exact snd_bty K (bty_blt h0) (bty_boot h0) (by rw [hs]; exact h1) h2
  · obtain ⟨⟨rfl, h1⟩, h2⟩ := h
    exact snd_bin K (O.x K hN hs h1) (O.x K hN hs h2)
  · obtain ⟨rfl, h1⟩ := h
    exact snd_neg (O.x K hN hs h1)
  · obtain ⟨rfl, h1⟩ := h
    exact snd_not K (O.x K hN hs h1)
  · obtain ⟨⟨⟨rfl, h1⟩, h2⟩, h3⟩ := h
    exact snd_cmp K (O.x K hN hs h1) (O.x K hN hs h2) h3
  · obtain ⟨⟨⟨⟨⟨rfl, rfl⟩, h1⟩, h2⟩, h3⟩, h4⟩ := h
    exact snd_chain K (O.x K hN hs h1) (O.x K hN hs h2) (O.x K hN hs h3) h4
  · exact O.l K hN hs h _
  · exact snd_ite (O.t K hN hs h.1.1) (O.x K hN hs h.1.2) (O.x K hN hs h.2)
  · exact snd_tup (O.a K hN hs h)
  · exact snd_lst (O.a K hN hs h)
  · exact snd_dic0
  · exact snd_idx K (O.x K hN hs h.1.2) (O.x K hN hs h.2) h.1.1
  · exact snd_slc K (O.x K hN hs h.1.1) (O.p K hN hs h.1.2) (O.p K hN hs h.2)
  · obtain ⟨⟨⟨rfl, h1⟩, h2⟩, h3⟩ := h
    exact snd_fld K (O.x K hN hs h3) (by simpa using h1) h2
  · obtain ⟨⟨⟨⟨rfl, h1⟩, h2⟩, h3⟩, h4⟩ := h
    rename_i es _ xs _
    cases xs with
    | nil =>
      have e : es = .nil := by
        cases n with
        | zero => simp [chA] at h4
        | succ n => cases es <;> simp [chA] at h4 ⊢
      subst e
      exact snd_call0 K (by rw [hs]; exact h1) h2
    | cons y ys => exact snd_call K (O.a K hN hs h4) (by rw [hs]; exact h1) h2 h3
  · obtain ⟨⟨⟨⟨rfl, h1⟩, h2⟩, h3⟩, h4⟩ := h
    rename_i es _ xs _
    cases xs with
    | nil =>
      have e : es = .nil := by
        cases n with
        | zero => simp [chA] at h4
        | succ n => cases es <;> simp [chA] at h4 ⊢
      subst e
      exact snd_make0 K (by rw [hs]; exact h1) h2
    | cons y ys => exact snd_make K (O.a K hN hs h4) (by rw [hs]; exact h1) h2 h3
  · obtain ⟨⟨⟨⟨⟨⟨rfl, h0⟩, h1⟩, h2⟩, h3⟩, h4⟩, h5⟩ := h
    obtain ⟨a, as, rfl⟩ := chA_cons h5
    exact snd_blt K (O.a K hN hs h5) (by simpa using h0) (by simpa using h1) (by rw [hs]; exact h2) h3 h4
  · obtain ⟨⟨⟨rfl, h1⟩, h2⟩, h3⟩ := h
    obtain ⟨a, as, rfl⟩ := chA_cons h3
    exact snd_isi K (O.a K hN hs h3) (by rw [hs]; exact h1) h2
  · obtain ⟨⟨⟨⟨⟨⟨rfl, h0⟩, h1⟩, h2⟩, h3⟩, h4⟩, h5⟩ := h
    exact meth_any K (O.x K hN hs h4) (O.a K hN hs h5) (fun e => by rw [e] at h5; exact chA_nil h5) h0 (beq_iff_eq.mpr h1) h2 (of_decide_eq_true h3)
  · obtain ⟨⟨⟨⟨⟨⟨⟨rfl, hb⟩, h0⟩, h1⟩, h2⟩, h3⟩, h4⟩, h5⟩ := h
    exact bm_anyE K (O.x K hN hs h4) (O.a K hN hs h5) (fun e => by rw [e] at h5; exact chA_nil h5) (bm_any hb) h0 (beq_iff_eq.mpr h1) h2 (of_decide_eq_true h3)
  · exact snd_fstr (O.j K hN hs h)
  · rename_i c own g it cond elt ex tg iter ifs scope pp
    obtain ⟨b1, b2, b3, b4, b5, b6⟩ := O.c K hN hs h.1
    have e := snd_lc K (c := c) (ex := ex) (elt := elt) (pos := pp) b4 b1 b5 b6 (fun s H D cl fp => O.x (K.blk s H scope (compEnvC scope cl D X.env) fp) hN (show relS scope X.env.scope = _ by rw [hs]) h.2) b2 b3
    rw [ownOf_snd] at e
    exact e
  · cases h
theorem okN_t (O : OkN G C N fl n) {W k X sc ir e} (K : Cxt G C W k fl X) (hN : X.N = N) (hs : X.env.scope = sc) (h : chT N fl (n + 1) sc ir e = true) : PT X e (tevT G W C ir) := by
  unfold chT at h
  split at h
  all_goals try simp only [Bool.and_eq_true, beq_iff_eq, Bool.not_eq_true'] at h
  · obtain ⟨rfl, h1⟩ := h
    exact snd_notT (O.t K hN hs h1)
  · obtain ⟨⟨⟨rfl, h1⟩, h2⟩, h3⟩ := h
    exact snd_cmpT K (O.x K hN hs h1) (O.x K hN hs h2) h3
  · obtain ⟨⟨⟨⟨⟨rfl, rfl⟩, h1⟩, h2⟩, h3⟩, h4⟩ := h
    exact snd_chainT K (O.x K hN hs h1) (O.x K hN hs h2) (O.x K hN hs h3) h4
  · exact (O.lt K hN hs h _).pt
  · exact snd_tru K (fun sl => evX_of h.1.1) (O.x K hN hs h.2) h.1.2
theorem okN_l (O : OkN G C N fl n) {W k X sc op ir es} (K : Cxt G C W k fl X) (hN : X.N = N) (hs : X.env.scope = sc) (h : chL N fl (n + 1) sc op ir es = true) (pos : Pos) : PE X (.BoolOp op es pos) (tev G W C ir) := by
  unfold chL at h
  split at h
  all_goals try simp only [Bool.and_eq_true] at h
  · exact snd_one (O.x K hN hs h)
  · exact snd_and K (O.x K hN hs h.1) (O.l K hN hs h.2 pos)
  · exact snd_or K (O.x K hN hs h.1) (O.l K hN hs h.2 pos)
  · cases h
theorem okN_lt (O : OkN G C N fl n) {W k X sc op ir es} (K : Cxt G C W k fl X) (hN : X.N = N) (hs : X.env.scope = sc) (h : chLT N fl (n + 1) sc op ir es = true) (pos : Pos) : PW X (.BoolOp op es pos) (tevT G W C ir) := by
  unfold chLT at h
  split at h
  all_goals try simp only [Bool.and_eq_true] at h
  · cases op with
    | And => exact pw_and1 (O.t K hN hs h)
    | Or => exact pw_or1 (O.t K hN hs h)
  · exact snd_andT (O.t K hN hs h.1) (O.lt K hN hs h.2 pos)
  · exact snd_orT (O.t K hN hs h.1) (O.lt K hN hs h.2 pos)
  · cases h
theorem okN_a (O : OkN G C N fl n) {W k X sc irs es} (K : Cxt G C W k fl X) (hN : X.N = N) (hs : X.env.scope = sc) (h : chA N fl (n + 1) sc irs es = true) : PA X es (tevs G W C irs) := by
  unfold chA at h
  split at h
  all_goals try simp only [Bool.and_eq_true] at h
  · exact snd_nil
  · exact snd_cons (O.x K hN hs h.1.2) (O.a K hN hs h.2) h.1.1
  · cases h
theorem okN_p (O : OkN G C N fl n) {W k X sc ir o} (K : Cxt G C W k fl X) (hN : X.N = N) (hs : X.env.scope = sc) (h : chP N fl (n + 1) sc ir o = true) : PO X o (tevP G W C ir) := by
  unfold chP at h
  split at h
  all_goals try simp only [Bool.and_eq_true, Bool.not_eq_true'] at h
  · exact snd_part (.inl ⟨rfl, h⟩)
  · exact snd_part (.inr ⟨_, rfl, h.1, O.x K hN hs h.2⟩)
theorem okN_i (O : OkN G C N fl n) {W k X sc it e} (K : Cxt G C W k fl X) (hN : X.N = N) (hs : X.env.scope = sc) (h : chI N fl (n + 1) sc it e = true) (tg : Expr) (ht : zipT it tg = true) : PI X tg e (tevI G W C it) := by
  unfold chI at h
  split at h
  all_goals try simp only [Bool.and_eq_true, beq_iff_eq] at h
  · exact snd_seq K (O.x K hN hs h)
  · exact snd_str K (O.x K hN hs h)
  · obtain ⟨⟨⟨rfl, h1⟩, h2⟩, h3⟩ := h
    exact snd_rng1 K (O.x K hN hs h3) (by rw [hs]; exact h1) h2
  · obtain ⟨⟨⟨⟨⟨rfl, h1⟩, h2⟩, h3⟩, h4⟩, h5⟩ := h
    exact snd_rng2 K (O.x K hN hs h4) (O.x K hN hs h5) (by rw [hs]; exact h1) h2 h3
  · obtain ⟨⟨⟨⟨⟨rfl, h1⟩, h2⟩, h3⟩, h4⟩, h5⟩ := h
    cases tg with
    | Tuple elts kk tpos => exact snd_zip K (O.x K hN hs h4) (O.x K hN hs h5) (by rw [hs]; exact h1) h2 h3
    | _ => cases ht
  · cases h
theorem okN_c (O : OkN G C N fl n) {W k X sc own g it cond tg iter ifs scope} (K : Cxt G C W k fl X) (hN : X.N = N) (hs : X.env.scope = sc) (h : chC N fl (n + 1) sc own g it cond tg iter ifs scope = true) :
    BlkOk X.N X.env.scope scope (ownOf N own) ∧ (∀ i ∈ igs g, i ∈ (ownOf N own).map (·.2)) ∧ (∀ x, foldedSetIterable iter X.env x = pure x) ∧ PI X tg iter (tevI G W C it) ∧
      (∀ (s : Shared) (H : Hp) (D : Addr) (cl : List (Str × Addr)) (fp : List Addr), PG (X.blk s H scope (compEnvC scope cl D X.env) fp) tg (tevG G g)) ∧
      (∀ (s : Shared) (H : Hp) (D : Addr) (cl : List (Str × Addr)) (fp : List Addr), PTs (X.blk s H scope (compEnvC scope cl D X.env) fp) ifs (tevT G WF C cond)) := by
  unfold chC at h
  simp only [Bool.and_eq_true] at h
  obtain ⟨⟨⟨⟨⟨h1, h2⟩, h3⟩, h4⟩, h5⟩, h6⟩ := h
  have sB : ∀ (s : Shared) (H : Hp) (D : Addr) (cl : List (Str × Addr)) (fp : List Addr), (X.blk s H scope (compEnvC scope cl D X.env) fp).env.scope = relS scope sc := fun s H D cl fp => by rw [← hs]; rfl
  refine ⟨blkOk_by (by rw [hN, hs]; exact h1), fun i hi => ?_, fold_set h3, O.i K hN hs h4.1 tg h4.2, fun s H D cl fp => chG_ok (K.blk s H scope _ fp) (fun h => Bool.noConfusion h) hN (sB s H D cl fp) g tg h5, fun s H D cl fp => ?_⟩
  · rw [ownOf_snd]
    have := List.all_eq_true.mp h2 i hi
    simpa using this
  · split at h6
    · split at h6
      · exact pts_yes
      · cases h6
    · exact pts_one (O.t (K.blk s H scope _ fp) hN (sB s H D cl fp) h6)
    · cases h6
theorem okN_j (O : OkN G C N fl n) {W k X sc irs es} (K : Cxt G C W k fl X) (hN : X.N = N) (hs : X.env.scope = sc) (h : chJ N fl (n + 1) sc irs es = true) : PJ X es (tsJ G W C irs) := by
  unfold chJ at h
  split at h
  all_goals try simp only [Bool.and_eq_true, beq_iff_eq] at h
  · exact .nil
  · exact .cons (ok_con h.1) (O.j K hN hs h.2)
  · obtain ⟨⟨⟨rfl, rfl⟩, h1⟩, h2⟩ := h
    exact .cons (snd_fmt (O.x K hN hs h1)) (O.j K hN hs h2)
  · cases h
theorem okN_all : ∀ n : Nat, OkN G C N fl n
  | 0 => okN_zero
  | n + 1 => have O := okN_all n
    { x := okN_x O, t := okN_t O, l := okN_l O, lt := okN_lt O, a := okN_a O, p := okN_p O, i := okN_i O, j := okN_j O, c := okN_c O }
end
end Fg

set_option maxHeartbeats 8000000
/-! Fz: statements that are held against the text, hold. -/
namespace Fg
open PySem PySem.Spec PyProof.Rows L2

theorem sw_no {x : Expr} {t : Option Expr} {l : Nat} {env : Env} (h : noCmp x = true) : swapsWith x t l env = pure false := by
  cases x <;> first | exact Bool.noConfusion h | rfl
theorem sw_sole {x t : Expr} {l : Nat} {env : Env} (h : noCmp x = true) : swapsWithSole [t] x l env = pure false := sw_no h
theorem sto_no {x t : Expr} {env : Env} (h : (noTup t || noTupV x) = true) : swappedStores [t] x env = pure none := by
  simp only [Bool.or_eq_true] at h
  rcases h with h | h
  · cases t <;> first | exact Bool.noConfusion h | rfl
  · cases x <;> first | exact Bool.noConfusion h | (cases t <;> rfl)
theorem sw_cell {ex : Expr} {gs : List Comprehension} {scope : Scope} {p py : Pos} {y : Str} {l : Nat} {env : Env} (h : env.scope.names.lookup y = some .cell) : swapsWithSole [.Name y py] (.ListComp ex gs scope p) l env = pure false := by
  have hk : env.kindOf y = some .cell := h
  show swapsWith (.ListComp ex gs scope p) (some (.Name y py)) l env = pure false
  unfold swapsWith
  simp only [hk]
  have e : ((some NameKind.cell : Option NameKind) == some NameKind.local) = false := rfl
  simp only [e, Bool.and_false, Bool.false_and]
theorem each_one {t : Expr} {env : Env} (h : noStar t = true) : (assignEach [t] env).map (·.2) = [assign t env] := by
  cases t <;> first | exact Bool.noConfusion h | rfl
theorem asg_sub {x y : Expr} {p : Pos} {env : Env} (h : noSlc y = true) (v : Value) : assign (.Subscript x y p) env v = (do
    let ov ← holding [v] (eval x env)
    let iv ← holding [v, ov] (eval y env)
    standAt p
    holding [v, ov, iv] (setItem ov iv v)
    release [v, ov, iv] []) := by
  cases y <;> first | exact Bool.noConfusion h | rfl | simp only [assign]
section
variable {G : GE} {C : Cf} {N : List Str} {fl : List String}
structure OkS (G : GE) (C : Cf) (N : List Str) (fl : List String) (n : Nat) : Prop where
  s : ∀ {W k X sc s st}, Cxt G C W k fl X → PassesOwn (model X.prog X.w) X.A X.env X.xe → (∀ x, X.fn x = true) → X.N = N → X.env.scope = sc → chS N fl n sc s st = true → PS X st (tevS G W C s)
  ss : ∀ {W k X sc s st}, Cxt G C W k fl X → PassesOwn (model X.prog X.w) X.A X.env X.xe → (∀ x, X.fn x = true) → X.N = N → X.env.scope = sc → chSs N fl n sc s st = true → PSs X st (tevSs G W C s)
variable {n : Nat}
theorem okS_s (O : OkS G C N fl n) {W k X sc s st} (K : Cxt G C W k fl X) (hp : PassesOwn (model X.prog X.w) X.A X.env X.xe) (hf : ∀ x, X.fn x = true) (hN : X.N = N) (hs : X.env.scope = sc) (h : chS N fl (n + 1) sc s st = true) : PS X st (tevS G W C s) := by
  have E : OkN G C N fl n := okN_all n
  unfold chS at h
  split at h
  all_goals try simp only [Bool.and_eq_true, beq_iff_eq, Bool.not_eq_true', Bool.or_eq_true] at h
  · rename_i i c own g it cond elt y py ex tg iter ifs scope p sp
    obtain ⟨⟨⟨h1, h6⟩, h7⟩, h8⟩ := h
    obtain ⟨b1, b2, b3, b4, b5, b6⟩ := E.c K hN hs h6
    have hE : ∀ (s : Shared) (H : Hp) (D : Addr) (cl : List (Str × Addr)) (fp : List Addr), PE (X.blk s H scope (compEnvC scope cl D X.env) fp) ex (tev G WF C elt) := fun s H D cl fp => E.x (K.blk s H scope (compEnvC scope cl D X.env) fp) hN (show relS scope X.env.scope = _ by rw [hs]) h7
    rcases h8 with ⟨⟨⟨h2, h3⟩, h4⟩, h5⟩ | h2
    · have e := snd_setLc K (i := i) (y := y) (py := py) (c := c) (ex := ex) (elt := elt) (pos := p) (spos := sp) (by rw [hN]; exact h1) (by rw [hs]; exact loc_look h2)
        (sw_true (by rw [hs]; exact h3) (by rw [hs]; exact loc_look h2) (beq_iff_eq.mpr h4) h5) b4 b1 b5 b6 hE b2 b3
      rw [ownOf_snd] at e
      exact e
    · have e := snd_lc K (c := c) (ex := ex) (elt := elt) (pos := p) b4 b1 b5 b6 hE b2 b3
      rw [ownOf_snd] at e
      refine snd_tgt e (snd_nm K.nd (by rw [hN]; exact h1) (by rw [hs]; unfold locV; rw [h2]) (.inl (hf _))) (sw_cell (by rw [hs]; exact h2)) (sto_no rfl) rfl
  · obtain ⟨⟨⟨⟨h1, h2⟩, h3⟩, h4⟩, h5⟩ := h
    exact snd_tgt (E.x K hN hs h5) (chG_ok K (fun _ => hf) hN hs _ _ h4) (sw_sole h1) (sto_no (by simpa using h3)) (each_one h2)
  · obtain ⟨⟨⟨⟨h1, h2⟩, h3⟩, h4⟩, h5⟩ := h
    exact snd_sub K (E.x K hN hs h3) (E.x K hN hs h4) (E.x K hN hs h5) (sw_sole h1) (sto_no rfl) rfl (asg_sub h2)
  · obtain ⟨⟨⟨⟨h1, rfl⟩, h2⟩, h3⟩, h4⟩ := h
    exact snd_fst K (E.x K hN hs h3) (E.x K hN hs h4) (by simpa using h2) (sw_no h1)
  · obtain ⟨⟨⟨⟨rfl, h1⟩, h2⟩, h3⟩, h4⟩ := h
    exact snd_aug K (by rw [hN]; exact h2) (by rw [hs]; exact h3) (.inl (hf _)) (E.x K hN hs h4) h1
  · obtain ⟨⟨⟨⟨⟨rfl, h1⟩, h2⟩, h3⟩, h4⟩, h5⟩ := h
    exact snd_augS K (E.x K hN hs h3) (E.x K hN hs h4) (E.x K hN hs h5) h2 h1
  · exact snd_ex (E.x K hN hs h.2) (sw_no h.1)
  · exact snd_ret (E.x K hN hs h)
  · exact snd_retN
  · exact snd_ife (E.t K hN hs h.1.1) (O.ss K hp hf hN hs h.1.2) (O.ss K hp hf hN hs h.2)
  · exact snd_for K hp (E.i K hN hs h.1.1.2.1 _ h.1.1.2.2) (chG_ok K (fun _ => hf) hN hs _ _ h.1.2) (O.ss K hp hf hN hs h.2) (fold_set h.1.1.1)
  · exact snd_whl hp (E.t K hN hs h.1) (O.ss K hp hf hN hs h.2)
  · exact snd_brk
  · exact snd_cnt
  · exact snd_pas
  · exact PS.imp ps_never fun D σ H ⟨fx, B, μ, st, sl, s, r, q⟩ => by simp only [evS] at q; exact q
  · cases h
theorem okS_ss (O : OkS G C N fl n) {W k X sc s st} (K : Cxt G C W k fl X) (hp : PassesOwn (model X.prog X.w) X.A X.env X.xe) (hf : ∀ x, X.fn x = true) (hN : X.N = N) (hs : X.env.scope = sc) (h : chSs N fl (n + 1) sc s st = true) : PSs X st (tevSs G W C s) := by
  unfold chSs at h
  split at h
  all_goals try simp only [Bool.and_eq_true] at h
  · exact snd_snil
  · exact snd_scons (O.s K hp hf hN hs h.1) (O.ss K hp hf hN hs h.2)
  · cases h
theorem okS_all : ∀ n : Nat, OkS G C N fl n
  | 0 => ⟨fun _ _ _ _ _ h => by simp [chS] at h, fun _ _ _ _ _ h => by simp [chSs] at h⟩
  | n + 1 => have O := okS_all n
    ⟨okS_s O, okS_ss O⟩
end
end Fg

set_option maxHeartbeats 4000000
/-! Fza: a def's facts by its check; the law's own end. -/
namespace Fg
open PySem PySem.Spec PyProof.Rows L2

def scB (N ps : List Str) (sc : Scope) : Bool :=
  sc.kind == .function && !sc.isCoroutine && !sc.isGenerator && decide N.Nodup && decide (N.take ps.length = ps) && ps.all (fun x => sc.names.lookup x == some .local || sc.names.lookup x == some .cell) && sc.names.all fun y => y.2 != .free
theorem sc_of {N ps : List Str} {sc : Scope} (h : scB N ps sc = true) : FnScope N ps sc := by
  simp only [scB, Bool.and_eq_true, beq_iff_eq, Bool.not_eq_true', decide_eq_true_eq, List.all_eq_true, Bool.or_eq_true, bne_iff_ne] at h
  obtain ⟨⟨⟨⟨⟨⟨h1, h2⟩, h3⟩, h4⟩, h5⟩, h6⟩, h7⟩ := h
  exact ⟨h1, h2, h3, h4, h5, h6, h7⟩
section
variable {P : Program} {w : World} {G : GE} {mg : Str → Option Value} {base : Heap} {T : Tb} {L : Nat} {con : String → Option D} {kit : TyK → TyK → Option Bool} {fl : List String}
/-- what is asked of a def's text -/
def defB (fl : List String) (fuel : Nat) (N ps : List Str) (d : Df) (st : Stmt) : Bool :=
  scB N ps (defScope st) && ps.length == d.np && N.length == d.ns && decide (d.np ≤ d.ns) && chSs N fl fuel (defScope st) d.body (defBody st)
theorem body_of {fuel : Nat} {N ps : List Str} {d : Df} {st : Stmt} (h : defB fl fuel N ps d st = true) : ∀ (n k : Nat) (W : WX) (X : Cx), X.N = N → X.env.scope = defScope st → (∀ x, X.fn x = true) → Cxt G (cfN T L con kit n) W k fl X →
    PassesOwn (model X.prog X.w) X.A X.env X.xe → PSs X (defBody st) (tevSs G W (cfN T L con kit n) d.body) := fun n k W X hN hs hf K hp => by
  simp only [defB, Bool.and_eq_true] at h
  exact (okS_all fuel).ss K hp hf hN hs h.2
theorem defF_of {fuel : Nat} {N ps : List Str} {d : Df} {st : Stmt} {fa : Addr} {fd : FuncData} {qual : Str} (h : defB fl fuel N ps d st = true) (hF : L2.Fun G.K (Str.ofString d.nm) qual st fa fd) (hb : Binds G.K fd ps []) : DefF G T L con kit fl d fa := by
  have b := body_of (T := T) (L := L) (con := con) (kit := kit) (G := G) h
  simp only [defB, Bool.and_eq_true, beq_iff_eq, decide_eq_true_eq] at h
  exact ⟨fd, qual, st, N, ps, hF, sc_of h.1.1.1.1, h.1.1.1.2, h.1.1.2, h.1.2, hb, b⟩
/-- one def at a depth, by its own facts -/
theorem fn_at (F : Fx P w G mg base T L con kit fl) (n : Nat) {fuel : Nat} {N ps : List Str} {c f : String} {d : Df} {st : Stmt} {fa : Addr} {fd : FuncData} {qual : Str} (hd : T.get c f = some d) (h : defB fl fuel N ps d st = true) (hF : L2.Fun G.K (Str.ofString d.nm) qual st fa fd) :
    FnOk P w G.K mg base (L2.CX P w) (2 * n + 3) fa fd ps (spOf G (cfN T L con kit (n + 1)) c f) := by
  have body := body_of (T := T) (L := L) (con := con) (kit := kit) (G := G) h
  simp only [defB, Bool.and_eq_true, beq_iff_eq, decide_eq_true_eq] at h
  obtain ⟨⟨⟨⟨hS, hp⟩, hN⟩, hle⟩, _⟩ := h
  have S := sc_of hS
  have len : ∀ vs H Q E, spOf G (cfN T L con kit (n + 1)) c f vs H Q E → vs.length = ps.length := fun vs H Q E ⟨fx, B, μ, st, ds, s, r, q⟩ => by
    by_cases hl : ds.length = d.np
    · rw [← r.1, hl, hp]
    · simp only [cfN, callN, hd, if_neg hl] at q; exact q.elim
  refine L2.Fun.okX hF S len fun cdv A outer s H vs Q E hr hsp => ?_
  refine ⟨_, body n (2 * n + 1) (fun cls d _ H => E cls d H) _ rfl rfl (fun _ => rfl) (cxt_of F (all_ok F n) S hr) (passes_of rfl), ?_⟩
  obtain ⟨fx, B, μ, st0, ds, s0, r, q⟩ := hsp
  have hl : ds.length = d.np := by
    by_cases hl : ds.length = d.np
    · exact hl
    · simp only [cfN, callN, hd, if_neg hl] at q; exact q.elim
  refine ⟨fx, B, μ, st0, _, s0, start_rep r hN, ?_⟩
  have e : (cfN T L con kit (n + 1)).call c f ds st0 = (evSs (cfN T L con kit n) d.body (ds.map some ++ List.replicate (d.ns - ds.length) none) st0).out := callN_succ hd hl
  rw [e] at q
  exact out_end q
/-- the law's promise -/
def spL (K : PySem.W.Frag) : Sp := fun vs H Q _ => ∃ (a : Addr) (ns : List Int), vs = [.ref a] ∧ SqL K H a (ns.map V.int) ∧ ns.length ≤ 63 ∧ ∀ H', Q (.bl true) H'
theorem law_sp {C : Cf} (hrun : ∀ ns : List Int, ns.length ≤ 63 → ∃ st, C.call "" "law" [.scr (ns.map .int)] [] = .ok (.bl true) st) {vs : List V} {H : Hp} {Q : VK} {E : XK} (h : spL G.K vs H Q E) : spOf G C "" "law" vs H Q E := by
  obtain ⟨a, ns, e1, hq, hl, hQ⟩ := h
  subst e1
  obtain ⟨st, e⟩ := hrun ns hl
  refine ⟨fun _ => none, H, [], [], [.scr (ns.map .int)], ⟨rfl, List.nodup_nil, (fun n a d h1 _ => by simp at h1), (fun a o h1 => nomatch h1), fun a _ _ => rfl⟩, .cons (.scr hq (by simp) fun i d v h1 h2 => ?_) .nil, ?_⟩
  · rw [List.getElem?_map] at h1 h2
    cases hi : ns[i]? with
    | none => rw [hi] at h1; cases h1
    | some z => rw [hi] at h1 h2; cases h1; cases h2; exact .int z
  · rw [e]
    intro B' μ' H' v _ _ _ rv
    cases rv
    exact hQ H'
theorem law_fn (F : Fx P w G mg base T L con kit fl) (n : Nat) {fuel : Nat} {N ps : List Str} {d : Df} {st : Stmt} {fa : Addr} {fd : FuncData} {qual : Str} (hd : T.get "" "law" = some d) (h : defB fl fuel N ps d st = true) (hF : L2.Fun G.K (Str.ofString d.nm) qual st fa fd)
    (hrun : ∀ ns : List Int, ns.length ≤ 63 → ∃ st, callN T L con kit (n + 1) "" "law" [.scr (ns.map .int)] [] = .ok (.bl true) st) : FnOk P w G.K mg base (L2.CX P w) (2 * n + 3) fa fd ps (spL G.K) :=
  (fn_at F n hd h hF).imp fun vs H Q E q => law_sp hrun q
/-- nothing is let out of the law -/
theorem cx_no (H : Hp) (s : Shared) (e : Value) (s' : Shared) (h : L2.CX P w [] H s (fun _ _ _ => False) e s') : False := by
  obtain ⟨_, _, _, _, _, _, _, _, _, _, _, _, z⟩ := h
  exact z
end
end Fg

set_option maxHeartbeats 4000000
/-! Pa: the evaluator's equations for plain proofs. -/
namespace Fg
open PySem PySem.Spec PyProof.Rows L2


structure Tg {α : Type} (f : α) : Type where
  mk ::
/-- bind, its way on not looked into -/
def R.bnd {α β : Type} (r : R α) (f : α → Store → R β) (t : Tg f := ⟨⟩) : R β := r.bind f
@[simp] theorem R.bnd_ok {α β : Type} (a : α) (st : Store) (f : α → Store → R β) (t : Tg f) : R.bnd (.ok a st) f t = f a st := nrfl rfl
@[simp] theorem R.bnd_exc {α β : Type} (x : Exn) (st : Store) (f : α → Store → R β) (t : Tg f) : R.bnd (.exc x st : R α) f t = .exc x st := nrfl rfl
@[simp] theorem R.bnd_no {α β : Type} (f : α → Store → R β) (t : Tg f) : R.bnd (.no : R α) f t = .no := nrfl rfl
def RS.ofb {α : Type} (r : R α) (sl : Slots) (f : α → Store → RS) (t : Tg f := ⟨⟩) : RS := RS.of r sl f
@[simp] theorem RS.ofb_ok {α : Type} (a : α) (st : Store) (sl : Slots) (f : α → Store → RS) (t : Tg f) : RS.ofb (.ok a st) sl f t = f a st := nrfl rfl
@[simp] theorem RS.ofb_exc {α : Type} (x : Exn) (st : Store) (sl : Slots) (f : α → Store → RS) (t : Tg f) : RS.ofb (.exc x st) sl f t = .exc x sl st := nrfl rfl
@[simp] theorem RS.ofb_no {α : Type} (sl : Slots) (f : α → Store → RS) (t : Tg f) : RS.ofb (.no : R α) sl f t = .no := nrfl rfl
@[simp] theorem RS.turn_nx (sl : Slots) (st : Store) (k : Slots → Store → RS) : (RS.nx sl st).turn k = k sl st := nrfl rfl
@[simp] theorem RS.turn_ct (sl : Slots) (st : Store) (k : Slots → Store → RS) : (RS.ct sl st).turn k = k sl st := nrfl rfl
@[simp] theorem RS.turn_bk (sl : Slots) (st : Store) (k : Slots → Store → RS) : (RS.bk sl st).turn k = .nx sl st := nrfl rfl
@[simp] theorem RS.turn_rt (d : D) (st : Store) (k : Slots → Store → RS) : (RS.rt d st).turn k = .rt d st := nrfl rfl
@[simp] theorem RS.turn_no (k : Slots → Store → RS) : RS.no.turn k = .no := nrfl rfl
@[simp] theorem RS.turn_exc (x : Exn) (sl : Slots) (st : Store) (k : Slots → Store → RS) : (RS.exc x sl st).turn k = .exc x sl st := nrfl rfl
@[simp] theorem RS.out_rt (d : D) (st : Store) : (RS.rt d st).out = .ok d st := nrfl rfl
@[simp] theorem RS.out_nx (sl : Slots) (st : Store) : (RS.nx sl st).out = .ok .non st := nrfl rfl
@[simp] theorem RS.out_exc (x : Exn) (sl : Slots) (st : Store) : (RS.exc x sl st).out = .exc x st := nrfl rfl
@[simp] theorem Hold.free_ok (st : Store) : Hold.free.ok st = True := propext Iff.rfl
@[simp] theorem Hold.live_ok (n : Nat) (c : D) (st : Store) : (Hold.live n c).ok st = (st[n]? = some c) := propext Iff.rfl
@[simp] theorem Hold.both_ok (a b : Hold) (st : Store) : (Hold.both a b).ok st = (a.ok st ∧ b.ok st) := propext Iff.rfl

section
variable {C : Cf} {σ : Slots} {st : Store}
noncomputable def lcBody (C : Cf) (σ : Slots) (own : List Nat) (g : IG) (cond elt : IE) (d : D) (st : Store) : R (Option D) := match setG g d (wipeS σ own) with
        | some σ1 => ((evX C σ1 cond).t st).bind fun b st2 => if b = true then ((evX C σ1 elt).v st2).bind fun y st3 => .ok (some y) st3 else .ok none st2
        | none => .no
/-- a turn of a comprehension -/
theorem lcBody_of {own : List Nat} {g : IG} {cond elt : IE} {d : D} {σ1 : Slots} (h : setG g d (wipeS σ own) = some σ1) : lcBody C σ own g cond elt d st = ((evX C σ1 cond).t st).bnd fun b st2 => if b = true then ((evX C σ1 elt).v st2).bnd fun y st3 => .ok (some y) st3 else .ok none st2 := by
  unfold lcBody; rw [h]; rfl
noncomputable def whC (C : Cf) (c : IE) (sl : Slots) (st : Store) : R Bool := (evX C sl c).t st

@[simp] theorem Ev.of_v (v : Store → R D) : (Ev.of v).v st = v st := nrfl rfl
@[simp] theorem Ev.of_t (v : Store → R D) : (Ev.of v).t st = (v st).bind fun x st1 => R.of (truthD st1 x) st1 := nrfl rfl
@[simp] theorem ev_var {i : Nat} : (evX C σ (.var i)).v st = match σ[i]? with | some (some d) => .ok d st | _ => .no := by simp only [evX] <;> rfl
@[simp] theorem ev_con {d : D} : (evX C σ (.con d)).v st = .ok d st := by simp only [evX] <;> rfl
@[simp] theorem ev_gl {x : String} : (evX C σ (.gl x)).v st = R.of (C.con x) st := by simp only [evX] <;> rfl
@[simp] theorem ev_bin {c : Bool} {op : Operator} {a b : IE} : (evX C σ (.bin c op a b)).v st = ((evX C σ a).v st).bnd fun x st1 => ((evX C σ b).v st1).bnd fun y st2 => match binV op (view st2 x) (view st2 y) with | some d => newR c d st2 | none => .no := by simp only [evX] <;> rfl
@[simp] theorem ev_neg {a : IE} : (evX C σ (.neg a)).v st = ((evX C σ a).v st).bnd fun x st1 => match x with | .int i => .ok (.int (-i)) st1 | _ => .no := by simp only [evX] <;> rfl
@[simp] theorem ev_notE {a : IE} : (evX C σ (.notE a)).v st = ((evX C σ a).v st).bnd fun x st1 => match truthD st1 x with | some b => .ok (.bl (!b)) st1 | none => .no := by simp only [evX] <;> rfl
@[simp] theorem evt_notE {a : IE} : (evX C σ (.notE a)).t st = ((evX C σ a).t st).bnd fun b st1 => .ok (!b) st1 := by simp only [evX] <;> rfl
@[simp] theorem ev_cmp {op : CmpOp} {a b : IE} : (evX C σ (.cmp op a b)).v st = ((evX C σ a).v st).bnd fun x st1 => ((evX C σ b).v st1).bnd fun y st2 => match cmpV st2 op x y with | some r => .ok (.bl r) st2 | none => .no := by simp only [evX] <;> rfl
@[simp] theorem ev_and {a b : IE} : (evX C σ (.and a b)).v st = ((evX C σ a).v st).bnd fun x st1 => match truthD st1 x with | some true => (evX C σ b).v st1 | some false => .ok x st1 | none => .no := by simp only [evX] <;> rfl
@[simp] theorem evt_and {a b : IE} : (evX C σ (.and a b)).t st = ((evX C σ a).t st).bnd fun x st1 => if x = true then (evX C σ b).t st1 else .ok false st1 := by simp only [evX] <;> rfl
@[simp] theorem ev_or {a b : IE} : (evX C σ (.or a b)).v st = ((evX C σ a).v st).bnd fun x st1 => match truthD st1 x with | some true => .ok x st1 | some false => (evX C σ b).v st1 | none => .no := by simp only [evX] <;> rfl
@[simp] theorem evt_or {a b : IE} : (evX C σ (.or a b)).t st = ((evX C σ a).t st).bnd fun x st1 => if x = true then .ok true st1 else (evX C σ b).t st1 := by simp only [evX] <;> rfl
@[simp] theorem ev_ite {c a b : IE} : (evX C σ (.ite c a b)).v st = ((evX C σ c).t st).bnd fun x st1 => if x = true then (evX C σ a).v st1 else (evX C σ b).v st1 := by simp only [evX] <;> rfl
@[simp] theorem ev_tup {es : IEs} : (evX C σ (.tup es)).v st = (evEs C σ es st).bnd fun xs st1 => if xs.length ≤ sizeLine then .ok (.tup xs) st1 else .no := by simp only [evX] <;> rfl
@[simp] theorem ev_lst {c : Bool} {es : IEs} : (evX C σ (.lst c es)).v st = (evEs C σ es st).bnd fun xs st1 => if xs.length ≤ sizeLine then alloc c (.lst xs) st1 else .no := by simp only [evX] <;> rfl
@[simp] theorem ev_dic {c : Bool} : (evX C σ (.dic c .nil .nil)).v st = alloc c (.dk []) st := by simp only [evX] <;> rfl
@[simp] theorem ev_idx {a i : IE} : (evX C σ (.idx a i)).v st = ((evX C σ a).v st).bnd fun x st1 => ((evX C σ i).v st1).bnd fun y st2 => R.of (idxV (view st2 x) y) st2 := by simp only [evX] <;> rfl
@[simp] theorem ev_slc {c : Bool} {a lo hi : IE} : (evX C σ (.slc c a lo hi)).v st = ((evX C σ a).v st).bnd fun x st1 => (partR lo (evX C σ lo).v st1).bnd fun l st2 => (partR hi (evX C σ hi).v st2).bnd fun h st3 => match slcV (view st3 x) l h with | some d => newR c d st3 | none => .no := by simp only [evX] <;> rfl
@[simp] theorem ev_fld {a : IE} {f : String} : (evX C σ (.fld a f)).v st = ((evX C σ a).v st).bnd fun x st1 => R.of (fldV (view st1 x) f) st1 := by simp only [evX] <;> rfl
@[simp] theorem ev_callS {f : String} {es : IEs} : (evX C σ (.call true f es)).v st = if C.has "" f = true then (evEs C σ es st).bnd fun xs st1 => shut st1 (C.call "" f xs st1) else .no := by simp only [evX, if_true] <;> rfl
@[simp] theorem ev_call {f : String} {es : IEs} : (evX C σ (.call false f es)).v st = if C.has "" f = true then (evEs C σ es st).bnd fun xs st1 => C.call "" f xs st1 else .no := by simp only [evX] <;> rfl
def makeR (C : Cf) (c : String) (xs : List D) (st1 : Store) : R D := (C.call c "__init__" (.ref st1.length :: xs) (st1 ++ [.obj c []])).bind fun v st2 => match v with | .non => .ok (.ref st1.length) st2 | _ => .no
@[simp] theorem ev_makeS {f : String} {es : IEs} : (evX C σ (.make true f es)).v st = if C.has f "__init__" = true then (evEs C σ es st).bnd fun xs st1 => shut st1 (makeR C f xs st1) else .no := by
  simp only [evX, if_true]
  show (if ¬ _ then _ else _) = _
  rw [ite_not]; rfl
@[simp] theorem ev_make {f : String} {es : IEs} : (evX C σ (.make false f es)).v st = if C.has f "__init__" = true then (evEs C σ es st).bnd fun xs st1 => makeR C f xs st1 else .no := by
  simp only [evX]
  show (if ¬ _ then _ else _) = _
  rw [ite_not]; rfl
@[simp] theorem ev_meth {s : Bool} {a : IE} {m : String} {es : IEs} : (evX C σ (.meth s a m es)).v st = ((evX C σ a).v st).bnd fun x st1 => match view st1 x with
      | .obj c fs => if (fs.lookup m).isSome = true ∨ ¬ C.has c m = true then .no else (evEs C σ es st1).bnd fun xs st2 => if s = true then shut st2 (C.call c m (x :: xs) st2) else C.call c m (x :: xs) st2
      | _ => .no := by simp only [evX] <;> rfl
@[simp] theorem ev_blt {c : Bool} {f : String} {es : IEs} : (evX C σ (.blt c f es)).v st = (evEs C σ es st).bnd fun xs st1 => match bltV st1 f xs with | some d => newR c d st1 | none => .no := by simp only [evX] <;> rfl
@[simp] theorem ev_bty {n : String} : (evX C σ (.bty n)).v st = .ok (.ty n) st := by simp only [evX] <;> rfl
@[simp] theorem ev_isi {es : IEs} : (evX C σ (.isi es)).v st = (evEs C σ es st).bnd fun xs st1 => match isiV C.kit st1 xs with | some b => .ok (.bl b) st1 | none => .no := by simp only [evX] <;> rfl
@[simp] theorem ev_bm {c : Bool} {m : String} {a : IE} {es : IEs} : (evX C σ (.bm c m a es)).v st = ((evX C σ a).v st).bnd fun x st1 => if ¬ bmOk (tyOf (kd (view st1 x))) m = true then .no else (evEs C σ es st1).bnd fun xs st2 => if ¬ kd (view st1 x) = kd (view st2 x) then .no else bmR m c x st2 (bmV st2 m x xs) := by simp only [evX] <;> rfl
@[simp] theorem ev_lc {c : Bool} {own : List Nat} {g : IG} {it : II} {cond elt : IE} : (evX C σ (.lc c own g it cond elt)).v st = (evI C σ it st).bnd fun p st1 => (lcLoop (lcBody C σ own g cond elt) p.2 p.1 st1).bnd fun ys st2 => if ys.length ≤ sizeLine then alloc c (.lst ys) st2 else .no := by simp only [evX] <;> rfl
@[simp] theorem ev_fstr {es : IEs} : (evX C σ (.fstr es)).v st = (evJ C σ es Str.empty st).bnd fun x st1 => .ok (.str x) st1 := by simp only [evX] <;> rfl
theorem evt_of {e : IE} (h : evX C σ e = Ev.of (evX C σ e).v) : (evX C σ e).t st = ((evX C σ e).v st).bind fun x st1 => R.of (truthD st1 x) st1 := by rw [h]; rfl
@[simp] theorem evt_var {i : Nat} : (evX C σ (.var i)).t st = ((evX C σ (.var i)).v st).bnd fun x st1 => R.of (truthD st1 x) st1 := by simp only [evX] <;> rfl
@[simp] theorem evt_con {d : D} : (evX C σ (.con d)).t st = R.of (truthD st d) st := by simp only [evX] <;> rfl
@[simp] theorem evt_cmp {op : CmpOp} {a b : IE} : (evX C σ (.cmp op a b)).t st = ((evX C σ a).v st).bnd fun x st1 => ((evX C σ b).v st1).bnd fun y st2 => match cmpV st2 op x y with | some r => .ok r st2 | none => .no := by
  simp only [evX]
  show (R.bind _ _) = R.bind _ fun x st1 => R.bind _ _
  simp only [Ev.of_v]
  cases (evX C σ a).v st with
  | ok x st1 =>
    simp only [R.bind_ok]
    cases (evX C σ b).v st1 with
    | ok y st2 => simp only [R.bind_ok]; cases cmpV st2 op x y <;> rfl
    | exc x st => rfl
    | no => rfl
  | exc x st => rfl
  | no => rfl
@[simp] theorem evt_callS {f : String} {es : IEs} : (evX C σ (.call true f es)).t st = ((evX C σ (.call true f es)).v st).bnd fun x st1 => R.of (truthD st1 x) st1 := by simp only [evX] <;> rfl
@[simp] theorem evt_blt {c : Bool} {f : String} {es : IEs} : (evX C σ (.blt c f es)).t st = ((evX C σ (.blt c f es)).v st).bnd fun x st1 => R.of (truthD st1 x) st1 := by simp only [evX] <;> rfl
@[simp] theorem evt_isi {es : IEs} : (evX C σ (.isi es)).t st = ((evX C σ (.isi es)).v st).bnd fun x st1 => R.of (truthD st1 x) st1 := by simp only [evX] <;> rfl
@[simp] theorem evt_ite {c a b : IE} : (evX C σ (.ite c a b)).t st = ((evX C σ (.ite c a b)).v st).bnd fun x st1 => R.of (truthD st1 x) st1 := by simp only [evX] <;> rfl
@[simp] theorem ev_nil : evEs C σ .nil st = .ok [] st := by simp only [evEs] <;> rfl
@[simp] theorem ev_cons {e : IE} {es : IEs} : evEs C σ (.cons e es) st = ((evX C σ e).v st).bnd fun x st1 => (evEs C σ es st1).bnd fun xs st2 => .ok (x :: xs) st2 := by simp only [evEs] <;> rfl
@[simp] theorem ev_Jnil {acc : Str} : evJ C σ .nil acc st = .ok acc st := by simp only [evJ] <;> rfl
@[simp] theorem ev_Jcons {e : IE} {es : IEs} {acc : Str} : evJ C σ (.cons e es) acc st = ((evX C σ e).v st).bnd fun x st1 => match x with | .str y => if (acc ++ y).length ≤ sizeLine then evJ C σ es (acc ++ y) st1 else .no | _ => .no := by simp only [evJ] <;> rfl
@[simp] theorem ev_seq {e : IE} : evI C σ (.seq e) st = ((evX C σ e).v st).bnd fun x st1 => R.of (seqI x st1) st1 := by simp only [evI] <;> rfl
@[simp] theorem ev_rng1 {e : IE} : evI C σ (.rng1 e) st = ((evX C σ e).v st).bnd fun x st1 => R.of ((rng1Of x).map fun r => (r, .free)) st1 := by simp only [evI] <;> rfl
@[simp] theorem ev_rng2 {a b : IE} : evI C σ (.rng2 a b) st = ((evX C σ a).v st).bnd fun x st1 => ((evX C σ b).v st1).bnd fun y st2 => R.of ((rng2Of x y).map fun r => (r, .free)) st2 := by simp only [evI] <;> rfl
@[simp] theorem ev_strI {e : IE} : evI C σ (.str e) st = ((evX C σ e).v st).bnd fun x st1 => match x with | .str t => .ok (signsOf t, .free) st1 | _ => .no := by simp only [evI] <;> rfl
@[simp] theorem ev_zip {a b : IE} : evI C σ (.zip a b) st = ((evX C σ a).v st).bnd fun x st1 => ((evX C σ b).v st1).bnd fun y st2 => R.of (zipI x y st2) st2 := by simp only [evI] <;> rfl
end
section
variable {C : Cf} {sl : Slots} {st : Store}
@[simp] theorem es_nil : evSs C .nil sl st = .nx sl st := by simp only [evSs] <;> rfl
@[simp] theorem es_cons {s : IS} {ss : ISs} : evSs C (.cons s ss) sl st = (evS C s sl st).seq (evSs C ss) := by simp only [evSs] <;> rfl
@[simp] theorem es_tgt {g : IG} {e : IE} : evS C (.tgt g e) sl st = RS.ofb ((evX C sl e).v st) sl fun d st1 => match setG g d sl with | some sl1 => .nx sl1 st1 | none => .no := by simp only [evS] <;> rfl
@[simp] theorem es_par {i j : Nat} {a b : IE} : evS C (.par i j a b) sl st = RS.ofb ((evX C sl a).v st) sl fun x st1 => RS.ofb ((evX C sl b).v st1) sl fun y st2 => .nx ((sl.set i (some x)).set j (some y)) st2 := by simp only [evS] <;> rfl
@[simp] theorem es_sub {o i v : IE} : evS C (.sub o i v) sl st = RS.ofb ((evX C sl v).v st) sl fun z st1 => RS.ofb ((evX C sl o).v st1) sl fun x st2 => RS.ofb ((evX C sl i).v st2) sl fun y st3 => match stoV st3 x y z with | some st4 => .nx sl st4 | none => .no := by simp only [evS] <;> rfl
@[simp] theorem es_fst {o v : IE} {f : String} : evS C (.fst o f v) sl st = RS.ofb ((evX C sl v).v st) sl fun z st1 => RS.ofb ((evX C sl o).v st1) sl fun x st2 => match fldS st2 x f z with | some st3 => .nx sl st3 | none => .no := by simp only [evS] <;> rfl
@[simp] theorem es_aug {i : Nat} {op : Operator} {e : IE} : evS C (.aug i op e) sl st = match sl[i]? with
      | some (some x) => RS.ofb ((evX C sl e).v st) sl fun y st1 => match ipV op x y with | some z => .nx (sl.set i (some z)) st1 | none => .no
      | _ => .no := by simp only [evS] <;> rfl
@[simp] theorem es_augS {o i e : IE} {op : Operator} : evS C (.augS o i op e) sl st = RS.ofb ((evX C sl o).v st) sl fun x st1 => RS.ofb ((evX C sl i).v st1) sl fun y st2 => match idxS (view st2 x) y with
      | some u => RS.ofb ((evX C sl e).v st2) sl fun w st3 => match ipV op u w with | some z => (match stoV st3 x y z with | some st4 => .nx sl st4 | none => .no) | none => .no
      | none => .no := by simp only [evS] <;> rfl
@[simp] theorem es_ex {e : IE} : evS C (.ex e) sl st = RS.ofb ((evX C sl e).v st) sl fun _ st1 => .nx sl st1 := by simp only [evS] <;> rfl
@[simp] theorem es_ret {e : IE} : evS C (.ret e) sl st = RS.ofb ((evX C sl e).v st) sl fun d st1 => .rt d st1 := by simp only [evS] <;> rfl
@[simp] theorem es_retN : evS C .retN sl st = .rt .non st := by simp only [evS] <;> rfl
@[simp] theorem es_ife {c : IE} {a b : ISs} : evS C (.ife c a b) sl st = RS.ofb ((evX C sl c).t st) sl fun x st1 => if x = true then evSs C a sl st1 else evSs C b sl st1 := by simp only [evS] <;> rfl
@[simp] theorem es_for {g : IG} {it : II} {body : ISs} : evS C (.for_ g it body) sl st = RS.ofb (evI C sl it st) sl fun p st1 => forL (evSs C body) g p.2 p.1 sl st1 := by simp only [evS] <;> rfl
@[simp] theorem es_whl {c : IE} {body : ISs} : evS C (.whl c body) sl st = whlL (whC C c) (evSs C body) C.L sl st := by simp only [evS] <;> rfl
@[simp] theorem es_brk : evS C .brk sl st = .bk sl st := by simp only [evS] <;> rfl
@[simp] theorem es_cnt : evS C .cnt sl st = .ct sl st := by simp only [evS] <;> rfl
@[simp] theorem es_pas : evS C .pas sl st = .nx sl st := by simp only [evS] <;> rfl
@[simp] theorem setG_nm {i : Nat} {d : D} {σ : Slots} : setG (.nm i) d σ = if i < σ.length then some (σ.set i (some d)) else none := by simp only [setG]
@[simp] theorem setG_tp {gs : IGs} {ds : List D} {σ : Slots} : setG (.tp gs) (.tup ds) σ = setGs gs ds σ := by simp only [setG]
@[simp] theorem setGs_nil {σ : Slots} : setGs .nil [] σ = some σ := by simp only [setGs]
@[simp] theorem setGs_cons {g : IG} {gs : IGs} {d : D} {ds : List D} {σ : Slots} : setGs (.cons g gs) (d :: ds) σ = match setG g d σ with | some σ1 => setGs gs ds σ1 | none => none := by simp only [setGs] <;> rfl
@[simp] theorem forL_nil {b : Slots → Store → RS} {g : IG} {h : Hold} (h1 : h.ok st) : forL b g h [] sl st = .nx sl st := by
  simp only [forL, h1, if_true]
theorem forL_cons {b : Slots → Store → RS} {g : IG} {h : Hold} {d : D} {ds : List D} {sl1 : Slots} (h1 : h.ok st) (h2 : setG g d sl = some sl1) : forL b g h (d :: ds) sl st = (b sl1 st).turn (forL b g h ds) := by
  simp only [forL, h1, h2, if_true]
end
section
/-- without cells, shutting does nothing -/
theorem sub_nr (g : Nat → D) : ∀ {d : D}, D.nr d = true → D.sub g d = d
  | .ref _, h => by simp [D.nr] at h
  | .scr xs, h => by rw [D.sub, subs_nr g (by simpa [D.nr] using h)]
  | .ktup xs, h => by rw [D.sub, subs_nr g (by simpa [D.nr] using h)]
  | .tup xs, h => by rw [D.sub, subs_nr g (by simpa [D.nr] using h)]
  | .lst xs, h => by rw [D.sub, subs_nr g (by simpa [D.nr] using h)]
  | .dk kvs, h => by rw [D.sub, subK_nr g (by simpa [D.nr] using h)]
  | .dt kvs, h => by rw [D.sub, subT_nr g (by simpa [D.nr] using h)]
  | .obj c fs, h => by rw [D.sub, subF_nr g (by simpa [D.nr] using h)]
  | .non, _ => by simp [D.sub]
  | .bl _, _ => by simp [D.sub]
  | .int _, _ => by simp [D.sub]
  | .str _, _ => by simp [D.sub]
  | .ty _, _ => by simp [D.sub]
  | .gl _, _ => by simp [D.sub]
  | .dead, _ => by simp [D.sub]
where
  subs_nr (g : Nat → D) : ∀ {ds : List D}, D.nrs ds = true → D.subs g ds = ds
    | [], _ => rfl
    | d :: ds, h => by
      simp only [D.nrs, Bool.and_eq_true] at h
      rw [D.subs, sub_nr g h.1, subs_nr g h.2]
  subK_nr (g : Nat → D) : ∀ {ds : List (Key × D)}, D.nrK ds = true → D.subK g ds = ds
    | [], _ => rfl
    | (k, d) :: ds, h => by
      simp only [D.nrK, Bool.and_eq_true] at h
      rw [D.subK, sub_nr g h.1, subK_nr g h.2]
  subT_nr (g : Nat → D) : ∀ {ds : List (List Key × D)}, D.nrT ds = true → D.subT g ds = ds
    | [], _ => rfl
    | (k, d) :: ds, h => by
      simp only [D.nrT, Bool.and_eq_true] at h
      rw [D.subT, sub_nr g h.1, subT_nr g h.2]
  subF_nr (g : Nat → D) : ∀ {ds : List (String × D)}, D.nrF ds = true → D.subF g ds = ds
    | [], _ => rfl
    | (k, d) :: ds, h => by
      simp only [D.nrF, Bool.and_eq_true] at h
      rw [D.subF, sub_nr g h.1, subF_nr g h.2]
/-- shutting: the outer part, the inner cells -/
theorem shut_ok {st st1 ext : Store} {d : D} (hl : st1.length = st.length) (ho : OuterOk st st1) : shut st (.ok d (st1 ++ ext)) = .ok (D.sub (shutG st.length (st1 ++ ext) 6) d) st1 := by
  have h : st.length ≤ (st1 ++ ext).length ∧ OuterOk st (st1 ++ ext) := ⟨by simp; omega, fun i e hi he => ho i e hi (by rw [List.getElem?_append_left (by omega)] at he; exact he)⟩
  simp only [shut]
  rw [if_pos h, ← hl, List.take_left]
theorem OuterOk.rfl {st : Store} : OuterOk st st := fun i d _ h => .inl h
theorem OuterOk.set {st st1 : Store} (h : OuterOk st st1) {i : Nat} {c : D} (hc : D.nr c = true) : OuterOk st (st1.set i c) := fun j d hj hd => by
  by_cases e : i = j
  · subst e
    by_cases hi : i < st1.length
    · rw [List.getElem?_set_self hi] at hd; cases hd; exact .inr hc
    · rw [List.set_eq_of_length_le (by omega)] at hd; exact h i d hj hd
  · rw [List.getElem?_set_ne e] at hd; exact h j d hj hd
theorem shut_id {st : Store} {d : D} (h : D.nr d = true) : shut st (.ok d st) = .ok d st := by
  have := shut_ok (st := st) (st1 := st) (ext := []) (d := d) rfl .rfl
  rw [List.append_nil] at this
  rw [this, sub_nr _ h]
theorem shut_id' {st ext : Store} {d : D} (h : D.nr d = true) : shut st (.ok d (st ++ ext)) = .ok d st := by
  rw [shut_ok (st := st) (st1 := st) (ext := ext) (d := d) rfl .rfl, sub_nr _ h]
theorem shut_set {st : Store} {d c : D} {i : Nat} (h : D.nr d = true) (hc : D.nr c = true) : shut st (.ok d (st.set i c)) = .ok d (st.set i c) := by
  have := shut_ok (st := st) (st1 := st.set i c) (ext := []) (d := d) (by simp) (OuterOk.rfl.set hc)
  rw [List.append_nil] at this
  rw [this, sub_nr _ h]
theorem shut_set' {st ext : Store} {d c : D} {i : Nat} (h : D.nr d = true) (hc : D.nr c = true) : shut st (.ok d (st.set i c ++ ext)) = .ok d (st.set i c) := by
  rw [shut_ok (st := st) (st1 := st.set i c) (ext := ext) (d := d) (by simp) (OuterOk.rfl.set hc), sub_nr _ h]
/-- what a fresh cell holds, handed out -/
theorem shut_cell {st st1 ext : Store} {k : Nat} {c : D} (hl : st1.length = st.length) (ho : OuterOk st st1) (hk : ext[k]? = some c) (hc : D.nr c = true) : shut st (.ok (.ref (st.length + k)) (st1 ++ ext)) = .ok c st1 := by
  rw [shut_ok hl ho]
  congr 1
  have e : (st1 ++ ext)[st.length + k]? = some c := by rw [List.getElem?_append_right (by omega), hl, Nat.add_sub_cancel_left]; exact hk
  simp only [D.sub, shutG, if_neg (show ¬ st.length + k < st.length by omega), e, Option.getD_some]
  exact sub_nr _ hc
end
@[simp] theorem app_get0 {α : Type} {st : List α} {x : α} {ext : List α} : (st ++ x :: ext)[st.length]? = some x := by simp
@[simp] theorem app_get1 {α : Type} {st : List α} {x y : α} {ext : List α} : (st ++ x :: y :: ext)[st.length + 1]? = some y := by
  rw [List.getElem?_append_right (by omega), Nat.add_sub_cancel_left]; rfl
@[simp] theorem app_set0 {α : Type} {st : List α} {x z : α} {ext : List α} : (st ++ x :: ext).set st.length z = st ++ z :: ext := by
  rw [List.set_append_right _ _ (by omega), Nat.sub_self]; rfl
@[simp] theorem app_set1 {α : Type} {st : List α} {x y z : α} {ext : List α} : (st ++ x :: y :: ext).set (st.length + 1) z = st ++ x :: z :: ext := by
  rw [List.set_append_right _ _ (by omega), Nat.add_sub_cancel_left]; rfl
section
variable {T : Tb} {L : Nat} {con : String → Option D} {kit : TyK → TyK → Option Bool} {n : Nat}
@[simp] theorem cfN_has {c f : String} : (cfN T L con kit n).has c f = (T.get c f).isSome := nrfl rfl
@[simp] theorem cfN_call : (cfN T L con kit n).call = callN T L con kit n := nrfl rfl
@[simp] theorem cfN_con : (cfN T L con kit n).con = con := nrfl rfl
@[simp] theorem cfN_kit : (cfN T L con kit n).kit = kit := nrfl rfl
@[simp] theorem cfN_L : (cfN T L con kit n).L = L := nrfl rfl
/-- a call by a def's body -/
theorem callN_at {c f : String} {d : Df} (h : T.get c f = some d) {ds : List D} {st : Store} (hl : ds.length = d.np) (hn : 1 ≤ n) : ∃ m, n = m + 1 ∧
    callN T L con kit n c f ds st = (evSs (cfN T L con kit m) d.body (ds.map some ++ List.replicate (d.ns - ds.length) none) st).out := by
  obtain ⟨m, rfl⟩ : ∃ m, n = m + 1 := ⟨n - 1, by omega⟩
  exact ⟨m, rfl, callN_succ h hl⟩
end
end Fg

set_option maxHeartbeats 4000000
/-! Xir: the text's defs as IR. -/
namespace Fg
open PySem PySem.Spec PyProof.Rows L2
def i_is_name_0 : IS := (.ret (.blt false "all" (.cons (.lc false [1] (.nm 1) (.str (.var 0)) (.con (.bl true)) (.or (.cmp .In (.var 1) (.gl "LETTERS")) (.cmp .In (.var 1) (.gl "DIGITS")))) .nil)))
@[simp] theorem ei_is_name_0 {C : Cf} {sl : Slots} {st : Store} : evS C i_is_name_0 sl st = evS C (.ret (.blt false "all" (.cons (.lc false [1] (.nm 1) (.str (.var 0)) (.con (.bl true)) (.or (.cmp .In (.var 1) (.gl "LETTERS")) (.cmp .In (.var 1) (.gl "DIGITS")))) .nil))) sl st := nrfl rfl
def j_is_name_1 : ISs := (.cons (.ret (.con (.bl false))) .nil)
@[simp] theorem ej_is_name_1 {C : Cf} {sl : Slots} {st : Store} : evSs C j_is_name_1 sl st = evSs C (.cons (.ret (.con (.bl false))) .nil) sl st := nrfl rfl
def i_is_name_2 : IS := (.ife (.or (.cmp .Eq (.var 0) (.con (.str (Str.ofString "")))) (.or (.cmp .Gt (.blt false "len" (.cons (.var 0) .nil)) (.con (.int 16))) (.or (.cmp .In (.var 0) (.gl "KEYWORDS")) (.cmp .NotIn (.idx (.var 0) (.con (.int 0))) (.gl "LETTERS"))))) j_is_name_1 .nil)
@[simp] theorem ei_is_name_2 {C : Cf} {sl : Slots} {st : Store} : evS C i_is_name_2 sl st = evS C (.ife (.or (.cmp .Eq (.var 0) (.con (.str (Str.ofString "")))) (.or (.cmp .Gt (.blt false "len" (.cons (.var 0) .nil)) (.con (.int 16))) (.or (.cmp .In (.var 0) (.gl "KEYWORDS")) (.cmp .NotIn (.idx (.var 0) (.con (.int 0))) (.gl "LETTERS"))))) j_is_name_1 .nil) sl st := nrfl rfl
def d_is_name : Df := ⟨"", "is_name", 1, 2, (.cons i_is_name_2 (.cons i_is_name_0 .nil))⟩
def i_is_ref_0 : IS := (.ret (.and (.cmp .LtE (.blt false "len" (.cons (.var 1) .nil)) (.con (.int 2))) (.blt false "all" (.cons (.lc false [2] (.nm 2) (.seq (.var 1)) (.con (.bl true)) (.call true "is_name" (.cons (.var 2) .nil))) .nil))))
@[simp] theorem ei_is_ref_0 {C : Cf} {sl : Slots} {st : Store} : evS C i_is_ref_0 sl st = evS C (.ret (.and (.cmp .LtE (.blt false "len" (.cons (.var 1) .nil)) (.con (.int 2))) (.blt false "all" (.cons (.lc false [2] (.nm 2) (.seq (.var 1)) (.con (.bl true)) (.call true "is_name" (.cons (.var 2) .nil))) .nil)))) sl st := nrfl rfl
def i_is_ref_1 : IS := (.tgt (.nm 1) (.bm false "split" (.var 0) (.cons (.con (.str (Str.ofString "."))) .nil)))
@[simp] theorem ei_is_ref_1 {C : Cf} {sl : Slots} {st : Store} : evS C i_is_ref_1 sl st = evS C (.tgt (.nm 1) (.bm false "split" (.var 0) (.cons (.con (.str (Str.ofString "."))) .nil))) sl st := nrfl rfl
def d_is_ref : Df := ⟨"", "is_ref", 1, 3, (.cons i_is_ref_1 (.cons i_is_ref_0 .nil))⟩
def i_is_number_0 : IS := (.ret (.blt false "all" (.cons (.lc false [1] (.nm 1) (.str (.var 0)) (.con (.bl true)) (.cmp .In (.var 1) (.gl "DIGITS"))) .nil)))
@[simp] theorem ei_is_number_0 {C : Cf} {sl : Slots} {st : Store} : evS C i_is_number_0 sl st = evS C (.ret (.blt false "all" (.cons (.lc false [1] (.nm 1) (.str (.var 0)) (.con (.bl true)) (.cmp .In (.var 1) (.gl "DIGITS"))) .nil))) sl st := nrfl rfl
def j_is_number_1 : ISs := (.cons (.ret (.con (.bl false))) .nil)
@[simp] theorem ej_is_number_1 {C : Cf} {sl : Slots} {st : Store} : evSs C j_is_number_1 sl st = evSs C (.cons (.ret (.con (.bl false))) .nil) sl st := nrfl rfl
def i_is_number_2 : IS := (.ife (.or (.cmp .Eq (.var 0) (.con (.str (Str.ofString "")))) (.and (.cmp .Eq (.idx (.var 0) (.con (.int 0))) (.con (.str (Str.ofString "0")))) (.cmp .NotEq (.var 0) (.con (.str (Str.ofString "0")))))) j_is_number_1 .nil)
@[simp] theorem ei_is_number_2 {C : Cf} {sl : Slots} {st : Store} : evS C i_is_number_2 sl st = evS C (.ife (.or (.cmp .Eq (.var 0) (.con (.str (Str.ofString "")))) (.and (.cmp .Eq (.idx (.var 0) (.con (.int 0))) (.con (.str (Str.ofString "0")))) (.cmp .NotEq (.var 0) (.con (.str (Str.ofString "0")))))) j_is_number_1 .nil) sl st := nrfl rfl
def d_is_number : Df := ⟨"", "is_number", 1, 2, (.cons i_is_number_2 (.cons i_is_number_0 .nil))⟩
def i_fits_0 : IS := (.ret (.blt false "all" (.cons (.lc false [2, 3] (.tp (.cons (.nm 2) (.cons (.nm 3) .nil))) (.zip (.var 0) (.var 1)) (.con (.bl true)) (.call true "word_fits" (.cons (.var 2) (.cons (.var 3) .nil)))) .nil)))
@[simp] theorem ei_fits_0 {C : Cf} {sl : Slots} {st : Store} : evS C i_fits_0 sl st = evS C (.ret (.blt false "all" (.cons (.lc false [2, 3] (.tp (.cons (.nm 2) (.cons (.nm 3) .nil))) (.zip (.var 0) (.var 1)) (.con (.bl true)) (.call true "word_fits" (.cons (.var 2) (.cons (.var 3) .nil)))) .nil))) sl st := nrfl rfl
def j_fits_1 : ISs := (.cons (.ret (.con (.bl false))) .nil)
@[simp] theorem ej_fits_1 {C : Cf} {sl : Slots} {st : Store} : evSs C j_fits_1 sl st = evSs C (.cons (.ret (.con (.bl false))) .nil) sl st := nrfl rfl
def i_fits_2 : IS := (.ife (.cmp .NotEq (.blt false "len" (.cons (.var 0) .nil)) (.blt false "len" (.cons (.var 1) .nil))) j_fits_1 .nil)
@[simp] theorem ei_fits_2 {C : Cf} {sl : Slots} {st : Store} : evS C i_fits_2 sl st = evS C (.ife (.cmp .NotEq (.blt false "len" (.cons (.var 0) .nil)) (.blt false "len" (.cons (.var 1) .nil))) j_fits_1 .nil) sl st := nrfl rfl
def d_fits : Df := ⟨"", "fits", 2, 4, (.cons i_fits_2 (.cons i_fits_0 .nil))⟩
def j_word_fits_0 : ISs := (.cons (.ret (.call true "is_number" (.cons (.var 0) .nil))) .nil)
@[simp] theorem ej_word_fits_0 {C : Cf} {sl : Slots} {st : Store} : evSs C j_word_fits_0 sl st = evSs C (.cons (.ret (.call true "is_number" (.cons (.var 0) .nil))) .nil) sl st := nrfl rfl
def i_word_fits_1 : IS := (.ife (.cmp .Eq (.var 1) (.con (.str (Str.ofString "#")))) j_word_fits_0 .nil)
@[simp] theorem ei_word_fits_1 {C : Cf} {sl : Slots} {st : Store} : evS C i_word_fits_1 sl st = evS C (.ife (.cmp .Eq (.var 1) (.con (.str (Str.ofString "#")))) j_word_fits_0 .nil) sl st := nrfl rfl
def j_word_fits_2 : ISs := (.cons (.ret (.call true "is_name" (.cons (.var 0) .nil))) .nil)
@[simp] theorem ej_word_fits_2 {C : Cf} {sl : Slots} {st : Store} : evSs C j_word_fits_2 sl st = evSs C (.cons (.ret (.call true "is_name" (.cons (.var 0) .nil))) .nil) sl st := nrfl rfl
def i_word_fits_3 : IS := (.ife (.cmp .Eq (.var 1) (.con (.str (Str.ofString "N")))) j_word_fits_2 .nil)
@[simp] theorem ei_word_fits_3 {C : Cf} {sl : Slots} {st : Store} : evS C i_word_fits_3 sl st = evS C (.ife (.cmp .Eq (.var 1) (.con (.str (Str.ofString "N")))) j_word_fits_2 .nil) sl st := nrfl rfl
def j_word_fits_4 : ISs := (.cons (.ret (.call true "is_ref" (.cons (.var 0) .nil))) .nil)
@[simp] theorem ej_word_fits_4 {C : Cf} {sl : Slots} {st : Store} : evSs C j_word_fits_4 sl st = evSs C (.cons (.ret (.call true "is_ref" (.cons (.var 0) .nil))) .nil) sl st := nrfl rfl
def i_word_fits_5 : IS := (.ife (.cmp .Eq (.var 1) (.con (.str (Str.ofString "R")))) j_word_fits_4 .nil)
@[simp] theorem ei_word_fits_5 {C : Cf} {sl : Slots} {st : Store} : evS C i_word_fits_5 sl st = evS C (.ife (.cmp .Eq (.var 1) (.con (.str (Str.ofString "R")))) j_word_fits_4 .nil) sl st := nrfl rfl
def d_word_fits : Df := ⟨"", "word_fits", 2, 2, (.cons i_word_fits_5 (.cons i_word_fits_3 (.cons i_word_fits_1 (.cons (.ret (.cmp .Eq (.var 0) (.var 1))) .nil))))⟩
def i_in_port_0 : IS := (.ret (.tup (.cons (.tup (.cons (.con (.str (Str.ofString "from"))) (.cons (.idx (.var 0) (.con (.int 1))) .nil))) (.cons (.con (.int 2)) .nil))))
@[simp] theorem ei_in_port_0 {C : Cf} {sl : Slots} {st : Store} : evS C i_in_port_0 sl st = evS C (.ret (.tup (.cons (.tup (.cons (.con (.str (Str.ofString "from"))) (.cons (.idx (.var 0) (.con (.int 1))) .nil))) (.cons (.con (.int 2)) .nil)))) sl st := nrfl rfl
def i_in_port_1 : IS := (.ife (.and (.cmp .Eq (.var 1) (.con (.str (Str.ofString "R")))) (.call true "fits" (.cons (.slc false (.var 0) (.con .non) (.con (.int 2))) (.cons (.tup (.cons (.con (.str (Str.ofString "from"))) (.cons (.con (.str (Str.ofString "R"))) .nil))) .nil)))) (.cons i_in_port_0 .nil) .nil)
@[simp] theorem ei_in_port_1 {C : Cf} {sl : Slots} {st : Store} : evS C i_in_port_1 sl st = evS C (.ife (.and (.cmp .Eq (.var 1) (.con (.str (Str.ofString "R")))) (.call true "fits" (.cons (.slc false (.var 0) (.con .non) (.con (.int 2))) (.cons (.tup (.cons (.con (.str (Str.ofString "from"))) (.cons (.con (.str (Str.ofString "R"))) .nil))) .nil)))) (.cons i_in_port_0 .nil) .nil) sl st := nrfl rfl
def i_in_port_2 : IS := (.ret (.tup (.cons (.tup (.cons (.con (.str (Str.ofString "socket"))) (.cons (.idx (.var 0) (.con (.int 1))) .nil))) (.cons (.con (.int 2)) .nil))))
@[simp] theorem ei_in_port_2 {C : Cf} {sl : Slots} {st : Store} : evS C i_in_port_2 sl st = evS C (.ret (.tup (.cons (.tup (.cons (.con (.str (Str.ofString "socket"))) (.cons (.idx (.var 0) (.con (.int 1))) .nil))) (.cons (.con (.int 2)) .nil)))) sl st := nrfl rfl
def i_in_port_3 : IS := (.ife (.call true "fits" (.cons (.slc false (.var 0) (.con .non) (.con (.int 2))) (.cons (.tup (.cons (.con (.str (Str.ofString "socket"))) (.cons (.con (.str (Str.ofString "N"))) .nil))) .nil))) (.cons i_in_port_2 .nil) .nil)
@[simp] theorem ei_in_port_3 {C : Cf} {sl : Slots} {st : Store} : evS C i_in_port_3 sl st = evS C (.ife (.call true "fits" (.cons (.slc false (.var 0) (.con .non) (.con (.int 2))) (.cons (.tup (.cons (.con (.str (Str.ofString "socket"))) (.cons (.con (.str (Str.ofString "N"))) .nil))) .nil))) (.cons i_in_port_2 .nil) .nil) sl st := nrfl rfl
def i_in_port_4 : IS := (.ret (.tup (.cons (.tup (.cons (.con (.str (Str.ofString "want"))) .nil)) (.cons (.con (.int 1)) .nil))))
@[simp] theorem ei_in_port_4 {C : Cf} {sl : Slots} {st : Store} : evS C i_in_port_4 sl st = evS C (.ret (.tup (.cons (.tup (.cons (.con (.str (Str.ofString "want"))) .nil)) (.cons (.con (.int 1)) .nil)))) sl st := nrfl rfl
def i_in_port_5 : IS := (.ife (.cmp .Eq (.slc false (.var 0) (.con .non) (.con (.int 1))) (.lst false (.cons (.con (.str (Str.ofString "want"))) .nil))) (.cons i_in_port_4 .nil) .nil)
@[simp] theorem ei_in_port_5 {C : Cf} {sl : Slots} {st : Store} : evS C i_in_port_5 sl st = evS C (.ife (.cmp .Eq (.slc false (.var 0) (.con .non) (.con (.int 1))) (.lst false (.cons (.con (.str (Str.ofString "want"))) .nil))) (.cons i_in_port_4 .nil) .nil) sl st := nrfl rfl
def d_in_port : Df := ⟨"", "in_port", 2, 2, (.cons i_in_port_5 (.cons i_in_port_3 (.cons i_in_port_1 (.cons (.ret (.con .non)) .nil))))⟩
def i_out_port_0 : IS := (.ret (.tup (.cons (.tup (.cons (.con (.str (Str.ofString "by"))) (.cons (.idx (.var 0) (.con (.int 1))) .nil))) (.cons (.con (.int 2)) .nil))))
@[simp] theorem ei_out_port_0 {C : Cf} {sl : Slots} {st : Store} : evS C i_out_port_0 sl st = evS C (.ret (.tup (.cons (.tup (.cons (.con (.str (Str.ofString "by"))) (.cons (.idx (.var 0) (.con (.int 1))) .nil))) (.cons (.con (.int 2)) .nil)))) sl st := nrfl rfl
def i_out_port_1 : IS := (.ife (.and (.cmp .Eq (.var 1) (.con (.str (Str.ofString "R")))) (.call true "fits" (.cons (.slc false (.var 0) (.con .non) (.con (.int 2))) (.cons (.tup (.cons (.con (.str (Str.ofString "by"))) (.cons (.con (.str (Str.ofString "R"))) .nil))) .nil)))) (.cons i_out_port_0 .nil) .nil)
@[simp] theorem ei_out_port_1 {C : Cf} {sl : Slots} {st : Store} : evS C i_out_port_1 sl st = evS C (.ife (.and (.cmp .Eq (.var 1) (.con (.str (Str.ofString "R")))) (.call true "fits" (.cons (.slc false (.var 0) (.con .non) (.con (.int 2))) (.cons (.tup (.cons (.con (.str (Str.ofString "by"))) (.cons (.con (.str (Str.ofString "R"))) .nil))) .nil)))) (.cons i_out_port_0 .nil) .nil) sl st := nrfl rfl
def i_out_port_2 : IS := (.ret (.tup (.cons (.tup (.cons (.con (.str (Str.ofString "plug"))) (.cons (.idx (.var 0) (.con (.int 1))) .nil))) (.cons (.con (.int 2)) .nil))))
@[simp] theorem ei_out_port_2 {C : Cf} {sl : Slots} {st : Store} : evS C i_out_port_2 sl st = evS C (.ret (.tup (.cons (.tup (.cons (.con (.str (Str.ofString "plug"))) (.cons (.idx (.var 0) (.con (.int 1))) .nil))) (.cons (.con (.int 2)) .nil)))) sl st := nrfl rfl
def i_out_port_3 : IS := (.ife (.call true "fits" (.cons (.slc false (.var 0) (.con .non) (.con (.int 2))) (.cons (.tup (.cons (.con (.str (Str.ofString "plug"))) (.cons (.con (.str (Str.ofString "N"))) .nil))) .nil))) (.cons i_out_port_2 .nil) .nil)
@[simp] theorem ei_out_port_3 {C : Cf} {sl : Slots} {st : Store} : evS C i_out_port_3 sl st = evS C (.ife (.call true "fits" (.cons (.slc false (.var 0) (.con .non) (.con (.int 2))) (.cons (.tup (.cons (.con (.str (Str.ofString "plug"))) (.cons (.con (.str (Str.ofString "N"))) .nil))) .nil))) (.cons i_out_port_2 .nil) .nil) sl st := nrfl rfl
def i_out_port_4 : IS := (.ret (.tup (.cons (.tup (.cons (.con (.str (Str.ofString "seat"))) .nil)) (.cons (.con (.int 1)) .nil))))
@[simp] theorem ei_out_port_4 {C : Cf} {sl : Slots} {st : Store} : evS C i_out_port_4 sl st = evS C (.ret (.tup (.cons (.tup (.cons (.con (.str (Str.ofString "seat"))) .nil)) (.cons (.con (.int 1)) .nil)))) sl st := nrfl rfl
def i_out_port_5 : IS := (.ife (.cmp .Eq (.slc false (.var 0) (.con .non) (.con (.int 1))) (.lst false (.cons (.con (.str (Str.ofString "seat"))) .nil))) (.cons i_out_port_4 .nil) .nil)
@[simp] theorem ei_out_port_5 {C : Cf} {sl : Slots} {st : Store} : evS C i_out_port_5 sl st = evS C (.ife (.cmp .Eq (.slc false (.var 0) (.con .non) (.con (.int 1))) (.lst false (.cons (.con (.str (Str.ofString "seat"))) .nil))) (.cons i_out_port_4 .nil) .nil) sl st := nrfl rfl
def d_out_port : Df := ⟨"", "out_port", 2, 2, (.cons i_out_port_5 (.cons i_out_port_3 (.cons i_out_port_1 (.cons (.ret (.con .non)) .nil))))⟩
def i_at_row_0 : IS := (.ret (.tup (.cons (.con (.str (Str.ofString "at"))) (.cons (.var 1) (.cons (.idx (.var 0) (.con (.int 1))) (.cons (.idx (.var 3) (.con (.int 0))) (.cons (.blt false "int" (.cons (.idx (.var 4) (.con (.int 0))) .nil)) (.cons (.blt false "int" (.cons (.idx (.var 4) (.con (.int 1))) .nil)) (.cons (.idx (.var 5) (.con (.int 0))) (.cons (.blt false "int" (.cons (.idx (.var 4) (.neg (.con (.int 1)))) .nil)) .nil))))))))))
@[simp] theorem ei_at_row_0 {C : Cf} {sl : Slots} {st : Store} : evS C i_at_row_0 sl st = evS C (.ret (.tup (.cons (.con (.str (Str.ofString "at"))) (.cons (.var 1) (.cons (.idx (.var 0) (.con (.int 1))) (.cons (.idx (.var 3) (.con (.int 0))) (.cons (.blt false "int" (.cons (.idx (.var 4) (.con (.int 0))) .nil)) (.cons (.blt false "int" (.cons (.idx (.var 4) (.con (.int 1))) .nil)) (.cons (.idx (.var 5) (.con (.int 0))) (.cons (.blt false "int" (.cons (.idx (.var 4) (.neg (.con (.int 1)))) .nil)) .nil)))))))))) sl st := nrfl rfl
def j_at_row_1 : ISs := (.cons (.ret (.con .non)) .nil)
@[simp] theorem ej_at_row_1 {C : Cf} {sl : Slots} {st : Store} : evSs C j_at_row_1 sl st = evSs C (.cons (.ret (.con .non)) .nil) sl st := nrfl rfl
def i_at_row_2 : IS := (.ife (.or (.cmp .Is (.var 5) (.con .non)) (.notE (.call true "fits" (.cons (.slc false (.var 4) (.bin false .Add (.con (.int 3)) (.idx (.var 5) (.con (.int 1)))) (.con .non)) (.cons (.tup (.cons (.con (.str (Str.ofString "#"))) .nil)) .nil))))) j_at_row_1 .nil)
@[simp] theorem ei_at_row_2 {C : Cf} {sl : Slots} {st : Store} : evS C i_at_row_2 sl st = evS C (.ife (.or (.cmp .Is (.var 5) (.con .non)) (.notE (.call true "fits" (.cons (.slc false (.var 4) (.bin false .Add (.con (.int 3)) (.idx (.var 5) (.con (.int 1)))) (.con .non)) (.cons (.tup (.cons (.con (.str (Str.ofString "#"))) .nil)) .nil))))) j_at_row_1 .nil) sl st := nrfl rfl
def i_at_row_3 : IS := (.tgt (.nm 5) (.call true "out_port" (.cons (.slc false (.var 4) (.con (.int 3)) (.con .non)) (.cons (.var 2) .nil))))
@[simp] theorem ei_at_row_3 {C : Cf} {sl : Slots} {st : Store} : evS C i_at_row_3 sl st = evS C (.tgt (.nm 5) (.call true "out_port" (.cons (.slc false (.var 4) (.con (.int 3)) (.con .non)) (.cons (.var 2) .nil)))) sl st := nrfl rfl
def j_at_row_4 : ISs := (.cons (.ret (.con .non)) .nil)
@[simp] theorem ej_at_row_4 {C : Cf} {sl : Slots} {st : Store} : evSs C j_at_row_4 sl st = evSs C (.cons (.ret (.con .non)) .nil) sl st := nrfl rfl
def i_at_row_5 : IS := (.ife (.notE (.call true "fits" (.cons (.slc false (.var 4) (.con .non) (.con (.int 3))) (.cons (.tup (.cons (.con (.str (Str.ofString "#"))) (.cons (.con (.str (Str.ofString "#"))) (.cons (.con (.str (Str.ofString "to"))) .nil)))) .nil)))) j_at_row_4 .nil)
@[simp] theorem ei_at_row_5 {C : Cf} {sl : Slots} {st : Store} : evS C i_at_row_5 sl st = evS C (.ife (.notE (.call true "fits" (.cons (.slc false (.var 4) (.con .non) (.con (.int 3))) (.cons (.tup (.cons (.con (.str (Str.ofString "#"))) (.cons (.con (.str (Str.ofString "#"))) (.cons (.con (.str (Str.ofString "to"))) .nil)))) .nil)))) j_at_row_4 .nil) sl st := nrfl rfl
def i_at_row_6 : IS := (.tgt (.nm 4) (.slc false (.var 0) (.bin false .Add (.con (.int 2)) (.idx (.var 3) (.con (.int 1)))) (.con .non)))
@[simp] theorem ei_at_row_6 {C : Cf} {sl : Slots} {st : Store} : evS C i_at_row_6 sl st = evS C (.tgt (.nm 4) (.slc false (.var 0) (.bin false .Add (.con (.int 2)) (.idx (.var 3) (.con (.int 1)))) (.con .non))) sl st := nrfl rfl
def j_at_row_7 : ISs := (.cons (.ret (.con .non)) .nil)
@[simp] theorem ej_at_row_7 {C : Cf} {sl : Slots} {st : Store} : evSs C j_at_row_7 sl st = evSs C (.cons (.ret (.con .non)) .nil) sl st := nrfl rfl
def i_at_row_8 : IS := (.tgt (.nm 3) (.call true "in_port" (.cons (.slc false (.var 0) (.con (.int 2)) (.con .non)) (.cons (.var 2) .nil))))
@[simp] theorem ei_at_row_8 {C : Cf} {sl : Slots} {st : Store} : evS C i_at_row_8 sl st = evS C (.tgt (.nm 3) (.call true "in_port" (.cons (.slc false (.var 0) (.con (.int 2)) (.con .non)) (.cons (.var 2) .nil)))) sl st := nrfl rfl
def j_at_row_9 : ISs := (.cons (.ret (.con .non)) .nil)
@[simp] theorem ej_at_row_9 {C : Cf} {sl : Slots} {st : Store} : evSs C j_at_row_9 sl st = evSs C (.cons (.ret (.con .non)) .nil) sl st := nrfl rfl
def i_at_row_10 : IS := (.ife (.notE (.call true "fits" (.cons (.slc false (.var 0) (.con .non) (.con (.int 2))) (.cons (.tup (.cons (.con (.str (Str.ofString "at"))) (.cons (.var 2) .nil))) .nil)))) j_at_row_9 .nil)
@[simp] theorem ei_at_row_10 {C : Cf} {sl : Slots} {st : Store} : evS C i_at_row_10 sl st = evS C (.ife (.notE (.call true "fits" (.cons (.slc false (.var 0) (.con .non) (.con (.int 2))) (.cons (.tup (.cons (.con (.str (Str.ofString "at"))) (.cons (.var 2) .nil))) .nil)))) j_at_row_9 .nil) sl st := nrfl rfl
def d_at_row : Df := ⟨"", "at_row", 3, 6, (.cons i_at_row_10 (.cons i_at_row_8 (.cons (.ife (.cmp .Is (.var 3) (.con .non)) j_at_row_7 .nil) (.cons i_at_row_6 (.cons i_at_row_5 (.cons i_at_row_3 (.cons i_at_row_2 (.cons i_at_row_0 .nil))))))))⟩
def i_by_row_0 : IS := (.ret (.tup (.cons (.con (.str (Str.ofString "by"))) (.cons (.var 1) (.cons (.idx (.var 0) (.con (.int 1))) (.cons (.blt false "tuple" (.cons (.var 3) .nil)) (.cons (.blt false "tuple" (.cons (.var 4) .nil)) .nil)))))))
@[simp] theorem ei_by_row_0 {C : Cf} {sl : Slots} {st : Store} : evS C i_by_row_0 sl st = evS C (.ret (.tup (.cons (.con (.str (Str.ofString "by"))) (.cons (.var 1) (.cons (.idx (.var 0) (.con (.int 1))) (.cons (.blt false "tuple" (.cons (.var 3) .nil)) (.cons (.blt false "tuple" (.cons (.var 4) .nil)) .nil))))))) sl st := nrfl rfl
def j_by_row_1 : ISs := (.cons (.ret (.con .non)) .nil)
@[simp] theorem ej_by_row_1 {C : Cf} {sl : Slots} {st : Store} : evSs C j_by_row_1 sl st = evSs C (.cons (.ret (.con .non)) .nil) sl st := nrfl rfl
def i_by_row_2 : IS := (.ife (.or (.cmp .Eq (.var 3) (.lst false .nil)) (.or (.cmp .Eq (.var 4) (.lst false .nil)) (.notE (.blt false "all" (.cons (.lc false [5] (.nm 5) (.seq (.bin false .Add (.var 3) (.var 4))) (.con (.bl true)) (.call true "word_fits" (.cons (.var 5) (.cons (.con (.str (Str.ofString "R"))) .nil)))) .nil))))) j_by_row_1 .nil)
@[simp] theorem ei_by_row_2 {C : Cf} {sl : Slots} {st : Store} : evS C i_by_row_2 sl st = evS C (.ife (.or (.cmp .Eq (.var 3) (.lst false .nil)) (.or (.cmp .Eq (.var 4) (.lst false .nil)) (.notE (.blt false "all" (.cons (.lc false [5] (.nm 5) (.seq (.bin false .Add (.var 3) (.var 4))) (.con (.bl true)) (.call true "word_fits" (.cons (.var 5) (.cons (.con (.str (Str.ofString "R"))) .nil)))) .nil))))) j_by_row_1 .nil) sl st := nrfl rfl
def i_by_row_3 : IS := (.tgt (.nm 4) (.slc false (.var 0) (.bin false .Add (.var 2) (.con (.int 1))) (.con .non)))
@[simp] theorem ei_by_row_3 {C : Cf} {sl : Slots} {st : Store} : evS C i_by_row_3 sl st = evS C (.tgt (.nm 4) (.slc false (.var 0) (.bin false .Add (.var 2) (.con (.int 1))) (.con .non))) sl st := nrfl rfl
def i_by_row_4 : IS := (.tgt (.nm 3) (.slc false (.var 0) (.con (.int 2)) (.var 2)))
@[simp] theorem ei_by_row_4 {C : Cf} {sl : Slots} {st : Store} : evS C i_by_row_4 sl st = evS C (.tgt (.nm 3) (.slc false (.var 0) (.con (.int 2)) (.var 2))) sl st := nrfl rfl
def i_by_row_5 : IS := (.tgt (.nm 2) (.bm false "index" (.var 0) (.cons (.con (.str (Str.ofString "with"))) .nil)))
@[simp] theorem ei_by_row_5 {C : Cf} {sl : Slots} {st : Store} : evS C i_by_row_5 sl st = evS C (.tgt (.nm 2) (.bm false "index" (.var 0) (.cons (.con (.str (Str.ofString "with"))) .nil))) sl st := nrfl rfl
def j_by_row_6 : ISs := (.cons (.ret (.con .non)) .nil)
@[simp] theorem ej_by_row_6 {C : Cf} {sl : Slots} {st : Store} : evSs C j_by_row_6 sl st = evSs C (.cons (.ret (.con .non)) .nil) sl st := nrfl rfl
def i_by_row_7 : IS := (.ife (.or (.cmp .NotIn (.con (.str (Str.ofString "with"))) (.var 0)) (.notE (.call true "fits" (.cons (.slc false (.var 0) (.con .non) (.con (.int 2))) (.cons (.tup (.cons (.con (.str (Str.ofString "by"))) (.cons (.con (.str (Str.ofString "N"))) .nil))) .nil))))) j_by_row_6 .nil)
@[simp] theorem ei_by_row_7 {C : Cf} {sl : Slots} {st : Store} : evS C i_by_row_7 sl st = evS C (.ife (.or (.cmp .NotIn (.con (.str (Str.ofString "with"))) (.var 0)) (.notE (.call true "fits" (.cons (.slc false (.var 0) (.con .non) (.con (.int 2))) (.cons (.tup (.cons (.con (.str (Str.ofString "by"))) (.cons (.con (.str (Str.ofString "N"))) .nil))) .nil))))) j_by_row_6 .nil) sl st := nrfl rfl
def d_by_row : Df := ⟨"", "by_row", 2, 6, (.cons i_by_row_7 (.cons i_by_row_5 (.cons i_by_row_4 (.cons i_by_row_3 (.cons i_by_row_2 (.cons i_by_row_0 .nil))))))⟩
def i_proof_row_0 : IS := (.ife (.cmp .Is (.var 3) (.con .non)) (.cons (.rai "" .nil) .nil) .nil)
@[simp] theorem ei_proof_row_0 {C : Cf} {sl : Slots} {st : Store} : evS C i_proof_row_0 sl st = evS C (.ife (.cmp .Is (.var 3) (.con .non)) (.cons (.rai "" .nil) .nil) .nil) sl st := nrfl rfl
def i_proof_row_1 : IS := (.tgt (.nm 3) (.tup (.cons (.con (.str (Str.ofString "search"))) (.cons (.var 1) .nil))))
@[simp] theorem ei_proof_row_1 {C : Cf} {sl : Slots} {st : Store} : evS C i_proof_row_1 sl st = evS C (.tgt (.nm 3) (.tup (.cons (.con (.str (Str.ofString "search"))) (.cons (.var 1) .nil)))) sl st := nrfl rfl
def i_proof_row_2 : IS := (.tgt (.nm 3) (.tup (.cons (.con (.str (Str.ofString "rest"))) (.cons (.var 1) .nil))))
@[simp] theorem ei_proof_row_2 {C : Cf} {sl : Slots} {st : Store} : evS C i_proof_row_2 sl st = evS C (.tgt (.nm 3) (.tup (.cons (.con (.str (Str.ofString "rest"))) (.cons (.var 1) .nil)))) sl st := nrfl rfl
def i_proof_row_3 : IS := (.tgt (.nm 3) (.tup (.cons (.con (.str (Str.ofString "lanes"))) (.cons (.var 1) (.cons (.idx (.var 0) (.con (.int 1))) (.cons (.ite (.cmp .Eq (.idx (.var 0) (.con (.int 2))) (.con (.str (Str.ofString "?")))) (.con .non) (.blt false "int" (.cons (.idx (.var 0) (.con (.int 2))) .nil))) .nil))))))
@[simp] theorem ei_proof_row_3 {C : Cf} {sl : Slots} {st : Store} : evS C i_proof_row_3 sl st = evS C (.tgt (.nm 3) (.tup (.cons (.con (.str (Str.ofString "lanes"))) (.cons (.var 1) (.cons (.idx (.var 0) (.con (.int 1))) (.cons (.ite (.cmp .Eq (.idx (.var 0) (.con (.int 2))) (.con (.str (Str.ofString "?")))) (.con .non) (.blt false "int" (.cons (.idx (.var 0) (.con (.int 2))) .nil))) .nil)))))) sl st := nrfl rfl
def i_proof_row_4 : IS := (.ife (.or (.cmp .Eq (.idx (.var 0) (.con (.int 2))) (.con (.str (Str.ofString "?")))) (.call true "is_number" (.cons (.idx (.var 0) (.con (.int 2))) .nil))) (.cons i_proof_row_3 .nil) .nil)
@[simp] theorem ei_proof_row_4 {C : Cf} {sl : Slots} {st : Store} : evS C i_proof_row_4 sl st = evS C (.ife (.or (.cmp .Eq (.idx (.var 0) (.con (.int 2))) (.con (.str (Str.ofString "?")))) (.call true "is_number" (.cons (.idx (.var 0) (.con (.int 2))) .nil))) (.cons i_proof_row_3 .nil) .nil) sl st := nrfl rfl
def i_proof_row_5 : IS := (.tgt (.nm 3) (.call true "at_row" (.cons (.var 0) (.cons (.var 1) (.cons (.var 2) .nil)))))
@[simp] theorem ei_proof_row_5 {C : Cf} {sl : Slots} {st : Store} : evS C i_proof_row_5 sl st = evS C (.tgt (.nm 3) (.call true "at_row" (.cons (.var 0) (.cons (.var 1) (.cons (.var 2) .nil))))) sl st := nrfl rfl
def i_proof_row_6 : IS := (.tgt (.nm 3) (.call true "by_row" (.cons (.var 0) (.cons (.var 1) .nil))))
@[simp] theorem ei_proof_row_6 {C : Cf} {sl : Slots} {st : Store} : evS C i_proof_row_6 sl st = evS C (.tgt (.nm 3) (.call true "by_row" (.cons (.var 0) (.cons (.var 1) .nil)))) sl st := nrfl rfl
def i_proof_row_7 : IS := (.ife (.and (.cmp .Eq (.idx (.var 0) (.con (.int 0))) (.con (.str (Str.ofString "by")))) (.cmp .Eq (.var 2) (.con (.str (Str.ofString "R"))))) (.cons i_proof_row_6 .nil) .nil)
@[simp] theorem ei_proof_row_7 {C : Cf} {sl : Slots} {st : Store} : evS C i_proof_row_7 sl st = evS C (.ife (.and (.cmp .Eq (.idx (.var 0) (.con (.int 0))) (.con (.str (Str.ofString "by")))) (.cmp .Eq (.var 2) (.con (.str (Str.ofString "R"))))) (.cons i_proof_row_6 .nil) .nil) sl st := nrfl rfl
def i_proof_row_8 : IS := (.ife (.cmp .Eq (.idx (.var 0) (.con (.int 0))) (.con (.str (Str.ofString "at")))) (.cons i_proof_row_5 .nil) (.cons i_proof_row_7 .nil))
@[simp] theorem ei_proof_row_8 {C : Cf} {sl : Slots} {st : Store} : evS C i_proof_row_8 sl st = evS C (.ife (.cmp .Eq (.idx (.var 0) (.con (.int 0))) (.con (.str (Str.ofString "at")))) (.cons i_proof_row_5 .nil) (.cons i_proof_row_7 .nil)) sl st := nrfl rfl
def i_proof_row_9 : IS := (.ife (.and (.call true "fits" (.cons (.slc false (.var 0) (.con .non) (.con (.int 2))) (.cons (.tup (.cons (.con (.str (Str.ofString "lanes"))) (.cons (.var 2) .nil))) .nil))) (.cmp .Eq (.blt false "len" (.cons (.var 0) .nil)) (.con (.int 3)))) (.cons i_proof_row_4 .nil) (.cons i_proof_row_8 .nil))
@[simp] theorem ei_proof_row_9 {C : Cf} {sl : Slots} {st : Store} : evS C i_proof_row_9 sl st = evS C (.ife (.and (.call true "fits" (.cons (.slc false (.var 0) (.con .non) (.con (.int 2))) (.cons (.tup (.cons (.con (.str (Str.ofString "lanes"))) (.cons (.var 2) .nil))) .nil))) (.cmp .Eq (.blt false "len" (.cons (.var 0) .nil)) (.con (.int 3)))) (.cons i_proof_row_4 .nil) (.cons i_proof_row_8 .nil)) sl st := nrfl rfl
def i_proof_row_10 : IS := (.ife (.cmp .Eq (.var 0) (.lst false (.cons (.con (.str (Str.ofString "rest"))) .nil))) (.cons i_proof_row_2 .nil) (.cons i_proof_row_9 .nil))
@[simp] theorem ei_proof_row_10 {C : Cf} {sl : Slots} {st : Store} : evS C i_proof_row_10 sl st = evS C (.ife (.cmp .Eq (.var 0) (.lst false (.cons (.con (.str (Str.ofString "rest"))) .nil))) (.cons i_proof_row_2 .nil) (.cons i_proof_row_9 .nil)) sl st := nrfl rfl
def i_proof_row_11 : IS := (.ife (.cmp .Eq (.var 0) (.lst false (.cons (.con (.str (Str.ofString "search"))) .nil))) (.cons i_proof_row_1 .nil) (.cons i_proof_row_10 .nil))
@[simp] theorem ei_proof_row_11 {C : Cf} {sl : Slots} {st : Store} : evS C i_proof_row_11 sl st = evS C (.ife (.cmp .Eq (.var 0) (.lst false (.cons (.con (.str (Str.ofString "search"))) .nil))) (.cons i_proof_row_1 .nil) (.cons i_proof_row_10 .nil)) sl st := nrfl rfl
def d_proof_row : Df := ⟨"", "proof_row", 3, 4, (.cons (.tgt (.nm 3) (.con .non)) (.cons i_proof_row_11 (.cons i_proof_row_0 (.cons (.ret (.var 3)) .nil))))⟩
def j_proof_body_0 : ISs := (.cons (.tgt (.nm 5) (.con (.bl true))) .nil)
@[simp] theorem ej_proof_body_0 {C : Cf} {sl : Slots} {st : Store} : evSs C j_proof_body_0 sl st = evSs C (.cons (.tgt (.nm 5) (.con (.bl true))) .nil) sl st := nrfl rfl
def i_proof_body_1 : IS := (.ife (.cmp .Eq (.idx (.var 6) (.con (.int 0))) (.con (.str (Str.ofString "rest")))) j_proof_body_0 .nil)
@[simp] theorem ei_proof_body_1 {C : Cf} {sl : Slots} {st : Store} : evS C i_proof_body_1 sl st = evS C (.ife (.cmp .Eq (.idx (.var 6) (.con (.int 0))) (.con (.str (Str.ofString "rest")))) j_proof_body_0 .nil) sl st := nrfl rfl
def i_proof_body_2 : IS := (.ife (.cmp .Gt (.blt false "len" (.cons (.var 4) .nil)) (.con (.int 0))) (.cons (.rai "" .nil) .nil) .nil)
@[simp] theorem ei_proof_body_2 {C : Cf} {sl : Slots} {st : Store} : evS C i_proof_body_2 sl st = evS C (.ife (.cmp .Gt (.blt false "len" (.cons (.var 4) .nil)) (.con (.int 0))) (.cons (.rai "" .nil) .nil) .nil) sl st := nrfl rfl
def j_proof_body_3 : ISs := (.cons i_proof_body_2 (.cons (.tgt (.nm 5) (.con (.bl true))) .nil))
@[simp] theorem ej_proof_body_3 {C : Cf} {sl : Slots} {st : Store} : evSs C j_proof_body_3 sl st = evSs C (.cons i_proof_body_2 (.cons (.tgt (.nm 5) (.con (.bl true))) .nil)) sl st := nrfl rfl
def i_proof_body_4 : IS := (.ife (.cmp .In (.idx (.var 6) (.con (.int 0))) (.tup (.cons (.con (.str (Str.ofString "search"))) (.cons (.con (.str (Str.ofString "by"))) .nil)))) j_proof_body_3 .nil)
@[simp] theorem ei_proof_body_4 {C : Cf} {sl : Slots} {st : Store} : evS C i_proof_body_4 sl st = evS C (.ife (.cmp .In (.idx (.var 6) (.con (.int 0))) (.tup (.cons (.con (.str (Str.ofString "search"))) (.cons (.con (.str (Str.ofString "by"))) .nil)))) j_proof_body_3 .nil) sl st := nrfl rfl
def i_proof_body_5 : IS := (.tgt (.nm 6) (.call true "proof_row" (.cons (.idx (.var 0) (.var 1)) (.cons (.bin false .Add (.var 1) (.con (.int 1))) (.cons (.var 3) .nil)))))
@[simp] theorem ei_proof_body_5 {C : Cf} {sl : Slots} {st : Store} : evS C i_proof_body_5 sl st = evS C (.tgt (.nm 6) (.call true "proof_row" (.cons (.idx (.var 0) (.var 1)) (.cons (.bin false .Add (.var 1) (.con (.int 1))) (.cons (.var 3) .nil))))) sl st := nrfl rfl
def i_proof_body_6 : IS := (.ret (.tup (.cons (.blt false "tuple" (.cons (.var 4) .nil)) (.cons (.bin false .Add (.var 1) (.con (.int 1))) .nil))))
@[simp] theorem ei_proof_body_6 {C : Cf} {sl : Slots} {st : Store} : evS C i_proof_body_6 sl st = evS C (.ret (.tup (.cons (.blt false "tuple" (.cons (.var 4) .nil)) (.cons (.bin false .Add (.var 1) (.con (.int 1))) .nil)))) sl st := nrfl rfl
def i_proof_body_7 : IS := (.ife (.cmp .Eq (.idx (.var 0) (.var 1)) (.lst false (.cons (.con (.str (Str.ofString "end"))) (.cons (.var 2) .nil)))) (.cons i_proof_body_6 .nil) .nil)
@[simp] theorem ei_proof_body_7 {C : Cf} {sl : Slots} {st : Store} : evS C i_proof_body_7 sl st = evS C (.ife (.cmp .Eq (.idx (.var 0) (.var 1)) (.lst false (.cons (.con (.str (Str.ofString "end"))) (.cons (.var 2) .nil)))) (.cons i_proof_body_6 .nil) .nil) sl st := nrfl rfl
def wc_proof_body_0 : IE := (.cmp .Lt (.var 1) (.blt false "len" (.cons (.var 0) .nil)))
def wb_proof_body_0 : ISs := (.cons i_proof_body_7 (.cons (.ife (.var 5) (.cons (.rai "" .nil) .nil) .nil) (.cons i_proof_body_5 (.cons i_proof_body_4 (.cons i_proof_body_1 (.cons (.ex (.bm false "append" (.var 4) (.cons (.var 6) .nil))) (.cons (.aug 1 .Add (.con (.int 1))) .nil)))))))
def d_proof_body : Df := ⟨"", "proof_body", 4, 7, (.cons (.tgt (.nm 4) (.lst true .nil)) (.cons (.tgt (.nm 5) (.con (.bl false))) (.cons (.whl wc_proof_body_0 wb_proof_body_0) (.cons (.rai "" .nil) .nil))))⟩
def i_kind_block_0 : IS := (.ret (.tup (.cons (.tup (.cons (.con (.str (Str.ofString "kind"))) (.cons (.var 4) (.cons (.idx (.var 3) (.con (.int 1))) (.cons (.blt false "tuple" (.cons (.var 5) .nil)) .nil))))) (.cons (.bin false .Add (.var 1) (.con (.int 1))) .nil))))
@[simp] theorem ei_kind_block_0 {C : Cf} {sl : Slots} {st : Store} : evS C i_kind_block_0 sl st = evS C (.ret (.tup (.cons (.tup (.cons (.con (.str (Str.ofString "kind"))) (.cons (.var 4) (.cons (.idx (.var 3) (.con (.int 1))) (.cons (.blt false "tuple" (.cons (.var 5) .nil)) .nil))))) (.cons (.bin false .Add (.var 1) (.con (.int 1))) .nil)))) sl st := nrfl rfl
def i_kind_block_1 : IS := (.ife (.cmp .GtE (.var 1) (.blt false "len" (.cons (.var 0) .nil))) (.cons (.rai "" .nil) .nil) .nil)
@[simp] theorem ei_kind_block_1 {C : Cf} {sl : Slots} {st : Store} : evS C i_kind_block_1 sl st = evS C (.ife (.cmp .GtE (.var 1) (.blt false "len" (.cons (.var 0) .nil))) (.cons (.rai "" .nil) .nil) .nil) sl st := nrfl rfl
def i_kind_block_2 : IS := (.ex (.bm false "append" (.var 5) (.cons (.tup (.cons (.idx (.var 6) (.con (.int 0))) (.cons (.bin false .Add (.var 1) (.con (.int 1))) (.cons (.idx (.var 6) (.con (.int 1))) (.cons (.idx (.var 6) (.con (.int 2))) .nil))))) .nil)))
@[simp] theorem ei_kind_block_2 {C : Cf} {sl : Slots} {st : Store} : evS C i_kind_block_2 sl st = evS C (.ex (.bm false "append" (.var 5) (.cons (.tup (.cons (.idx (.var 6) (.con (.int 0))) (.cons (.bin false .Add (.var 1) (.con (.int 1))) (.cons (.idx (.var 6) (.con (.int 1))) (.cons (.idx (.var 6) (.con (.int 2))) .nil))))) .nil))) sl st := nrfl rfl
def i_kind_block_3 : IS := (.ife (.and (.notE (.call true "fits" (.cons (.var 6) (.cons (.tup (.cons (.con (.str (Str.ofString "plug"))) (.cons (.con (.str (Str.ofString "N"))) (.cons (.var 2) .nil)))) .nil)))) (.notE (.call true "fits" (.cons (.var 6) (.cons (.tup (.cons (.con (.str (Str.ofString "socket"))) (.cons (.con (.str (Str.ofString "N"))) (.cons (.var 2) .nil)))) .nil))))) (.cons (.rai "" .nil) .nil) .nil)
@[simp] theorem ei_kind_block_3 {C : Cf} {sl : Slots} {st : Store} : evS C i_kind_block_3 sl st = evS C (.ife (.and (.notE (.call true "fits" (.cons (.var 6) (.cons (.tup (.cons (.con (.str (Str.ofString "plug"))) (.cons (.con (.str (Str.ofString "N"))) (.cons (.var 2) .nil)))) .nil)))) (.notE (.call true "fits" (.cons (.var 6) (.cons (.tup (.cons (.con (.str (Str.ofString "socket"))) (.cons (.con (.str (Str.ofString "N"))) (.cons (.var 2) .nil)))) .nil))))) (.cons (.rai "" .nil) .nil) .nil) sl st := nrfl rfl
def wc_kind_block_0 : IE := (.and (.cmp .Lt (.var 1) (.blt false "len" (.cons (.var 0) .nil))) (.cmp .NotEq (.idx (.var 0) (.var 1)) (.lst false (.cons (.con (.str (Str.ofString "end"))) (.cons (.con (.str (Str.ofString "kind"))) .nil)))))
def wb_kind_block_0 : ISs := (.cons (.tgt (.nm 6) (.idx (.var 0) (.var 1))) (.cons i_kind_block_3 (.cons i_kind_block_2 (.cons (.aug 1 .Add (.con (.int 1))) .nil))))
def i_kind_block_4 : IS := (.ife (.notE (.call true "fits" (.cons (.var 3) (.cons (.tup (.cons (.con (.str (Str.ofString "kind"))) (.cons (.con (.str (Str.ofString "N"))) .nil))) .nil)))) (.cons (.rai "" .nil) .nil) .nil)
@[simp] theorem ei_kind_block_4 {C : Cf} {sl : Slots} {st : Store} : evS C i_kind_block_4 sl st = evS C (.ife (.notE (.call true "fits" (.cons (.var 3) (.cons (.tup (.cons (.con (.str (Str.ofString "kind"))) (.cons (.con (.str (Str.ofString "N"))) .nil))) .nil)))) (.cons (.rai "" .nil) .nil) .nil) sl st := nrfl rfl
def d_kind_block : Df := ⟨"", "kind_block", 3, 7, (.cons (.tgt (.nm 3) (.idx (.var 0) (.var 1))) (.cons i_kind_block_4 (.cons (.tgt (.nm 4) (.bin false .Add (.var 1) (.con (.int 1)))) (.cons (.tgt (.nm 5) (.lst true .nil)) (.cons (.aug 1 .Add (.con (.int 1))) (.cons (.whl wc_kind_block_0 wb_kind_block_0) (.cons i_kind_block_1 (.cons i_kind_block_0 .nil))))))))⟩
def i_count_row_0 : IS := (.ret (.tup (.cons (.idx (.var 0) (.con (.int 0))) (.cons (.var 1) (.cons (.idx (.var 0) (.con (.int 1))) (.cons (.blt false "int" (.cons (.idx (.var 0) (.con (.int 2))) .nil)) .nil))))))
@[simp] theorem ei_count_row_0 {C : Cf} {sl : Slots} {st : Store} : evS C i_count_row_0 sl st = evS C (.ret (.tup (.cons (.idx (.var 0) (.con (.int 0))) (.cons (.var 1) (.cons (.idx (.var 0) (.con (.int 1))) (.cons (.blt false "int" (.cons (.idx (.var 0) (.con (.int 2))) .nil)) .nil)))))) sl st := nrfl rfl
def i_count_row_1 : IS := (.ife (.or (.call true "fits" (.cons (.var 0) (.cons (.tup (.cons (.con (.str (Str.ofString "want"))) (.cons (.var 2) (.cons (.con (.str (Str.ofString "#"))) .nil)))) .nil))) (.call true "fits" (.cons (.var 0) (.cons (.tup (.cons (.con (.str (Str.ofString "seat"))) (.cons (.var 2) (.cons (.con (.str (Str.ofString "#"))) .nil)))) .nil)))) (.cons i_count_row_0 .nil) .nil)
@[simp] theorem ei_count_row_1 {C : Cf} {sl : Slots} {st : Store} : evS C i_count_row_1 sl st = evS C (.ife (.or (.call true "fits" (.cons (.var 0) (.cons (.tup (.cons (.con (.str (Str.ofString "want"))) (.cons (.var 2) (.cons (.con (.str (Str.ofString "#"))) .nil)))) .nil))) (.call true "fits" (.cons (.var 0) (.cons (.tup (.cons (.con (.str (Str.ofString "seat"))) (.cons (.var 2) (.cons (.con (.str (Str.ofString "#"))) .nil)))) .nil)))) (.cons i_count_row_0 .nil) .nil) sl st := nrfl rfl
def d_count_row : Df := ⟨"", "count_row", 3, 3, (.cons i_count_row_1 (.cons (.ret (.con .non)) .nil))⟩
def i_claim_row_0 : IS := (.ife (.cmp .Is (.var 2) (.con .non)) (.cons (.rai "" .nil) .nil) .nil)
@[simp] theorem ei_claim_row_0 {C : Cf} {sl : Slots} {st : Store} : evS C i_claim_row_0 sl st = evS C (.ife (.cmp .Is (.var 2) (.con .non)) (.cons (.rai "" .nil) .nil) .nil) sl st := nrfl rfl
def i_claim_row_1 : IS := (.tgt (.nm 2) (.tup (.cons (.bin false .Add (.con (.str (Str.ofString "more "))) (.idx (.var 0) (.con (.int 1)))) (.cons (.var 1) (.cons (.idx (.var 0) (.con (.int 2))) (.cons (.blt false "int" (.cons (.idx (.var 0) (.con (.int 3))) .nil)) .nil))))))
@[simp] theorem ei_claim_row_1 {C : Cf} {sl : Slots} {st : Store} : evS C i_claim_row_1 sl st = evS C (.tgt (.nm 2) (.tup (.cons (.bin false .Add (.con (.str (Str.ofString "more "))) (.idx (.var 0) (.con (.int 1)))) (.cons (.var 1) (.cons (.idx (.var 0) (.con (.int 2))) (.cons (.blt false "int" (.cons (.idx (.var 0) (.con (.int 3))) .nil)) .nil)))))) sl st := nrfl rfl
def i_claim_row_2 : IS := (.tgt (.nm 2) (.tup (.cons (.idx (.var 0) (.con (.int 0))) (.cons (.var 1) (.cons (.blt false "int" (.cons (.idx (.var 0) (.con (.int 1))) .nil)) .nil)))))
@[simp] theorem ei_claim_row_2 {C : Cf} {sl : Slots} {st : Store} : evS C i_claim_row_2 sl st = evS C (.tgt (.nm 2) (.tup (.cons (.idx (.var 0) (.con (.int 0))) (.cons (.var 1) (.cons (.blt false "int" (.cons (.idx (.var 0) (.con (.int 1))) .nil)) .nil))))) sl st := nrfl rfl
def i_claim_row_3 : IS := (.tgt (.nm 2) (.tup (.cons (.con (.str (Str.ofString "wires"))) (.cons (.var 1) (.cons (.idx (.var 0) (.con (.int 1))) (.cons (.blt false "int" (.cons (.idx (.var 0) (.con (.int 2))) .nil)) .nil))))))
@[simp] theorem ei_claim_row_3 {C : Cf} {sl : Slots} {st : Store} : evS C i_claim_row_3 sl st = evS C (.tgt (.nm 2) (.tup (.cons (.con (.str (Str.ofString "wires"))) (.cons (.var 1) (.cons (.idx (.var 0) (.con (.int 1))) (.cons (.blt false "int" (.cons (.idx (.var 0) (.con (.int 2))) .nil)) .nil)))))) sl st := nrfl rfl
def i_claim_row_4 : IS := (.ife (.call true "fits" (.cons (.var 0) (.cons (.tup (.cons (.con (.str (Str.ofString "wires"))) (.cons (.con (.str (Str.ofString "R"))) (.cons (.con (.str (Str.ofString "#"))) .nil)))) .nil))) (.cons i_claim_row_3 .nil) .nil)
@[simp] theorem ei_claim_row_4 {C : Cf} {sl : Slots} {st : Store} : evS C i_claim_row_4 sl st = evS C (.ife (.call true "fits" (.cons (.var 0) (.cons (.tup (.cons (.con (.str (Str.ofString "wires"))) (.cons (.con (.str (Str.ofString "R"))) (.cons (.con (.str (Str.ofString "#"))) .nil)))) .nil))) (.cons i_claim_row_3 .nil) .nil) sl st := nrfl rfl
def i_claim_row_5 : IS := (.ife (.or (.call true "fits" (.cons (.var 0) (.cons (.tup (.cons (.con (.str (Str.ofString "within"))) (.cons (.con (.str (Str.ofString "#"))) .nil))) .nil))) (.call true "fits" (.cons (.var 0) (.cons (.tup (.cons (.con (.str (Str.ofString "shares"))) (.cons (.con (.str (Str.ofString "#"))) .nil))) .nil)))) (.cons i_claim_row_2 .nil) (.cons i_claim_row_4 .nil))
@[simp] theorem ei_claim_row_5 {C : Cf} {sl : Slots} {st : Store} : evS C i_claim_row_5 sl st = evS C (.ife (.or (.call true "fits" (.cons (.var 0) (.cons (.tup (.cons (.con (.str (Str.ofString "within"))) (.cons (.con (.str (Str.ofString "#"))) .nil))) .nil))) (.call true "fits" (.cons (.var 0) (.cons (.tup (.cons (.con (.str (Str.ofString "shares"))) (.cons (.con (.str (Str.ofString "#"))) .nil))) .nil)))) (.cons i_claim_row_2 .nil) (.cons i_claim_row_4 .nil)) sl st := nrfl rfl
def i_claim_row_6 : IS := (.ife (.or (.call true "fits" (.cons (.var 0) (.cons (.tup (.cons (.con (.str (Str.ofString "more"))) (.cons (.con (.str (Str.ofString "want"))) (.cons (.con (.str (Str.ofString "R"))) (.cons (.con (.str (Str.ofString "#"))) .nil))))) .nil))) (.call true "fits" (.cons (.var 0) (.cons (.tup (.cons (.con (.str (Str.ofString "more"))) (.cons (.con (.str (Str.ofString "seat"))) (.cons (.con (.str (Str.ofString "R"))) (.cons (.con (.str (Str.ofString "#"))) .nil))))) .nil)))) (.cons i_claim_row_1 .nil) (.cons i_claim_row_5 .nil))
@[simp] theorem ei_claim_row_6 {C : Cf} {sl : Slots} {st : Store} : evS C i_claim_row_6 sl st = evS C (.ife (.or (.call true "fits" (.cons (.var 0) (.cons (.tup (.cons (.con (.str (Str.ofString "more"))) (.cons (.con (.str (Str.ofString "want"))) (.cons (.con (.str (Str.ofString "R"))) (.cons (.con (.str (Str.ofString "#"))) .nil))))) .nil))) (.call true "fits" (.cons (.var 0) (.cons (.tup (.cons (.con (.str (Str.ofString "more"))) (.cons (.con (.str (Str.ofString "seat"))) (.cons (.con (.str (Str.ofString "R"))) (.cons (.con (.str (Str.ofString "#"))) .nil))))) .nil)))) (.cons i_claim_row_1 .nil) (.cons i_claim_row_5 .nil)) sl st := nrfl rfl
def i_claim_row_7 : IS := (.tgt (.nm 2) (.call true "count_row" (.cons (.var 0) (.cons (.var 1) (.cons (.con (.str (Str.ofString "R"))) .nil)))))
@[simp] theorem ei_claim_row_7 {C : Cf} {sl : Slots} {st : Store} : evS C i_claim_row_7 sl st = evS C (.tgt (.nm 2) (.call true "count_row" (.cons (.var 0) (.cons (.var 1) (.cons (.con (.str (Str.ofString "R"))) .nil))))) sl st := nrfl rfl
def d_claim_row : Df := ⟨"", "claim_row", 2, 3, (.cons i_claim_row_7 (.cons i_claim_row_6 (.cons i_claim_row_0 (.cons (.ret (.var 2)) .nil))))⟩
def i_claim_block_0 : IS := (.ret (.tup (.cons (.tup (.cons (.con (.str (Str.ofString "claim"))) (.cons (.var 3) (.cons (.idx (.var 2) (.con (.int 1))) (.cons (.blt false "tuple" (.cons (.var 4) .nil)) .nil))))) (.cons (.bin false .Add (.var 1) (.con (.int 1))) .nil))))
@[simp] theorem ei_claim_block_0 {C : Cf} {sl : Slots} {st : Store} : evS C i_claim_block_0 sl st = evS C (.ret (.tup (.cons (.tup (.cons (.con (.str (Str.ofString "claim"))) (.cons (.var 3) (.cons (.idx (.var 2) (.con (.int 1))) (.cons (.blt false "tuple" (.cons (.var 4) .nil)) .nil))))) (.cons (.bin false .Add (.var 1) (.con (.int 1))) .nil)))) sl st := nrfl rfl
def i_claim_block_1 : IS := (.ife (.cmp .GtE (.var 1) (.blt false "len" (.cons (.var 0) .nil))) (.cons (.rai "" .nil) .nil) .nil)
@[simp] theorem ei_claim_block_1 {C : Cf} {sl : Slots} {st : Store} : evS C i_claim_block_1 sl st = evS C (.ife (.cmp .GtE (.var 1) (.blt false "len" (.cons (.var 0) .nil))) (.cons (.rai "" .nil) .nil) .nil) sl st := nrfl rfl
def i_claim_block_2 : IS := (.ex (.bm false "append" (.var 4) (.cons (.call true "claim_row" (.cons (.idx (.var 0) (.var 1)) (.cons (.bin false .Add (.var 1) (.con (.int 1))) .nil))) .nil)))
@[simp] theorem ei_claim_block_2 {C : Cf} {sl : Slots} {st : Store} : evS C i_claim_block_2 sl st = evS C (.ex (.bm false "append" (.var 4) (.cons (.call true "claim_row" (.cons (.idx (.var 0) (.var 1)) (.cons (.bin false .Add (.var 1) (.con (.int 1))) .nil))) .nil))) sl st := nrfl rfl
def wc_claim_block_0 : IE := (.and (.cmp .Lt (.var 1) (.blt false "len" (.cons (.var 0) .nil))) (.cmp .NotEq (.idx (.var 0) (.var 1)) (.lst false (.cons (.con (.str (Str.ofString "end"))) (.cons (.con (.str (Str.ofString "claim"))) .nil)))))
def wb_claim_block_0 : ISs := (.cons i_claim_block_2 (.cons (.aug 1 .Add (.con (.int 1))) .nil))
def i_claim_block_3 : IS := (.ife (.notE (.call true "fits" (.cons (.var 2) (.cons (.tup (.cons (.con (.str (Str.ofString "claim"))) (.cons (.con (.str (Str.ofString "N"))) .nil))) .nil)))) (.cons (.rai "" .nil) .nil) .nil)
@[simp] theorem ei_claim_block_3 {C : Cf} {sl : Slots} {st : Store} : evS C i_claim_block_3 sl st = evS C (.ife (.notE (.call true "fits" (.cons (.var 2) (.cons (.tup (.cons (.con (.str (Str.ofString "claim"))) (.cons (.con (.str (Str.ofString "N"))) .nil))) .nil)))) (.cons (.rai "" .nil) .nil) .nil) sl st := nrfl rfl
def d_claim_block : Df := ⟨"", "claim_block", 2, 5, (.cons (.tgt (.nm 2) (.idx (.var 0) (.var 1))) (.cons i_claim_block_3 (.cons (.tgt (.nm 3) (.bin false .Add (.var 1) (.con (.int 1)))) (.cons (.tgt (.nm 4) (.lst true .nil)) (.cons (.aug 1 .Add (.con (.int 1))) (.cons (.whl wc_claim_block_0 wb_claim_block_0) (.cons i_claim_block_1 (.cons i_claim_block_0 .nil))))))))⟩
def i_rule_block_0 : IS := (.ret (.tup (.cons (.tup (.cons (.con (.str (Str.ofString "rule"))) (.cons (.var 3) (.cons (.idx (.var 2) (.con (.int 1))) (.cons (.blt false "tuple" (.cons (.var 4) .nil)) (.cons (.blt false "tuple" (.cons (.var 6) .nil)) (.cons (.var 8) .nil))))))) (.cons (.var 1) .nil))))
@[simp] theorem ei_rule_block_0 {C : Cf} {sl : Slots} {st : Store} : evS C i_rule_block_0 sl st = evS C (.ret (.tup (.cons (.tup (.cons (.con (.str (Str.ofString "rule"))) (.cons (.var 3) (.cons (.idx (.var 2) (.con (.int 1))) (.cons (.blt false "tuple" (.cons (.var 4) .nil)) (.cons (.blt false "tuple" (.cons (.var 6) .nil)) (.cons (.var 8) .nil))))))) (.cons (.var 1) .nil)))) sl st := nrfl rfl
def i_rule_block_1 : IS := (.tgt (.tp (.cons (.nm 8) (.cons (.nm 1) .nil))) (.call true "proof_body" (.cons (.var 0) (.cons (.var 1) (.cons (.con (.str (Str.ofString "rule"))) (.cons (.con (.str (Str.ofString "N"))) .nil))))))
@[simp] theorem ei_rule_block_1 {C : Cf} {sl : Slots} {st : Store} : evS C i_rule_block_1 sl st = evS C (.tgt (.tp (.cons (.nm 8) (.cons (.nm 1) .nil))) (.call true "proof_body" (.cons (.var 0) (.cons (.var 1) (.cons (.con (.str (Str.ofString "rule"))) (.cons (.con (.str (Str.ofString "N"))) .nil)))))) sl st := nrfl rfl
def i_rule_block_2 : IS := (.ife (.cmp .Is (.var 7) (.con .non)) (.cons (.rai "" .nil) .nil) .nil)
@[simp] theorem ei_rule_block_2 {C : Cf} {sl : Slots} {st : Store} : evS C i_rule_block_2 sl st = evS C (.ife (.cmp .Is (.var 7) (.con .non)) (.cons (.rai "" .nil) .nil) .nil) sl st := nrfl rfl
def i_rule_block_3 : IS := (.tgt (.nm 7) (.call true "count_row" (.cons (.idx (.var 0) (.var 1)) (.cons (.bin false .Add (.var 1) (.con (.int 1))) (.cons (.con (.str (Str.ofString "N"))) .nil)))))
@[simp] theorem ei_rule_block_3 {C : Cf} {sl : Slots} {st : Store} : evS C i_rule_block_3 sl st = evS C (.tgt (.nm 7) (.call true "count_row" (.cons (.idx (.var 0) (.var 1)) (.cons (.bin false .Add (.var 1) (.con (.int 1))) (.cons (.con (.str (Str.ofString "N"))) .nil))))) sl st := nrfl rfl
def wc_rule_block_0 : IE := (.and (.cmp .Lt (.var 1) (.blt false "len" (.cons (.var 0) .nil))) (.cmp .In (.idx (.idx (.var 0) (.var 1)) (.con (.int 0))) (.tup (.cons (.con (.str (Str.ofString "want"))) (.cons (.con (.str (Str.ofString "seat"))) .nil)))))
def wb_rule_block_0 : ISs := (.cons i_rule_block_3 (.cons i_rule_block_2 (.cons (.ex (.bm false "append" (.var 6) (.cons (.var 7) .nil))) (.cons (.aug 1 .Add (.con (.int 1))) .nil))))
def i_rule_block_4 : IS := (.tgt (.tp (.cons (.nm 5) (.cons (.nm 1) .nil))) (.call true "kind_block" (.cons (.var 0) (.cons (.var 1) (.cons (.con (.str (Str.ofString "N"))) .nil)))))
@[simp] theorem ei_rule_block_4 {C : Cf} {sl : Slots} {st : Store} : evS C i_rule_block_4 sl st = evS C (.tgt (.tp (.cons (.nm 5) (.cons (.nm 1) .nil))) (.call true "kind_block" (.cons (.var 0) (.cons (.var 1) (.cons (.con (.str (Str.ofString "N"))) .nil))))) sl st := nrfl rfl
def i_rule_block_5 : IS := (.tgt (.tp (.cons (.nm 5) (.cons (.nm 1) .nil))) (.call true "line_item" (.cons (.var 0) (.cons (.var 1) .nil))))
@[simp] theorem ei_rule_block_5 {C : Cf} {sl : Slots} {st : Store} : evS C i_rule_block_5 sl st = evS C (.tgt (.tp (.cons (.nm 5) (.cons (.nm 1) .nil))) (.call true "line_item" (.cons (.var 0) (.cons (.var 1) .nil)))) sl st := nrfl rfl
def i_rule_block_6 : IS := (.ife (.cmp .Eq (.idx (.idx (.var 0) (.var 1)) (.con (.int 0))) (.con (.str (Str.ofString "kind")))) (.cons i_rule_block_4 .nil) (.cons i_rule_block_5 .nil))
@[simp] theorem ei_rule_block_6 {C : Cf} {sl : Slots} {st : Store} : evS C i_rule_block_6 sl st = evS C (.ife (.cmp .Eq (.idx (.idx (.var 0) (.var 1)) (.con (.int 0))) (.con (.str (Str.ofString "kind")))) (.cons i_rule_block_4 .nil) (.cons i_rule_block_5 .nil)) sl st := nrfl rfl
def wc_rule_block_1 : IE := (.and (.cmp .Lt (.var 1) (.blt false "len" (.cons (.var 0) .nil))) (.cmp .In (.idx (.idx (.var 0) (.var 1)) (.con (.int 0))) (.tup (.cons (.con (.str (Str.ofString "tie"))) (.cons (.con (.str (Str.ofString "kind"))) .nil)))))
def wb_rule_block_1 : ISs := (.cons i_rule_block_6 (.cons (.ex (.bm false "append" (.var 4) (.cons (.var 5) .nil))) .nil))
def i_rule_block_7 : IS := (.ife (.notE (.call true "fits" (.cons (.var 2) (.cons (.tup (.cons (.con (.str (Str.ofString "rule"))) (.cons (.con (.str (Str.ofString "N"))) .nil))) .nil)))) (.cons (.rai "" .nil) .nil) .nil)
@[simp] theorem ei_rule_block_7 {C : Cf} {sl : Slots} {st : Store} : evS C i_rule_block_7 sl st = evS C (.ife (.notE (.call true "fits" (.cons (.var 2) (.cons (.tup (.cons (.con (.str (Str.ofString "rule"))) (.cons (.con (.str (Str.ofString "N"))) .nil))) .nil)))) (.cons (.rai "" .nil) .nil) .nil) sl st := nrfl rfl
def d_rule_block : Df := ⟨"", "rule_block", 2, 9, (.cons (.tgt (.nm 2) (.idx (.var 0) (.var 1))) (.cons i_rule_block_7 (.cons (.tgt (.nm 3) (.bin false .Add (.var 1) (.con (.int 1)))) (.cons (.tgt (.nm 4) (.lst true .nil)) (.cons (.aug 1 .Add (.con (.int 1))) (.cons (.whl wc_rule_block_1 wb_rule_block_1) (.cons (.tgt (.nm 6) (.lst true .nil)) (.cons (.whl wc_rule_block_0 wb_rule_block_0) (.cons i_rule_block_1 (.cons i_rule_block_0 .nil))))))))))⟩
def i_proof_block_0 : IS := (.ret (.tup (.cons (.tup (.cons (.con (.str (Str.ofString "proof"))) (.cons (.bin false .Add (.var 1) (.con (.int 1))) (.cons (.idx (.var 2) (.con (.int 1))) (.cons (.var 3) .nil))))) (.cons (.var 4) .nil))))
@[simp] theorem ei_proof_block_0 {C : Cf} {sl : Slots} {st : Store} : evS C i_proof_block_0 sl st = evS C (.ret (.tup (.cons (.tup (.cons (.con (.str (Str.ofString "proof"))) (.cons (.bin false .Add (.var 1) (.con (.int 1))) (.cons (.idx (.var 2) (.con (.int 1))) (.cons (.var 3) .nil))))) (.cons (.var 4) .nil)))) sl st := nrfl rfl
def i_proof_block_1 : IS := (.tgt (.tp (.cons (.nm 3) (.cons (.nm 4) .nil))) (.call true "proof_body" (.cons (.var 0) (.cons (.bin false .Add (.var 1) (.con (.int 1))) (.cons (.con (.str (Str.ofString "proof"))) (.cons (.con (.str (Str.ofString "R"))) .nil))))))
@[simp] theorem ei_proof_block_1 {C : Cf} {sl : Slots} {st : Store} : evS C i_proof_block_1 sl st = evS C (.tgt (.tp (.cons (.nm 3) (.cons (.nm 4) .nil))) (.call true "proof_body" (.cons (.var 0) (.cons (.bin false .Add (.var 1) (.con (.int 1))) (.cons (.con (.str (Str.ofString "proof"))) (.cons (.con (.str (Str.ofString "R"))) .nil)))))) sl st := nrfl rfl
def i_proof_block_2 : IS := (.ife (.notE (.call true "fits" (.cons (.var 2) (.cons (.tup (.cons (.con (.str (Str.ofString "proof"))) (.cons (.con (.str (Str.ofString "N"))) .nil))) .nil)))) (.cons (.rai "" .nil) .nil) .nil)
@[simp] theorem ei_proof_block_2 {C : Cf} {sl : Slots} {st : Store} : evS C i_proof_block_2 sl st = evS C (.ife (.notE (.call true "fits" (.cons (.var 2) (.cons (.tup (.cons (.con (.str (Str.ofString "proof"))) (.cons (.con (.str (Str.ofString "N"))) .nil))) .nil)))) (.cons (.rai "" .nil) .nil) .nil) sl st := nrfl rfl
def d_proof_block : Df := ⟨"", "proof_block", 2, 5, (.cons (.tgt (.nm 2) (.idx (.var 0) (.var 1))) (.cons i_proof_block_2 (.cons i_proof_block_1 (.cons i_proof_block_0 .nil))))⟩
def i_let_item_0 : IS := (.ife (.or (.cmp .Lt (.blt false "len" (.cons (.var 0) .nil)) (.con (.int 4))) (.or (.cmp .NotEq (.bin false .Sub (.blt false "len" (.cons (.var 2) .nil)) (.bin false .Mult (.bin false .FloorDiv (.blt false "len" (.cons (.var 2) .nil)) (.con (.int 2))) (.con (.int 2)))) (.con (.int 0))) (.notE (.call true "is_name" (.cons (.idx (.var 0) (.con (.int 1))) .nil))))) (.cons (.rai "" .nil) .nil) .nil)
@[simp] theorem ei_let_item_0 {C : Cf} {sl : Slots} {st : Store} : evS C i_let_item_0 sl st = evS C (.ife (.or (.cmp .Lt (.blt false "len" (.cons (.var 0) .nil)) (.con (.int 4))) (.or (.cmp .NotEq (.bin false .Sub (.blt false "len" (.cons (.var 2) .nil)) (.bin false .Mult (.bin false .FloorDiv (.blt false "len" (.cons (.var 2) .nil)) (.con (.int 2))) (.con (.int 2)))) (.con (.int 0))) (.notE (.call true "is_name" (.cons (.idx (.var 0) (.con (.int 1))) .nil))))) (.cons (.rai "" .nil) .nil) .nil) sl st := nrfl rfl
def i_let_item_1 : IS := (.tgt (.nm 2) (.slc false (.var 0) (.con (.int 2)) (.con .non)))
@[simp] theorem ei_let_item_1 {C : Cf} {sl : Slots} {st : Store} : evS C i_let_item_1 sl st = evS C (.tgt (.nm 2) (.slc false (.var 0) (.con (.int 2)) (.con .non))) sl st := nrfl rfl
def d_let_item : Df := ⟨"", "let_item", 2, 6, (.cons i_let_item_1 (.cons i_let_item_0 (.cons (.rai "" .nil) (.cons (.rai "" .nil) .nil))))⟩
def i_line_item_0 : IS := (.ret (.tup (.cons (.call true "let_item" (.cons (.var 2) (.cons (.var 3) .nil))) (.cons (.bin false .Add (.var 1) (.con (.int 1))) .nil))))
@[simp] theorem ei_line_item_0 {C : Cf} {sl : Slots} {st : Store} : evS C i_line_item_0 sl st = evS C (.ret (.tup (.cons (.call true "let_item" (.cons (.var 2) (.cons (.var 3) .nil))) (.cons (.bin false .Add (.var 1) (.con (.int 1))) .nil)))) sl st := nrfl rfl
def i_line_item_1 : IS := (.ife (.cmp .Eq (.idx (.var 2) (.con (.int 0))) (.con (.str (Str.ofString "let")))) (.cons i_line_item_0 .nil) .nil)
@[simp] theorem ei_line_item_1 {C : Cf} {sl : Slots} {st : Store} : evS C i_line_item_1 sl st = evS C (.ife (.cmp .Eq (.idx (.var 2) (.con (.int 0))) (.con (.str (Str.ofString "let")))) (.cons i_line_item_0 .nil) .nil) sl st := nrfl rfl
def i_line_item_2 : IS := (.ret (.tup (.cons (.tup (.cons (.con (.str (Str.ofString "show"))) (.cons (.var 3) (.cons (.blt false "tuple" (.cons (.slc false (.var 2) (.con (.int 1)) (.con .non)) .nil)) .nil)))) (.cons (.bin false .Add (.var 1) (.con (.int 1))) .nil))))
@[simp] theorem ei_line_item_2 {C : Cf} {sl : Slots} {st : Store} : evS C i_line_item_2 sl st = evS C (.ret (.tup (.cons (.tup (.cons (.con (.str (Str.ofString "show"))) (.cons (.var 3) (.cons (.blt false "tuple" (.cons (.slc false (.var 2) (.con (.int 1)) (.con .non)) .nil)) .nil)))) (.cons (.bin false .Add (.var 1) (.con (.int 1))) .nil)))) sl st := nrfl rfl
def i_line_item_3 : IS := (.ife (.and (.cmp .Eq (.idx (.var 2) (.con (.int 0))) (.con (.str (Str.ofString "show")))) (.and (.cmp .Gt (.blt false "len" (.cons (.var 2) .nil)) (.con (.int 1))) (.blt false "all" (.cons (.lc false [4] (.nm 4) (.seq (.slc false (.var 2) (.con (.int 1)) (.con .non))) (.con (.bl true)) (.call true "is_name" (.cons (.var 4) .nil))) .nil)))) (.cons i_line_item_2 .nil) .nil)
@[simp] theorem ei_line_item_3 {C : Cf} {sl : Slots} {st : Store} : evS C i_line_item_3 sl st = evS C (.ife (.and (.cmp .Eq (.idx (.var 2) (.con (.int 0))) (.con (.str (Str.ofString "show")))) (.and (.cmp .Gt (.blt false "len" (.cons (.var 2) .nil)) (.con (.int 1))) (.blt false "all" (.cons (.lc false [4] (.nm 4) (.seq (.slc false (.var 2) (.con (.int 1)) (.con .non))) (.con (.bl true)) (.call true "is_name" (.cons (.var 4) .nil))) .nil)))) (.cons i_line_item_2 .nil) .nil) sl st := nrfl rfl
def i_line_item_4 : IS := (.ret (.tup (.cons (.tup (.cons (.idx (.var 2) (.con (.int 0))) (.cons (.var 3) (.cons (.idx (.var 2) (.con (.int 1))) .nil)))) (.cons (.bin false .Add (.var 1) (.con (.int 1))) .nil))))
@[simp] theorem ei_line_item_4 {C : Cf} {sl : Slots} {st : Store} : evS C i_line_item_4 sl st = evS C (.ret (.tup (.cons (.tup (.cons (.idx (.var 2) (.con (.int 0))) (.cons (.var 3) (.cons (.idx (.var 2) (.con (.int 1))) .nil)))) (.cons (.bin false .Add (.var 1) (.con (.int 1))) .nil)))) sl st := nrfl rfl
def i_line_item_5 : IS := (.ife (.or (.call true "fits" (.cons (.var 2) (.cons (.tup (.cons (.con (.str (Str.ofString "use"))) (.cons (.con (.str (Str.ofString "N"))) .nil))) .nil))) (.call true "fits" (.cons (.var 2) (.cons (.tup (.cons (.con (.str (Str.ofString "tie"))) (.cons (.con (.str (Str.ofString "N"))) .nil))) .nil)))) (.cons i_line_item_4 .nil) .nil)
@[simp] theorem ei_line_item_5 {C : Cf} {sl : Slots} {st : Store} : evS C i_line_item_5 sl st = evS C (.ife (.or (.call true "fits" (.cons (.var 2) (.cons (.tup (.cons (.con (.str (Str.ofString "use"))) (.cons (.con (.str (Str.ofString "N"))) .nil))) .nil))) (.call true "fits" (.cons (.var 2) (.cons (.tup (.cons (.con (.str (Str.ofString "tie"))) (.cons (.con (.str (Str.ofString "N"))) .nil))) .nil)))) (.cons i_line_item_4 .nil) .nil) sl st := nrfl rfl
def d_line_item : Df := ⟨"", "line_item", 2, 5, (.cons (.tgt (.nm 2) (.idx (.var 0) (.var 1))) (.cons (.tgt (.nm 3) (.bin false .Add (.var 1) (.con (.int 1)))) (.cons i_line_item_5 (.cons i_line_item_3 (.cons i_line_item_1 (.cons (.rai "" .nil) .nil))))))⟩
def i_item_at_0 : IS := (.ret (.call true "line_item" (.cons (.var 0) (.cons (.var 1) .nil))))
@[simp] theorem ei_item_at_0 {C : Cf} {sl : Slots} {st : Store} : evS C i_item_at_0 sl st = evS C (.ret (.call true "line_item" (.cons (.var 0) (.cons (.var 1) .nil)))) sl st := nrfl rfl
def i_item_at_1 : IS := (.ret (.call true "proof_block" (.cons (.var 0) (.cons (.var 1) .nil))))
@[simp] theorem ei_item_at_1 {C : Cf} {sl : Slots} {st : Store} : evS C i_item_at_1 sl st = evS C (.ret (.call true "proof_block" (.cons (.var 0) (.cons (.var 1) .nil)))) sl st := nrfl rfl
def i_item_at_2 : IS := (.ife (.cmp .Eq (.var 2) (.con (.str (Str.ofString "proof")))) (.cons i_item_at_1 .nil) .nil)
@[simp] theorem ei_item_at_2 {C : Cf} {sl : Slots} {st : Store} : evS C i_item_at_2 sl st = evS C (.ife (.cmp .Eq (.var 2) (.con (.str (Str.ofString "proof")))) (.cons i_item_at_1 .nil) .nil) sl st := nrfl rfl
def i_item_at_3 : IS := (.ret (.call true "rule_block" (.cons (.var 0) (.cons (.var 1) .nil))))
@[simp] theorem ei_item_at_3 {C : Cf} {sl : Slots} {st : Store} : evS C i_item_at_3 sl st = evS C (.ret (.call true "rule_block" (.cons (.var 0) (.cons (.var 1) .nil)))) sl st := nrfl rfl
def i_item_at_4 : IS := (.ife (.cmp .Eq (.var 2) (.con (.str (Str.ofString "rule")))) (.cons i_item_at_3 .nil) .nil)
@[simp] theorem ei_item_at_4 {C : Cf} {sl : Slots} {st : Store} : evS C i_item_at_4 sl st = evS C (.ife (.cmp .Eq (.var 2) (.con (.str (Str.ofString "rule")))) (.cons i_item_at_3 .nil) .nil) sl st := nrfl rfl
def i_item_at_5 : IS := (.ret (.call true "claim_block" (.cons (.var 0) (.cons (.var 1) .nil))))
@[simp] theorem ei_item_at_5 {C : Cf} {sl : Slots} {st : Store} : evS C i_item_at_5 sl st = evS C (.ret (.call true "claim_block" (.cons (.var 0) (.cons (.var 1) .nil)))) sl st := nrfl rfl
def i_item_at_6 : IS := (.ife (.cmp .Eq (.var 2) (.con (.str (Str.ofString "claim")))) (.cons i_item_at_5 .nil) .nil)
@[simp] theorem ei_item_at_6 {C : Cf} {sl : Slots} {st : Store} : evS C i_item_at_6 sl st = evS C (.ife (.cmp .Eq (.var 2) (.con (.str (Str.ofString "claim")))) (.cons i_item_at_5 .nil) .nil) sl st := nrfl rfl
def i_item_at_7 : IS := (.ret (.call true "kind_block" (.cons (.var 0) (.cons (.var 1) (.cons (.con (.str (Str.ofString "R"))) .nil)))))
@[simp] theorem ei_item_at_7 {C : Cf} {sl : Slots} {st : Store} : evS C i_item_at_7 sl st = evS C (.ret (.call true "kind_block" (.cons (.var 0) (.cons (.var 1) (.cons (.con (.str (Str.ofString "R"))) .nil))))) sl st := nrfl rfl
def i_item_at_8 : IS := (.ife (.cmp .Eq (.var 2) (.con (.str (Str.ofString "kind")))) (.cons i_item_at_7 .nil) .nil)
@[simp] theorem ei_item_at_8 {C : Cf} {sl : Slots} {st : Store} : evS C i_item_at_8 sl st = evS C (.ife (.cmp .Eq (.var 2) (.con (.str (Str.ofString "kind")))) (.cons i_item_at_7 .nil) .nil) sl st := nrfl rfl
def i_item_at_9 : IS := (.tgt (.nm 2) (.idx (.idx (.var 0) (.var 1)) (.con (.int 0))))
@[simp] theorem ei_item_at_9 {C : Cf} {sl : Slots} {st : Store} : evS C i_item_at_9 sl st = evS C (.tgt (.nm 2) (.idx (.idx (.var 0) (.var 1)) (.con (.int 0)))) sl st := nrfl rfl
def d_item_at : Df := ⟨"", "item_at", 2, 3, (.cons i_item_at_9 (.cons i_item_at_8 (.cons i_item_at_6 (.cons i_item_at_4 (.cons i_item_at_2 (.cons i_item_at_0 .nil))))))⟩
def d_Tree_init : Df := ⟨"Tree", "__init__", 3, 3, (.cons (.fst (.var 0) "called" (.var 1)) (.cons (.fst (.var 0) "blocks" (.var 2)) .nil))⟩
def d_Tree_name : Df := ⟨"Tree", "name", 1, 1, (.cons (.ret (.fld (.var 0) "called")) .nil)⟩
def i_Tree_modules_0 : IS := (.ret (.lc false [1, 2] (.tp (.cons (.nm 1) (.cons (.nm 2) .nil))) (.seq (.fld (.var 0) "blocks")) (.con (.bl true)) (.var 1)))
@[simp] theorem ei_Tree_modules_0 {C : Cf} {sl : Slots} {st : Store} : evS C i_Tree_modules_0 sl st = evS C (.ret (.lc false [1, 2] (.tp (.cons (.nm 1) (.cons (.nm 2) .nil))) (.seq (.fld (.var 0) "blocks")) (.con (.bl true)) (.var 1))) sl st := nrfl rfl
def d_Tree_modules : Df := ⟨"Tree", "modules", 1, 3, (.cons i_Tree_modules_0 .nil)⟩
def i_Tree_parts_0 : IS := (.ret (.lc false [1, 2] (.tp (.cons (.nm 1) (.cons (.nm 2) .nil))) (.seq (.fld (.var 0) "blocks")) (.con (.bl true)) (.tup (.cons (.var 1) (.cons (.blt false "list" (.cons (.var 2) .nil)) .nil)))))
@[simp] theorem ei_Tree_parts_0 {C : Cf} {sl : Slots} {st : Store} : evS C i_Tree_parts_0 sl st = evS C (.ret (.lc false [1, 2] (.tp (.cons (.nm 1) (.cons (.nm 2) .nil))) (.seq (.fld (.var 0) "blocks")) (.con (.bl true)) (.tup (.cons (.var 1) (.cons (.blt false "list" (.cons (.var 2) .nil)) .nil))))) sl st := nrfl rfl
def d_Tree_parts : Df := ⟨"Tree", "parts", 1, 3, (.cons i_Tree_parts_0 .nil)⟩
def j_Tree_items_of_0 : ISs := (.cons (.ret (.blt false "list" (.cons (.var 3) .nil))) .nil)
@[simp] theorem ej_Tree_items_of_0 {C : Cf} {sl : Slots} {st : Store} : evSs C j_Tree_items_of_0 sl st = evSs C (.cons (.ret (.blt false "list" (.cons (.var 3) .nil))) .nil) sl st := nrfl rfl
def wb_Tree_items_of_0 : ISs := (.cons (.ife (.cmp .Eq (.var 2) (.var 1)) j_Tree_items_of_0 .nil) .nil)
def i_Tree_items_of_1 : IS := (.for_ (.tp (.cons (.nm 2) (.cons (.nm 3) .nil))) (.seq (.fld (.var 0) "blocks")) wb_Tree_items_of_0)
@[simp] theorem ei_Tree_items_of_1 {C : Cf} {sl : Slots} {st : Store} : evS C i_Tree_items_of_1 sl st = evS C (.for_ (.tp (.cons (.nm 2) (.cons (.nm 3) .nil))) (.seq (.fld (.var 0) "blocks")) wb_Tree_items_of_0) sl st := nrfl rfl
def d_Tree_items_of : Df := ⟨"Tree", "items_of", 2, 4, (.cons i_Tree_items_of_1 (.cons (.ret (.lst false .nil)) .nil))⟩
def i_Tree_eq_0 : IS := (.ret (.and (.cmp .Eq (.fld (.var 0) "called") (.fld (.var 1) "called")) (.cmp .Eq (.fld (.var 0) "blocks") (.fld (.var 1) "blocks"))))
@[simp] theorem ei_Tree_eq_0 {C : Cf} {sl : Slots} {st : Store} : evS C i_Tree_eq_0 sl st = evS C (.ret (.and (.cmp .Eq (.fld (.var 0) "called") (.fld (.var 1) "called")) (.cmp .Eq (.fld (.var 0) "blocks") (.fld (.var 1) "blocks")))) sl st := nrfl rfl
def j_Tree_eq_1 : ISs := (.cons (.ret (.con (.bl false))) .nil)
@[simp] theorem ej_Tree_eq_1 {C : Cf} {sl : Slots} {st : Store} : evSs C j_Tree_eq_1 sl st = evSs C (.cons (.ret (.con (.bl false))) .nil) sl st := nrfl rfl
def i_Tree_eq_2 : IS := (.ife (.notE (.isi (.cons (.var 1) (.cons (.gl "Tree") .nil)))) j_Tree_eq_1 .nil)
@[simp] theorem ei_Tree_eq_2 {C : Cf} {sl : Slots} {st : Store} : evS C i_Tree_eq_2 sl st = evS C (.ife (.notE (.isi (.cons (.var 1) (.cons (.gl "Tree") .nil)))) j_Tree_eq_1 .nil) sl st := nrfl rfl
def d_Tree_eq : Df := ⟨"Tree", "__eq__", 2, 2, (.cons i_Tree_eq_2 (.cons i_Tree_eq_0 .nil))⟩
def i_too_great_0 : IS := (.ret (.and (.call true "is_number" (.cons (.var 0) .nil)) (.or (.cmp .Gt (.blt false "len" (.cons (.var 0) .nil)) (.con (.int 31))) (.cmp .Gt (.blt false "int" (.cons (.var 0) .nil)) (.gl "NUMBER")))))
@[simp] theorem ei_too_great_0 {C : Cf} {sl : Slots} {st : Store} : evS C i_too_great_0 sl st = evS C (.ret (.and (.call true "is_number" (.cons (.var 0) .nil)) (.or (.cmp .Gt (.blt false "len" (.cons (.var 0) .nil)) (.con (.int 31))) (.cmp .Gt (.blt false "int" (.cons (.var 0) .nil)) (.gl "NUMBER"))))) sl st := nrfl rfl
def d_too_great : Df := ⟨"", "too_great", 1, 1, (.cons i_too_great_0 .nil)⟩
def i_rows_of_0 : IS := (.ife (.blt false "any" (.cons (.lc false [4] (.nm 4) (.seq (.var 2)) (.con (.bl true)) (.blt false "any" (.cons (.lc false [5] (.nm 5) (.seq (.var 4)) (.con (.bl true)) (.call true "too_great" (.cons (.var 5) .nil))) .nil))) .nil)) (.cons (.rai "" .nil) .nil) .nil)
@[simp] theorem ei_rows_of_0 {C : Cf} {sl : Slots} {st : Store} : evS C i_rows_of_0 sl st = evS C (.ife (.blt false "any" (.cons (.lc false [4] (.nm 4) (.seq (.var 2)) (.con (.bl true)) (.blt false "any" (.cons (.lc false [5] (.nm 5) (.seq (.var 4)) (.con (.bl true)) (.call true "too_great" (.cons (.var 5) .nil))) .nil))) .nil)) (.cons (.rai "" .nil) .nil) .nil) sl st := nrfl rfl
def i_rows_of_1 : IS := (.ife (.blt false "any" (.cons (.lc false [4] (.nm 4) (.seq (.var 2)) (.con (.bl true)) (.cmp .Gt (.blt false "len" (.cons (.var 4) .nil)) (.gl "WORDS"))) .nil)) (.cons (.rai "" .nil) .nil) .nil)
@[simp] theorem ei_rows_of_1 {C : Cf} {sl : Slots} {st : Store} : evS C i_rows_of_1 sl st = evS C (.ife (.blt false "any" (.cons (.lc false [4] (.nm 4) (.seq (.var 2)) (.con (.bl true)) (.cmp .Gt (.blt false "len" (.cons (.var 4) .nil)) (.gl "WORDS"))) .nil)) (.cons (.rai "" .nil) .nil) .nil) sl st := nrfl rfl
def i_rows_of_2 : IS := (.tgt (.nm 2) (.lc false [3] (.nm 3) (.seq (.var 1)) (.con (.bl true)) (.bm false "split" (.var 3) (.cons (.con (.str (Str.ofString " "))) .nil))))
@[simp] theorem ei_rows_of_2 {C : Cf} {sl : Slots} {st : Store} : evS C i_rows_of_2 sl st = evS C (.tgt (.nm 2) (.lc false [3] (.nm 3) (.seq (.var 1)) (.con (.bl true)) (.bm false "split" (.var 3) (.cons (.con (.str (Str.ofString " "))) .nil)))) sl st := nrfl rfl
def i_rows_of_3 : IS := (.ife (.cmp .Gt (.blt false "len" (.cons (.var 1) .nil)) (.gl "LINES")) (.cons (.rai "" .nil) .nil) .nil)
@[simp] theorem ei_rows_of_3 {C : Cf} {sl : Slots} {st : Store} : evS C i_rows_of_3 sl st = evS C (.ife (.cmp .Gt (.blt false "len" (.cons (.var 1) .nil)) (.gl "LINES")) (.cons (.rai "" .nil) .nil) .nil) sl st := nrfl rfl
def i_rows_of_4 : IS := (.tgt (.nm 1) (.bm false "split" (.var 0) (.cons (.con (.str (Str.ofString "\n"))) .nil)))
@[simp] theorem ei_rows_of_4 {C : Cf} {sl : Slots} {st : Store} : evS C i_rows_of_4 sl st = evS C (.tgt (.nm 1) (.bm false "split" (.var 0) (.cons (.con (.str (Str.ofString "\n"))) .nil))) sl st := nrfl rfl
def d_rows_of : Df := ⟨"", "rows_of", 1, 6, (.cons i_rows_of_4 (.cons i_rows_of_3 (.cons i_rows_of_2 (.cons i_rows_of_1 (.cons i_rows_of_0 (.cons (.ret (.var 2)) .nil))))))⟩
def i_module_at_0 : IS := (.ret (.tup (.cons (.var 2) (.cons (.blt false "tuple" (.cons (.var 3) .nil)) (.cons (.bin false .Add (.var 1) (.con (.int 1))) .nil)))))
@[simp] theorem ei_module_at_0 {C : Cf} {sl : Slots} {st : Store} : evS C i_module_at_0 sl st = evS C (.ret (.tup (.cons (.var 2) (.cons (.blt false "tuple" (.cons (.var 3) .nil)) (.cons (.bin false .Add (.var 1) (.con (.int 1))) .nil))))) sl st := nrfl rfl
def i_module_at_1 : IS := (.ife (.cmp .GtE (.var 1) (.blt false "len" (.cons (.var 0) .nil))) (.cons (.rai "" .nil) .nil) .nil)
@[simp] theorem ei_module_at_1 {C : Cf} {sl : Slots} {st : Store} : evS C i_module_at_1 sl st = evS C (.ife (.cmp .GtE (.var 1) (.blt false "len" (.cons (.var 0) .nil))) (.cons (.rai "" .nil) .nil) .nil) sl st := nrfl rfl
def i_module_at_2 : IS := (.tgt (.tp (.cons (.nm 4) (.cons (.nm 1) .nil))) (.call true "item_at" (.cons (.var 0) (.cons (.var 1) .nil))))
@[simp] theorem ei_module_at_2 {C : Cf} {sl : Slots} {st : Store} : evS C i_module_at_2 sl st = evS C (.tgt (.tp (.cons (.nm 4) (.cons (.nm 1) .nil))) (.call true "item_at" (.cons (.var 0) (.cons (.var 1) .nil)))) sl st := nrfl rfl
def wc_module_at_0 : IE := (.and (.cmp .Lt (.var 1) (.blt false "len" (.cons (.var 0) .nil))) (.cmp .NotEq (.idx (.var 0) (.var 1)) (.lst false (.cons (.con (.str (Str.ofString "end"))) (.cons (.con (.str (Str.ofString "module"))) .nil)))))
def wb_module_at_0 : ISs := (.cons i_module_at_2 (.cons (.ex (.bm false "append" (.var 3) (.cons (.var 4) .nil))) .nil))
def i_module_at_3 : IS := (.tgt (.nm 2) (.idx (.idx (.var 0) (.var 1)) (.con (.int 1))))
@[simp] theorem ei_module_at_3 {C : Cf} {sl : Slots} {st : Store} : evS C i_module_at_3 sl st = evS C (.tgt (.nm 2) (.idx (.idx (.var 0) (.var 1)) (.con (.int 1)))) sl st := nrfl rfl
def i_module_at_4 : IS := (.ife (.notE (.call true "fits" (.cons (.idx (.var 0) (.var 1)) (.cons (.tup (.cons (.con (.str (Str.ofString "module"))) (.cons (.con (.str (Str.ofString "N"))) .nil))) .nil)))) (.cons (.rai "" .nil) .nil) .nil)
@[simp] theorem ei_module_at_4 {C : Cf} {sl : Slots} {st : Store} : evS C i_module_at_4 sl st = evS C (.ife (.notE (.call true "fits" (.cons (.idx (.var 0) (.var 1)) (.cons (.tup (.cons (.con (.str (Str.ofString "module"))) (.cons (.con (.str (Str.ofString "N"))) .nil))) .nil)))) (.cons (.rai "" .nil) .nil) .nil) sl st := nrfl rfl
def d_module_at : Df := ⟨"", "module_at", 2, 5, (.cons i_module_at_4 (.cons i_module_at_3 (.cons (.tgt (.nm 3) (.lst true .nil)) (.cons (.aug 1 .Add (.con (.int 1))) (.cons (.whl wc_module_at_0 wb_module_at_0) (.cons i_module_at_1 (.cons i_module_at_0 .nil)))))))⟩
def i_read_text_0 : IS := (.ret (.make true "Tree" (.cons (.idx (.idx (.var 1) (.con (.int 0))) (.con (.int 1))) (.cons (.var 2) .nil))))
@[simp] theorem ei_read_text_0 {C : Cf} {sl : Slots} {st : Store} : evS C i_read_text_0 sl st = evS C (.ret (.make true "Tree" (.cons (.idx (.idx (.var 1) (.con (.int 0))) (.con (.int 1))) (.cons (.var 2) .nil)))) sl st := nrfl rfl
def i_read_text_1 : IS := (.ife (.cmp .Lt (.bin false .Add (.var 3) (.con (.int 1))) (.blt false "len" (.cons (.var 1) .nil))) (.cons (.rai "" .nil) .nil) .nil)
@[simp] theorem ei_read_text_1 {C : Cf} {sl : Slots} {st : Store} : evS C i_read_text_1 sl st = evS C (.ife (.cmp .Lt (.bin false .Add (.var 3) (.con (.int 1))) (.blt false "len" (.cons (.var 1) .nil))) (.cons (.rai "" .nil) .nil) .nil) sl st := nrfl rfl
def i_read_text_2 : IS := (.ife (.cmp .GtE (.var 3) (.blt false "len" (.cons (.var 1) .nil))) (.cons (.rai "" .nil) .nil) .nil)
@[simp] theorem ei_read_text_2 {C : Cf} {sl : Slots} {st : Store} : evS C i_read_text_2 sl st = evS C (.ife (.cmp .GtE (.var 3) (.blt false "len" (.cons (.var 1) .nil))) (.cons (.rai "" .nil) .nil) .nil) sl st := nrfl rfl
def i_read_text_3 : IS := (.ex (.bm false "append" (.var 2) (.cons (.tup (.cons (.var 4) (.cons (.var 5) .nil))) .nil)))
@[simp] theorem ei_read_text_3 {C : Cf} {sl : Slots} {st : Store} : evS C i_read_text_3 sl st = evS C (.ex (.bm false "append" (.var 2) (.cons (.tup (.cons (.var 4) (.cons (.var 5) .nil))) .nil))) sl st := nrfl rfl
def i_read_text_4 : IS := (.tgt (.tp (.cons (.nm 4) (.cons (.nm 5) (.cons (.nm 3) .nil)))) (.call true "module_at" (.cons (.var 1) (.cons (.var 3) .nil))))
@[simp] theorem ei_read_text_4 {C : Cf} {sl : Slots} {st : Store} : evS C i_read_text_4 sl st = evS C (.tgt (.tp (.cons (.nm 4) (.cons (.nm 5) (.cons (.nm 3) .nil)))) (.call true "module_at" (.cons (.var 1) (.cons (.var 3) .nil)))) sl st := nrfl rfl
def i_read_text_5 : IS := (.ife (.cmp .In (.idx (.idx (.var 1) (.var 3)) (.neg (.con (.int 1)))) (.lc false [4, 5] (.tp (.cons (.nm 4) (.cons (.nm 5) .nil))) (.seq (.var 2)) (.con (.bl true)) (.var 4))) (.cons (.rai "" .nil) .nil) .nil)
@[simp] theorem ei_read_text_5 {C : Cf} {sl : Slots} {st : Store} : evS C i_read_text_5 sl st = evS C (.ife (.cmp .In (.idx (.idx (.var 1) (.var 3)) (.neg (.con (.int 1)))) (.lc false [4, 5] (.tp (.cons (.nm 4) (.cons (.nm 5) .nil))) (.seq (.var 2)) (.con (.bl true)) (.var 4))) (.cons (.rai "" .nil) .nil) .nil) sl st := nrfl rfl
def wc_read_text_0 : IE := (.and (.cmp .Lt (.var 3) (.blt false "len" (.cons (.var 1) .nil))) (.cmp .NotEq (.idx (.var 1) (.var 3)) (.lst false (.cons (.con (.str (Str.ofString "end"))) (.cons (.con (.str (Str.ofString "book"))) .nil)))))
def wb_read_text_0 : ISs := (.cons i_read_text_5 (.cons i_read_text_4 (.cons i_read_text_3 .nil)))
def i_read_text_6 : IS := (.ife (.notE (.call true "fits" (.cons (.idx (.var 1) (.con (.int 0))) (.cons (.tup (.cons (.con (.str (Str.ofString "book"))) (.cons (.con (.str (Str.ofString "N"))) .nil))) .nil)))) (.cons (.rai "" .nil) .nil) .nil)
@[simp] theorem ei_read_text_6 {C : Cf} {sl : Slots} {st : Store} : evS C i_read_text_6 sl st = evS C (.ife (.notE (.call true "fits" (.cons (.idx (.var 1) (.con (.int 0))) (.cons (.tup (.cons (.con (.str (Str.ofString "book"))) (.cons (.con (.str (Str.ofString "N"))) .nil))) .nil)))) (.cons (.rai "" .nil) .nil) .nil) sl st := nrfl rfl
def d_read_text : Df := ⟨"", "read_text", 1, 6, (.cons (.tgt (.nm 1) (.call true "rows_of" (.cons (.var 0) .nil))) (.cons i_read_text_6 (.cons (.tgt (.nm 2) (.lst true .nil)) (.cons (.tgt (.nm 3) (.con (.int 1))) (.cons (.whl wc_read_text_0 wb_read_text_0) (.cons i_read_text_2 (.cons i_read_text_1 (.cons i_read_text_0 .nil))))))))⟩
def i_port_words_0 : IS := (.ret (.bm false "join" (.con (.str (Str.ofString " "))) (.cons (.var 0) .nil)))
@[simp] theorem ei_port_words_0 {C : Cf} {sl : Slots} {st : Store} : evS C i_port_words_0 sl st = evS C (.ret (.bm false "join" (.con (.str (Str.ofString " "))) (.cons (.var 0) .nil))) sl st := nrfl rfl
def d_port_words : Df := ⟨"", "port_words", 1, 1, (.cons i_port_words_0 .nil)⟩
def i_proof_line_of_0 : IS := (.ret (.bin false .Add (.con (.str (Str.ofString "by "))) (.bm false "join" (.con (.str (Str.ofString " "))) (.cons (.bin false .Add (.bin false .Add (.bin false .Add (.lst false (.cons (.idx (.var 0) (.con (.int 2))) .nil)) (.blt false "list" (.cons (.idx (.var 0) (.con (.int 3))) .nil))) (.lst false (.cons (.con (.str (Str.ofString "with"))) .nil))) (.blt false "list" (.cons (.idx (.var 0) (.con (.int 4))) .nil))) .nil))))
@[simp] theorem ei_proof_line_of_0 {C : Cf} {sl : Slots} {st : Store} : evS C i_proof_line_of_0 sl st = evS C (.ret (.bin false .Add (.con (.str (Str.ofString "by "))) (.bm false "join" (.con (.str (Str.ofString " "))) (.cons (.bin false .Add (.bin false .Add (.bin false .Add (.lst false (.cons (.idx (.var 0) (.con (.int 2))) .nil)) (.blt false "list" (.cons (.idx (.var 0) (.con (.int 3))) .nil))) (.lst false (.cons (.con (.str (Str.ofString "with"))) .nil))) (.blt false "list" (.cons (.idx (.var 0) (.con (.int 4))) .nil))) .nil)))) sl st := nrfl rfl
def i_proof_line_of_1 : IS := (.ife (.cmp .Eq (.var 1) (.con (.str (Str.ofString "by")))) (.cons i_proof_line_of_0 .nil) .nil)
@[simp] theorem ei_proof_line_of_1 {C : Cf} {sl : Slots} {st : Store} : evS C i_proof_line_of_1 sl st = evS C (.ife (.cmp .Eq (.var 1) (.con (.str (Str.ofString "by")))) (.cons i_proof_line_of_0 .nil) .nil) sl st := nrfl rfl
def i_proof_line_of_2 : IS := (.ret (.fstr (.cons (.con (.str (Str.ofString "at "))) (.cons (.blt false "str" (.cons (.idx (.var 0) (.con (.int 2))) .nil)) (.cons (.con (.str (Str.ofString " "))) (.cons (.blt false "str" (.cons (.call true "port_words" (.cons (.idx (.var 0) (.con (.int 3))) .nil)) .nil)) (.cons (.con (.str (Str.ofString " "))) (.cons (.blt false "str" (.cons (.idx (.var 0) (.con (.int 4))) .nil)) (.cons (.con (.str (Str.ofString " "))) (.cons (.blt false "str" (.cons (.idx (.var 0) (.con (.int 5))) .nil)) (.cons (.con (.str (Str.ofString " to "))) (.cons (.blt false "str" (.cons (.call true "port_words" (.cons (.idx (.var 0) (.con (.int 6))) .nil)) .nil)) (.cons (.con (.str (Str.ofString " "))) (.cons (.blt false "str" (.cons (.idx (.var 0) (.con (.int 7))) .nil)) .nil))))))))))))))
@[simp] theorem ei_proof_line_of_2 {C : Cf} {sl : Slots} {st : Store} : evS C i_proof_line_of_2 sl st = evS C (.ret (.fstr (.cons (.con (.str (Str.ofString "at "))) (.cons (.blt false "str" (.cons (.idx (.var 0) (.con (.int 2))) .nil)) (.cons (.con (.str (Str.ofString " "))) (.cons (.blt false "str" (.cons (.call true "port_words" (.cons (.idx (.var 0) (.con (.int 3))) .nil)) .nil)) (.cons (.con (.str (Str.ofString " "))) (.cons (.blt false "str" (.cons (.idx (.var 0) (.con (.int 4))) .nil)) (.cons (.con (.str (Str.ofString " "))) (.cons (.blt false "str" (.cons (.idx (.var 0) (.con (.int 5))) .nil)) (.cons (.con (.str (Str.ofString " to "))) (.cons (.blt false "str" (.cons (.call true "port_words" (.cons (.idx (.var 0) (.con (.int 6))) .nil)) .nil)) (.cons (.con (.str (Str.ofString " "))) (.cons (.blt false "str" (.cons (.idx (.var 0) (.con (.int 7))) .nil)) .nil)))))))))))))) sl st := nrfl rfl
def i_proof_line_of_3 : IS := (.ife (.cmp .Eq (.var 1) (.con (.str (Str.ofString "at")))) (.cons i_proof_line_of_2 .nil) .nil)
@[simp] theorem ei_proof_line_of_3 {C : Cf} {sl : Slots} {st : Store} : evS C i_proof_line_of_3 sl st = evS C (.ife (.cmp .Eq (.var 1) (.con (.str (Str.ofString "at")))) (.cons i_proof_line_of_2 .nil) .nil) sl st := nrfl rfl
def i_proof_line_of_4 : IS := (.ret (.bin false .Add (.bin false .Add (.bin false .Add (.con (.str (Str.ofString "lanes "))) (.idx (.var 0) (.con (.int 2)))) (.con (.str (Str.ofString " ")))) (.ite (.cmp .Is (.idx (.var 0) (.con (.int 3))) (.con .non)) (.con (.str (Str.ofString "?"))) (.blt false "str" (.cons (.idx (.var 0) (.con (.int 3))) .nil)))))
@[simp] theorem ei_proof_line_of_4 {C : Cf} {sl : Slots} {st : Store} : evS C i_proof_line_of_4 sl st = evS C (.ret (.bin false .Add (.bin false .Add (.bin false .Add (.con (.str (Str.ofString "lanes "))) (.idx (.var 0) (.con (.int 2)))) (.con (.str (Str.ofString " ")))) (.ite (.cmp .Is (.idx (.var 0) (.con (.int 3))) (.con .non)) (.con (.str (Str.ofString "?"))) (.blt false "str" (.cons (.idx (.var 0) (.con (.int 3))) .nil))))) sl st := nrfl rfl
def i_proof_line_of_5 : IS := (.ife (.cmp .Eq (.var 1) (.con (.str (Str.ofString "lanes")))) (.cons i_proof_line_of_4 .nil) .nil)
@[simp] theorem ei_proof_line_of_5 {C : Cf} {sl : Slots} {st : Store} : evS C i_proof_line_of_5 sl st = evS C (.ife (.cmp .Eq (.var 1) (.con (.str (Str.ofString "lanes")))) (.cons i_proof_line_of_4 .nil) .nil) sl st := nrfl rfl
def d_proof_line_of : Df := ⟨"", "proof_line_of", 1, 2, (.cons (.tgt (.nm 1) (.idx (.var 0) (.con (.int 0)))) (.cons i_proof_line_of_5 (.cons i_proof_line_of_3 (.cons i_proof_line_of_1 (.cons (.ret (.var 1)) .nil)))))⟩
def i_proof_lines_0 : IS := (.ret (.lc false [1] (.nm 1) (.seq (.var 0)) (.con (.bl true)) (.call true "proof_line_of" (.cons (.var 1) .nil))))
@[simp] theorem ei_proof_lines_0 {C : Cf} {sl : Slots} {st : Store} : evS C i_proof_lines_0 sl st = evS C (.ret (.lc false [1] (.nm 1) (.seq (.var 0)) (.con (.bl true)) (.call true "proof_line_of" (.cons (.var 1) .nil)))) sl st := nrfl rfl
def d_proof_lines : Df := ⟨"", "proof_lines", 1, 2, (.cons i_proof_lines_0 .nil)⟩
def i_kind_lines_0 : IS := (.ret (.bin false .Add (.bin false .Add (.lst false (.cons (.bin false .Add (.con (.str (Str.ofString "kind "))) (.idx (.var 0) (.con (.int 2)))) .nil)) (.var 1)) (.lst false (.cons (.con (.str (Str.ofString "end kind"))) .nil))))
@[simp] theorem ei_kind_lines_0 {C : Cf} {sl : Slots} {st : Store} : evS C i_kind_lines_0 sl st = evS C (.ret (.bin false .Add (.bin false .Add (.lst false (.cons (.bin false .Add (.con (.str (Str.ofString "kind "))) (.idx (.var 0) (.con (.int 2)))) .nil)) (.var 1)) (.lst false (.cons (.con (.str (Str.ofString "end kind"))) .nil)))) sl st := nrfl rfl
def i_kind_lines_1 : IS := (.tgt (.nm 1) (.lc false [2, 3, 4, 5] (.tp (.cons (.nm 2) (.cons (.nm 3) (.cons (.nm 4) (.cons (.nm 5) .nil))))) (.seq (.idx (.var 0) (.con (.int 3)))) (.con (.bl true)) (.bin false .Add (.bin false .Add (.bin false .Add (.bin false .Add (.var 2) (.con (.str (Str.ofString " ")))) (.var 4)) (.con (.str (Str.ofString " ")))) (.var 5))))
@[simp] theorem ei_kind_lines_1 {C : Cf} {sl : Slots} {st : Store} : evS C i_kind_lines_1 sl st = evS C (.tgt (.nm 1) (.lc false [2, 3, 4, 5] (.tp (.cons (.nm 2) (.cons (.nm 3) (.cons (.nm 4) (.cons (.nm 5) .nil))))) (.seq (.idx (.var 0) (.con (.int 3)))) (.con (.bl true)) (.bin false .Add (.bin false .Add (.bin false .Add (.bin false .Add (.var 2) (.con (.str (Str.ofString " ")))) (.var 4)) (.con (.str (Str.ofString " ")))) (.var 5)))) sl st := nrfl rfl
def d_kind_lines : Df := ⟨"", "kind_lines", 1, 6, (.cons i_kind_lines_1 (.cons i_kind_lines_0 .nil))⟩
def i_claim_line_of_0 : IS := (.ret (.bm false "join" (.con (.str (Str.ofString " "))) (.cons (.bin false .Add (.lst false (.cons (.idx (.var 0) (.con (.int 0))) .nil)) (.lc false [1] (.nm 1) (.seq (.slc false (.var 0) (.con (.int 2)) (.con .non))) (.con (.bl true)) (.blt false "str" (.cons (.var 1) .nil)))) .nil)))
@[simp] theorem ei_claim_line_of_0 {C : Cf} {sl : Slots} {st : Store} : evS C i_claim_line_of_0 sl st = evS C (.ret (.bm false "join" (.con (.str (Str.ofString " "))) (.cons (.bin false .Add (.lst false (.cons (.idx (.var 0) (.con (.int 0))) .nil)) (.lc false [1] (.nm 1) (.seq (.slc false (.var 0) (.con (.int 2)) (.con .non))) (.con (.bl true)) (.blt false "str" (.cons (.var 1) .nil)))) .nil))) sl st := nrfl rfl
def d_claim_line_of : Df := ⟨"", "claim_line_of", 1, 2, (.cons i_claim_line_of_0 .nil)⟩
def i_item_lines_0 : IS := (.ret (.bin false .Add (.bin false .Add (.var 5) (.call true "proof_lines" (.cons (.idx (.var 0) (.con (.int 5))) .nil))) (.lst false (.cons (.con (.str (Str.ofString "end rule"))) .nil))))
@[simp] theorem ei_item_lines_0 {C : Cf} {sl : Slots} {st : Store} : evS C i_item_lines_0 sl st = evS C (.ret (.bin false .Add (.bin false .Add (.var 5) (.call true "proof_lines" (.cons (.idx (.var 0) (.con (.int 5))) .nil))) (.lst false (.cons (.con (.str (Str.ofString "end rule"))) .nil)))) sl st := nrfl rfl
def i_item_lines_1 : IS := (.tgt (.nm 5) (.bin false .Add (.var 5) (.lc false [4] (.nm 4) (.seq (.idx (.var 0) (.con (.int 4)))) (.con (.bl true)) (.call true "claim_line_of" (.cons (.var 4) .nil)))))
@[simp] theorem ei_item_lines_1 {C : Cf} {sl : Slots} {st : Store} : evS C i_item_lines_1 sl st = evS C (.tgt (.nm 5) (.bin false .Add (.var 5) (.lc false [4] (.nm 4) (.seq (.idx (.var 0) (.con (.int 4)))) (.con (.bl true)) (.call true "claim_line_of" (.cons (.var 4) .nil))))) sl st := nrfl rfl
def i_item_lines_2 : IS := (.tgt (.nm 5) (.bin false .Add (.var 5) (.call true "item_lines" (.cons (.var 6) .nil))))
@[simp] theorem ei_item_lines_2 {C : Cf} {sl : Slots} {st : Store} : evS C i_item_lines_2 sl st = evS C (.tgt (.nm 5) (.bin false .Add (.var 5) (.call true "item_lines" (.cons (.var 6) .nil)))) sl st := nrfl rfl
def wb_item_lines_0 : ISs := (.cons i_item_lines_2 .nil)
def i_item_lines_3 : IS := (.for_ (.nm 6) (.seq (.idx (.var 0) (.con (.int 3)))) wb_item_lines_0)
@[simp] theorem ei_item_lines_3 {C : Cf} {sl : Slots} {st : Store} : evS C i_item_lines_3 sl st = evS C (.for_ (.nm 6) (.seq (.idx (.var 0) (.con (.int 3)))) wb_item_lines_0) sl st := nrfl rfl
def i_item_lines_4 : IS := (.tgt (.nm 5) (.lst false (.cons (.bin false .Add (.con (.str (Str.ofString "rule "))) (.idx (.var 0) (.con (.int 2)))) .nil)))
@[simp] theorem ei_item_lines_4 {C : Cf} {sl : Slots} {st : Store} : evS C i_item_lines_4 sl st = evS C (.tgt (.nm 5) (.lst false (.cons (.bin false .Add (.con (.str (Str.ofString "rule "))) (.idx (.var 0) (.con (.int 2)))) .nil))) sl st := nrfl rfl
def i_item_lines_5 : IS := (.ret (.bin false .Add (.bin false .Add (.lst false (.cons (.bin false .Add (.con (.str (Str.ofString "proof "))) (.idx (.var 0) (.con (.int 2)))) .nil)) (.call true "proof_lines" (.cons (.idx (.var 0) (.con (.int 3))) .nil))) (.lst false (.cons (.con (.str (Str.ofString "end proof"))) .nil))))
@[simp] theorem ei_item_lines_5 {C : Cf} {sl : Slots} {st : Store} : evS C i_item_lines_5 sl st = evS C (.ret (.bin false .Add (.bin false .Add (.lst false (.cons (.bin false .Add (.con (.str (Str.ofString "proof "))) (.idx (.var 0) (.con (.int 2)))) .nil)) (.call true "proof_lines" (.cons (.idx (.var 0) (.con (.int 3))) .nil))) (.lst false (.cons (.con (.str (Str.ofString "end proof"))) .nil)))) sl st := nrfl rfl
def i_item_lines_6 : IS := (.ife (.cmp .Eq (.var 1) (.con (.str (Str.ofString "proof")))) (.cons i_item_lines_5 .nil) .nil)
@[simp] theorem ei_item_lines_6 {C : Cf} {sl : Slots} {st : Store} : evS C i_item_lines_6 sl st = evS C (.ife (.cmp .Eq (.var 1) (.con (.str (Str.ofString "proof")))) (.cons i_item_lines_5 .nil) .nil) sl st := nrfl rfl
def i_item_lines_7 : IS := (.ret (.bin false .Add (.bin false .Add (.lst false (.cons (.bin false .Add (.con (.str (Str.ofString "claim "))) (.idx (.var 0) (.con (.int 2)))) .nil)) (.lc false [4] (.nm 4) (.seq (.idx (.var 0) (.con (.int 3)))) (.con (.bl true)) (.call true "claim_line_of" (.cons (.var 4) .nil)))) (.lst false (.cons (.con (.str (Str.ofString "end claim"))) .nil))))
@[simp] theorem ei_item_lines_7 {C : Cf} {sl : Slots} {st : Store} : evS C i_item_lines_7 sl st = evS C (.ret (.bin false .Add (.bin false .Add (.lst false (.cons (.bin false .Add (.con (.str (Str.ofString "claim "))) (.idx (.var 0) (.con (.int 2)))) .nil)) (.lc false [4] (.nm 4) (.seq (.idx (.var 0) (.con (.int 3)))) (.con (.bl true)) (.call true "claim_line_of" (.cons (.var 4) .nil)))) (.lst false (.cons (.con (.str (Str.ofString "end claim"))) .nil)))) sl st := nrfl rfl
def i_item_lines_8 : IS := (.ife (.cmp .Eq (.var 1) (.con (.str (Str.ofString "claim")))) (.cons i_item_lines_7 .nil) .nil)
@[simp] theorem ei_item_lines_8 {C : Cf} {sl : Slots} {st : Store} : evS C i_item_lines_8 sl st = evS C (.ife (.cmp .Eq (.var 1) (.con (.str (Str.ofString "claim")))) (.cons i_item_lines_7 .nil) .nil) sl st := nrfl rfl
def j_item_lines_9 : ISs := (.cons (.ret (.call true "kind_lines" (.cons (.var 0) .nil))) .nil)
@[simp] theorem ej_item_lines_9 {C : Cf} {sl : Slots} {st : Store} : evSs C j_item_lines_9 sl st = evSs C (.cons (.ret (.call true "kind_lines" (.cons (.var 0) .nil))) .nil) sl st := nrfl rfl
def i_item_lines_10 : IS := (.ife (.cmp .Eq (.var 1) (.con (.str (Str.ofString "kind")))) j_item_lines_9 .nil)
@[simp] theorem ei_item_lines_10 {C : Cf} {sl : Slots} {st : Store} : evS C i_item_lines_10 sl st = evS C (.ife (.cmp .Eq (.var 1) (.con (.str (Str.ofString "kind")))) j_item_lines_9 .nil) sl st := nrfl rfl
def i_item_lines_11 : IS := (.ret (.lst false (.cons (.bin false .Add (.bin false .Add (.bin false .Add (.con (.str (Str.ofString "let "))) (.idx (.var 0) (.con (.int 2)))) (.con (.str (Str.ofString " ")))) (.bm false "join" (.con (.str (Str.ofString " "))) (.cons (.lc false [2, 3] (.tp (.cons (.nm 2) (.cons (.nm 3) .nil))) (.seq (.idx (.var 0) (.con (.int 3)))) (.con (.bl true)) (.bin false .Add (.bin false .Add (.blt false "str" (.cons (.var 2) .nil)) (.con (.str (Str.ofString " ")))) (.var 3))) .nil))) .nil)))
@[simp] theorem ei_item_lines_11 {C : Cf} {sl : Slots} {st : Store} : evS C i_item_lines_11 sl st = evS C (.ret (.lst false (.cons (.bin false .Add (.bin false .Add (.bin false .Add (.con (.str (Str.ofString "let "))) (.idx (.var 0) (.con (.int 2)))) (.con (.str (Str.ofString " ")))) (.bm false "join" (.con (.str (Str.ofString " "))) (.cons (.lc false [2, 3] (.tp (.cons (.nm 2) (.cons (.nm 3) .nil))) (.seq (.idx (.var 0) (.con (.int 3)))) (.con (.bl true)) (.bin false .Add (.bin false .Add (.blt false "str" (.cons (.var 2) .nil)) (.con (.str (Str.ofString " ")))) (.var 3))) .nil))) .nil))) sl st := nrfl rfl
def i_item_lines_12 : IS := (.ife (.cmp .Eq (.var 1) (.con (.str (Str.ofString "let")))) (.cons i_item_lines_11 .nil) .nil)
@[simp] theorem ei_item_lines_12 {C : Cf} {sl : Slots} {st : Store} : evS C i_item_lines_12 sl st = evS C (.ife (.cmp .Eq (.var 1) (.con (.str (Str.ofString "let")))) (.cons i_item_lines_11 .nil) .nil) sl st := nrfl rfl
def i_item_lines_13 : IS := (.ret (.lst false (.cons (.bin false .Add (.con (.str (Str.ofString "show "))) (.bm false "join" (.con (.str (Str.ofString " "))) (.cons (.idx (.var 0) (.con (.int 2))) .nil))) .nil)))
@[simp] theorem ei_item_lines_13 {C : Cf} {sl : Slots} {st : Store} : evS C i_item_lines_13 sl st = evS C (.ret (.lst false (.cons (.bin false .Add (.con (.str (Str.ofString "show "))) (.bm false "join" (.con (.str (Str.ofString " "))) (.cons (.idx (.var 0) (.con (.int 2))) .nil))) .nil))) sl st := nrfl rfl
def i_item_lines_14 : IS := (.ife (.cmp .Eq (.var 1) (.con (.str (Str.ofString "show")))) (.cons i_item_lines_13 .nil) .nil)
@[simp] theorem ei_item_lines_14 {C : Cf} {sl : Slots} {st : Store} : evS C i_item_lines_14 sl st = evS C (.ife (.cmp .Eq (.var 1) (.con (.str (Str.ofString "show")))) (.cons i_item_lines_13 .nil) .nil) sl st := nrfl rfl
def i_item_lines_15 : IS := (.ret (.lst false (.cons (.bin false .Add (.bin false .Add (.var 1) (.con (.str (Str.ofString " ")))) (.idx (.var 0) (.con (.int 2)))) .nil)))
@[simp] theorem ei_item_lines_15 {C : Cf} {sl : Slots} {st : Store} : evS C i_item_lines_15 sl st = evS C (.ret (.lst false (.cons (.bin false .Add (.bin false .Add (.var 1) (.con (.str (Str.ofString " ")))) (.idx (.var 0) (.con (.int 2)))) .nil))) sl st := nrfl rfl
def i_item_lines_16 : IS := (.ife (.cmp .In (.var 1) (.tup (.cons (.con (.str (Str.ofString "use"))) (.cons (.con (.str (Str.ofString "tie"))) .nil)))) (.cons i_item_lines_15 .nil) .nil)
@[simp] theorem ei_item_lines_16 {C : Cf} {sl : Slots} {st : Store} : evS C i_item_lines_16 sl st = evS C (.ife (.cmp .In (.var 1) (.tup (.cons (.con (.str (Str.ofString "use"))) (.cons (.con (.str (Str.ofString "tie"))) .nil)))) (.cons i_item_lines_15 .nil) .nil) sl st := nrfl rfl
def d_item_lines : Df := ⟨"", "item_lines", 1, 7, (.cons (.tgt (.nm 1) (.idx (.var 0) (.con (.int 0)))) (.cons i_item_lines_16 (.cons i_item_lines_14 (.cons i_item_lines_12 (.cons i_item_lines_10 (.cons i_item_lines_8 (.cons i_item_lines_6 (.cons i_item_lines_4 (.cons i_item_lines_3 (.cons i_item_lines_1 (.cons i_item_lines_0 .nil)))))))))))⟩
def i_module_lines_0 : IS := (.ret (.bin false .Add (.var 2) (.lst false (.cons (.con (.str (Str.ofString "end module"))) .nil))))
@[simp] theorem ei_module_lines_0 {C : Cf} {sl : Slots} {st : Store} : evS C i_module_lines_0 sl st = evS C (.ret (.bin false .Add (.var 2) (.lst false (.cons (.con (.str (Str.ofString "end module"))) .nil)))) sl st := nrfl rfl
def i_module_lines_1 : IS := (.tgt (.nm 2) (.bin false .Add (.var 2) (.call true "item_lines" (.cons (.var 3) .nil))))
@[simp] theorem ei_module_lines_1 {C : Cf} {sl : Slots} {st : Store} : evS C i_module_lines_1 sl st = evS C (.tgt (.nm 2) (.bin false .Add (.var 2) (.call true "item_lines" (.cons (.var 3) .nil)))) sl st := nrfl rfl
def wb_module_lines_0 : ISs := (.cons i_module_lines_1 .nil)
def i_module_lines_2 : IS := (.tgt (.nm 2) (.lst false (.cons (.bin false .Add (.con (.str (Str.ofString "module "))) (.var 0)) .nil)))
@[simp] theorem ei_module_lines_2 {C : Cf} {sl : Slots} {st : Store} : evS C i_module_lines_2 sl st = evS C (.tgt (.nm 2) (.lst false (.cons (.bin false .Add (.con (.str (Str.ofString "module "))) (.var 0)) .nil))) sl st := nrfl rfl
def d_module_lines : Df := ⟨"", "module_lines", 2, 4, (.cons i_module_lines_2 (.cons (.for_ (.nm 3) (.seq (.var 1)) wb_module_lines_0) (.cons i_module_lines_0 .nil)))⟩
def i_write_text_0 : IS := (.ret (.bm false "join" (.con (.str (Str.ofString "\n"))) (.cons (.bin false .Add (.var 1) (.lst false (.cons (.con (.str (Str.ofString "end book"))) .nil))) .nil)))
@[simp] theorem ei_write_text_0 {C : Cf} {sl : Slots} {st : Store} : evS C i_write_text_0 sl st = evS C (.ret (.bm false "join" (.con (.str (Str.ofString "\n"))) (.cons (.bin false .Add (.var 1) (.lst false (.cons (.con (.str (Str.ofString "end book"))) .nil))) .nil))) sl st := nrfl rfl
def i_write_text_1 : IS := (.tgt (.nm 1) (.bin false .Add (.var 1) (.call true "module_lines" (.cons (.var 2) (.cons (.var 3) .nil)))))
@[simp] theorem ei_write_text_1 {C : Cf} {sl : Slots} {st : Store} : evS C i_write_text_1 sl st = evS C (.tgt (.nm 1) (.bin false .Add (.var 1) (.call true "module_lines" (.cons (.var 2) (.cons (.var 3) .nil))))) sl st := nrfl rfl
def wb_write_text_0 : ISs := (.cons i_write_text_1 .nil)
def i_write_text_2 : IS := (.for_ (.tp (.cons (.nm 2) (.cons (.nm 3) .nil))) (.seq (.meth true (.var 0) "parts" .nil)) wb_write_text_0)
@[simp] theorem ei_write_text_2 {C : Cf} {sl : Slots} {st : Store} : evS C i_write_text_2 sl st = evS C (.for_ (.tp (.cons (.nm 2) (.cons (.nm 3) .nil))) (.seq (.meth true (.var 0) "parts" .nil)) wb_write_text_0) sl st := nrfl rfl
def i_write_text_3 : IS := (.tgt (.nm 1) (.lst false (.cons (.bin false .Add (.con (.str (Str.ofString "book "))) (.meth true (.var 0) "name" .nil)) .nil)))
@[simp] theorem ei_write_text_3 {C : Cf} {sl : Slots} {st : Store} : evS C i_write_text_3 sl st = evS C (.tgt (.nm 1) (.lst false (.cons (.bin false .Add (.con (.str (Str.ofString "book "))) (.meth true (.var 0) "name" .nil)) .nil))) sl st := nrfl rfl
def d_write_text : Df := ⟨"", "write_text", 1, 4, (.cons i_write_text_3 (.cons i_write_text_2 (.cons i_write_text_0 .nil)))⟩
def i_law_source_0 : IS := (.ret (.lst true (.cons (.ite (.cmp .GtE (.var 4) (.bin false .Pow (.con (.int 10)) (.con (.int 18)))) (.var 4) (.con (.int 0))) (.cons (.bin false .Mod (.blt false "int" (.cons (.bin false .Mult (.bin false .Add (.var 5) (.con (.int 6133))) (.bin false .Add (.var 5) (.con (.int 99991)))) .nil)) (.con (.int 2147483629))) (.cons (.var 1) .nil)))))
@[simp] theorem ei_law_source_0 {C : Cf} {sl : Slots} {st : Store} : evS C i_law_source_0 sl st = evS C (.ret (.lst true (.cons (.ite (.cmp .GtE (.var 4) (.bin false .Pow (.con (.int 10)) (.con (.int 18)))) (.var 4) (.con (.int 0))) (.cons (.bin false .Mod (.blt false "int" (.cons (.bin false .Mult (.bin false .Add (.var 5) (.con (.int 6133))) (.bin false .Add (.var 5) (.con (.int 99991)))) .nil)) (.con (.int 2147483629))) (.cons (.var 1) .nil))))) sl st := nrfl rfl
def i_law_source_1 : IS := (.tgt (.nm 5) (.bin false .Mod (.blt false "int" (.cons (.bin false .Add (.bin false .Add (.bin false .Add (.bin false .Mult (.con (.int 2)) (.var 4)) (.ite (.cmp .Lt (.var 2) (.con (.int 0))) (.con (.int 1)) (.con (.int 0)))) (.bin false .Mult (.var 1) (.con (.int 104711)))) (.con (.int 40009))) .nil)) (.con (.int 2147483629))))
@[simp] theorem ei_law_source_1 {C : Cf} {sl : Slots} {st : Store} : evS C i_law_source_1 sl st = evS C (.tgt (.nm 5) (.bin false .Mod (.blt false "int" (.cons (.bin false .Add (.bin false .Add (.bin false .Add (.bin false .Mult (.con (.int 2)) (.var 4)) (.ite (.cmp .Lt (.var 2) (.con (.int 0))) (.con (.int 1)) (.con (.int 0)))) (.bin false .Mult (.var 1) (.con (.int 104711)))) (.con (.int 40009))) .nil)) (.con (.int 2147483629)))) sl st := nrfl rfl
def i_law_source_2 : IS := (.tgt (.nm 4) (.bin false .Mod (.blt false "abs" (.cons (.var 2) .nil)) (.bin false .Mult (.bin false .Pow (.con (.int 10)) (.con (.int 60))) (.bin false .Pow (.con (.int 10)) (.con (.int 60))))))
@[simp] theorem ei_law_source_2 {C : Cf} {sl : Slots} {st : Store} : evS C i_law_source_2 sl st = evS C (.tgt (.nm 4) (.bin false .Mod (.blt false "abs" (.cons (.var 2) .nil)) (.bin false .Mult (.bin false .Pow (.con (.int 10)) (.con (.int 60))) (.bin false .Pow (.con (.int 10)) (.con (.int 60)))))) sl st := nrfl rfl
def i_law_source_3 : IS := (.tgt (.nm 2) (.ite (.cmp .Lt (.var 1) (.blt false "len" (.cons (.var 0) .nil))) (.blt false "int" (.cons (.idx (.var 0) (.var 1)) .nil)) (.bin false .Add (.bin false .Add (.bin false .Mult (.con (.int 37)) (.blt false "sum" (.cons (.lc false [3] (.nm 3) (.seq (.slc false (.var 0) (.con .non) (.con (.int 8)))) (.con (.bl true)) (.bin false .Mod (.blt false "int" (.cons (.var 3) .nil)) (.con (.int 999983)))) .nil))) (.bin false .Mult (.con (.int 29)) (.var 1))) (.con (.int 11)))))
@[simp] theorem ei_law_source_3 {C : Cf} {sl : Slots} {st : Store} : evS C i_law_source_3 sl st = evS C (.tgt (.nm 2) (.ite (.cmp .Lt (.var 1) (.blt false "len" (.cons (.var 0) .nil))) (.blt false "int" (.cons (.idx (.var 0) (.var 1)) .nil)) (.bin false .Add (.bin false .Add (.bin false .Mult (.con (.int 37)) (.blt false "sum" (.cons (.lc false [3] (.nm 3) (.seq (.slc false (.var 0) (.con .non) (.con (.int 8)))) (.con (.bl true)) (.bin false .Mod (.blt false "int" (.cons (.var 3) .nil)) (.con (.int 999983)))) .nil))) (.bin false .Mult (.con (.int 29)) (.var 1))) (.con (.int 11))))) sl st := nrfl rfl
def d_law_source : Df := ⟨"", "_law_source", 2, 6, (.cons i_law_source_3 (.cons i_law_source_2 (.cons i_law_source_1 (.cons i_law_source_0 .nil))))⟩
def i_law_pick_0 : IS := (.ret (.bin false .Mod (.bin false .FloorDiv (.bin false .Mod (.blt false "int" (.cons (.bin false .Add (.bin false .Mult (.idx (.var 0) (.con (.int 1))) (.con (.int 16807))) (.bin false .Mult (.idx (.var 0) (.con (.int 2))) (.con (.int 7919)))) .nil)) (.con (.int 2147483629))) (.con (.int 8))) (.var 1)))
@[simp] theorem ei_law_pick_0 {C : Cf} {sl : Slots} {st : Store} : evS C i_law_pick_0 sl st = evS C (.ret (.bin false .Mod (.bin false .FloorDiv (.bin false .Mod (.blt false "int" (.cons (.bin false .Add (.bin false .Mult (.idx (.var 0) (.con (.int 1))) (.con (.int 16807))) (.bin false .Mult (.idx (.var 0) (.con (.int 2))) (.con (.int 7919)))) .nil)) (.con (.int 2147483629))) (.con (.int 8))) (.var 1))) sl st := nrfl rfl
def i_law_pick_1 : IS := (.sub (.var 0) (.con (.int 1)) (.bin false .Mod (.blt false "int" (.cons (.bin false .Add (.bin false .Add (.bin false .Mult (.idx (.var 0) (.con (.int 1))) (.con (.int 48271))) (.bin false .Mult (.idx (.var 0) (.con (.int 2))) (.con (.int 51511)))) (.con (.int 17))) .nil)) (.con (.int 2147483647))))
@[simp] theorem ei_law_pick_1 {C : Cf} {sl : Slots} {st : Store} : evS C i_law_pick_1 sl st = evS C (.sub (.var 0) (.con (.int 1)) (.bin false .Mod (.blt false "int" (.cons (.bin false .Add (.bin false .Add (.bin false .Mult (.idx (.var 0) (.con (.int 1))) (.con (.int 48271))) (.bin false .Mult (.idx (.var 0) (.con (.int 2))) (.con (.int 51511)))) (.con (.int 17))) .nil)) (.con (.int 2147483647)))) sl st := nrfl rfl
def i_law_pick_2 : IS := (.sub (.var 0) (.con (.int 0)) (.bin false .FloorDiv (.idx (.var 0) (.con (.int 0))) (.var 1)))
@[simp] theorem ei_law_pick_2 {C : Cf} {sl : Slots} {st : Store} : evS C i_law_pick_2 sl st = evS C (.sub (.var 0) (.con (.int 0)) (.bin false .FloorDiv (.idx (.var 0) (.con (.int 0))) (.var 1))) sl st := nrfl rfl
def i_law_pick_3 : IS := (.tgt (.nm 2) (.bin false .Mod (.blt false "int" (.cons (.idx (.var 0) (.con (.int 0))) .nil)) (.var 1)))
@[simp] theorem ei_law_pick_3 {C : Cf} {sl : Slots} {st : Store} : evS C i_law_pick_3 sl st = evS C (.tgt (.nm 2) (.bin false .Mod (.blt false "int" (.cons (.idx (.var 0) (.con (.int 0))) .nil)) (.var 1))) sl st := nrfl rfl
def j_law_pick_4 : ISs := (.cons i_law_pick_3 (.cons i_law_pick_2 (.cons (.ret (.var 2)) .nil)))
@[simp] theorem ej_law_pick_4 {C : Cf} {sl : Slots} {st : Store} : evSs C j_law_pick_4 sl st = evSs C (.cons i_law_pick_3 (.cons i_law_pick_2 (.cons (.ret (.var 2)) .nil))) sl st := nrfl rfl
def i_law_pick_5 : IS := (.ife (.cmp .Gt (.idx (.var 0) (.con (.int 0))) (.con (.int 0))) j_law_pick_4 .nil)
@[simp] theorem ei_law_pick_5 {C : Cf} {sl : Slots} {st : Store} : evS C i_law_pick_5 sl st = evS C (.ife (.cmp .Gt (.idx (.var 0) (.con (.int 0))) (.con (.int 0))) j_law_pick_4 .nil) sl st := nrfl rfl
def d_law_pick : Df := ⟨"", "_law_pick", 2, 3, (.cons i_law_pick_5 (.cons (.augS (.var 0) (.con (.int 2)) .Add (.con (.int 1))) (.cons i_law_pick_1 (.cons i_law_pick_0 .nil))))⟩
def i_law_choice_0 : IS := (.ret (.idx (.var 1) (.call true "_law_pick" (.cons (.var 0) (.cons (.blt false "len" (.cons (.var 1) .nil)) .nil)))))
@[simp] theorem ei_law_choice_0 {C : Cf} {sl : Slots} {st : Store} : evS C i_law_choice_0 sl st = evS C (.ret (.idx (.var 1) (.call true "_law_pick" (.cons (.var 0) (.cons (.blt false "len" (.cons (.var 1) .nil)) .nil))))) sl st := nrfl rfl
def d_law_choice : Df := ⟨"", "_law_choice", 2, 2, (.cons i_law_choice_0 .nil)⟩
def i_law_shuffled_0 : IS := (.ex (.bm false "append" (.var 3) (.cons (.bm false "pop" (.var 2) (.cons (.call true "_law_pick" (.cons (.var 0) (.cons (.blt false "len" (.cons (.var 2) .nil)) .nil))) .nil)) .nil)))
@[simp] theorem ei_law_shuffled_0 {C : Cf} {sl : Slots} {st : Store} : evS C i_law_shuffled_0 sl st = evS C (.ex (.bm false "append" (.var 3) (.cons (.bm false "pop" (.var 2) (.cons (.call true "_law_pick" (.cons (.var 0) (.cons (.blt false "len" (.cons (.var 2) .nil)) .nil))) .nil)) .nil))) sl st := nrfl rfl
def wc_law_shuffled_0 : IE := (.cmp .Gt (.blt false "len" (.cons (.var 2) .nil)) (.con (.int 0)))
def wb_law_shuffled_0 : ISs := (.cons i_law_shuffled_0 .nil)
def d_law_shuffled : Df := ⟨"", "_law_shuffled", 2, 4, (.cons (.tgt (.nm 2) (.blt true "list" (.cons (.var 1) .nil))) (.cons (.tgt (.nm 3) (.lst true .nil)) (.cons (.whl wc_law_shuffled_0 wb_law_shuffled_0) (.cons (.ret (.var 3)) .nil))))⟩
def i_law_names_0 : IS := (.ret (.call true "_law_shuffled" (.cons (.var 0) (.cons (.lc false [5] (.nm 5) (.rng1 (.var 1)) (.con (.bl true)) (.bin false .Add (.bin false .Add (.var 4) (.blt false "str" (.cons (.bin false .Add (.bin false .Add (.con (.int 1000)) (.bin false .Mult (.var 2) (.con (.int 100)))) (.var 5)) .nil))) (.var 6))) .nil))))
@[simp] theorem ei_law_names_0 {C : Cf} {sl : Slots} {st : Store} : evS C i_law_names_0 sl st = evS C (.ret (.call true "_law_shuffled" (.cons (.var 0) (.cons (.lc false [5] (.nm 5) (.rng1 (.var 1)) (.con (.bl true)) (.bin false .Add (.bin false .Add (.var 4) (.blt false "str" (.cons (.bin false .Add (.bin false .Add (.con (.int 1000)) (.bin false .Mult (.var 2) (.con (.int 100)))) (.var 5)) .nil))) (.var 6))) .nil)))) sl st := nrfl rfl
def i_law_names_1 : IS := (.tgt (.nm 6) (.ite (.cmp .Eq (.call true "_law_pick" (.cons (.var 0) (.cons (.con (.int 2)) .nil))) (.con (.int 0))) (.idx (.var 3) (.call true "_law_pick" (.cons (.var 0) (.cons (.con (.int 52)) .nil)))) (.con (.str (Str.ofString "")))))
@[simp] theorem ei_law_names_1 {C : Cf} {sl : Slots} {st : Store} : evS C i_law_names_1 sl st = evS C (.tgt (.nm 6) (.ite (.cmp .Eq (.call true "_law_pick" (.cons (.var 0) (.cons (.con (.int 2)) .nil))) (.con (.int 0))) (.idx (.var 3) (.call true "_law_pick" (.cons (.var 0) (.cons (.con (.int 52)) .nil)))) (.con (.str (Str.ofString ""))))) sl st := nrfl rfl
def i_law_names_2 : IS := (.tgt (.nm 4) (.bm false "join" (.con (.str (Str.ofString ""))) (.cons (.lc false [5] (.nm 5) (.rng1 (.bin false .Add (.con (.int 1)) (.call true "_law_pick" (.cons (.var 0) (.cons (.con (.int 3)) .nil))))) (.con (.bl true)) (.idx (.var 3) (.call true "_law_pick" (.cons (.var 0) (.cons (.con (.int 52)) .nil))))) .nil)))
@[simp] theorem ei_law_names_2 {C : Cf} {sl : Slots} {st : Store} : evS C i_law_names_2 sl st = evS C (.tgt (.nm 4) (.bm false "join" (.con (.str (Str.ofString ""))) (.cons (.lc false [5] (.nm 5) (.rng1 (.bin false .Add (.con (.int 1)) (.call true "_law_pick" (.cons (.var 0) (.cons (.con (.int 3)) .nil))))) (.con (.bl true)) (.idx (.var 3) (.call true "_law_pick" (.cons (.var 0) (.cons (.con (.int 52)) .nil))))) .nil))) sl st := nrfl rfl
def i_law_names_3 : IS := (.tgt (.nm 3) (.con (.str (Str.ofString "abcdefghijklmnopqrstuvwxyzABCDEFGHIJKLMNOPQRSTUVWXYZ"))))
@[simp] theorem ei_law_names_3 {C : Cf} {sl : Slots} {st : Store} : evS C i_law_names_3 sl st = evS C (.tgt (.nm 3) (.con (.str (Str.ofString "abcdefghijklmnopqrstuvwxyzABCDEFGHIJKLMNOPQRSTUVWXYZ")))) sl st := nrfl rfl
def d_law_names : Df := ⟨"", "_law_names", 3, 7, (.cons i_law_names_3 (.cons i_law_names_2 (.cons i_law_names_1 (.cons i_law_names_0 .nil))))⟩
def i_law_same_0 : IS := (.ret (.and (.or (.cmp .Is (.var 0) (.con .non)) (.isi (.cons (.var 0) (.cons (.tup (.cons (.bty "int") (.cons (.bty "str") .nil))) .nil)))) (.cmp .Eq (.blt false "repr" (.cons (.var 0) .nil)) (.blt false "repr" (.cons (.var 1) .nil)))))
@[simp] theorem ei_law_same_0 {C : Cf} {sl : Slots} {st : Store} : evS C i_law_same_0 sl st = evS C (.ret (.and (.or (.cmp .Is (.var 0) (.con .non)) (.isi (.cons (.var 0) (.cons (.tup (.cons (.bty "int") (.cons (.bty "str") .nil))) .nil)))) (.cmp .Eq (.blt false "repr" (.cons (.var 0) .nil)) (.blt false "repr" (.cons (.var 1) .nil))))) sl st := nrfl rfl
def i_law_same_1 : IS := (.ret (.and (.cmp .Eq (.blt false "len" (.cons (.var 0) .nil)) (.blt false "len" (.cons (.var 1) .nil))) (.blt false "all" (.cons (.lc false [3] (.nm 3) (.rng1 (.blt false "len" (.cons (.var 1) .nil))) (.con (.bl true)) (.call true "_law_same" (.cons (.idx (.var 0) (.var 3)) (.cons (.idx (.var 1) (.var 3)) .nil)))) .nil))))
@[simp] theorem ei_law_same_1 {C : Cf} {sl : Slots} {st : Store} : evS C i_law_same_1 sl st = evS C (.ret (.and (.cmp .Eq (.blt false "len" (.cons (.var 0) .nil)) (.blt false "len" (.cons (.var 1) .nil))) (.blt false "all" (.cons (.lc false [3] (.nm 3) (.rng1 (.blt false "len" (.cons (.var 1) .nil))) (.con (.bl true)) (.call true "_law_same" (.cons (.idx (.var 0) (.var 3)) (.cons (.idx (.var 1) (.var 3)) .nil)))) .nil)))) sl st := nrfl rfl
def j_law_same_2 : ISs := (.cons (.ret (.con (.bl false))) .nil)
@[simp] theorem ej_law_same_2 {C : Cf} {sl : Slots} {st : Store} : evSs C j_law_same_2 sl st = evSs C (.cons (.ret (.con (.bl false))) .nil) sl st := nrfl rfl
def i_law_same_3 : IS := (.ife (.or (.cmp .NotEq (.isi (.cons (.var 1) (.cons (.bty "list") .nil))) (.isi (.cons (.var 0) (.cons (.bty "list") .nil)))) (.cmp .NotEq (.isi (.cons (.var 1) (.cons (.bty "tuple") .nil))) (.isi (.cons (.var 0) (.cons (.bty "tuple") .nil))))) j_law_same_2 .nil)
@[simp] theorem ei_law_same_3 {C : Cf} {sl : Slots} {st : Store} : evS C i_law_same_3 sl st = evS C (.ife (.or (.cmp .NotEq (.isi (.cons (.var 1) (.cons (.bty "list") .nil))) (.isi (.cons (.var 0) (.cons (.bty "list") .nil)))) (.cmp .NotEq (.isi (.cons (.var 1) (.cons (.bty "tuple") .nil))) (.isi (.cons (.var 0) (.cons (.bty "tuple") .nil))))) j_law_same_2 .nil) sl st := nrfl rfl
def j_law_same_4 : ISs := (.cons i_law_same_3 (.cons i_law_same_1 .nil))
@[simp] theorem ej_law_same_4 {C : Cf} {sl : Slots} {st : Store} : evSs C j_law_same_4 sl st = evSs C (.cons i_law_same_3 (.cons i_law_same_1 .nil)) sl st := nrfl rfl
def i_law_same_5 : IS := (.ife (.isi (.cons (.var 1) (.cons (.tup (.cons (.bty "list") (.cons (.bty "tuple") .nil))) .nil))) j_law_same_4 .nil)
@[simp] theorem ei_law_same_5 {C : Cf} {sl : Slots} {st : Store} : evS C i_law_same_5 sl st = evS C (.ife (.isi (.cons (.var 1) (.cons (.tup (.cons (.bty "list") (.cons (.bty "tuple") .nil))) .nil))) j_law_same_4 .nil) sl st := nrfl rfl
def i_law_same_6 : IS := (.ret (.blt false "all" (.cons (.lc false [2] (.nm 2) (.seq (.var 1)) (.con (.bl true)) (.and (.cmp .In (.var 2) (.var 0)) (.call true "_law_same" (.cons (.idx (.var 0) (.var 2)) (.cons (.idx (.var 1) (.var 2)) .nil))))) .nil)))
@[simp] theorem ei_law_same_6 {C : Cf} {sl : Slots} {st : Store} : evS C i_law_same_6 sl st = evS C (.ret (.blt false "all" (.cons (.lc false [2] (.nm 2) (.seq (.var 1)) (.con (.bl true)) (.and (.cmp .In (.var 2) (.var 0)) (.call true "_law_same" (.cons (.idx (.var 0) (.var 2)) (.cons (.idx (.var 1) (.var 2)) .nil))))) .nil))) sl st := nrfl rfl
def j_law_same_7 : ISs := (.cons (.ret (.con (.bl false))) .nil)
@[simp] theorem ej_law_same_7 {C : Cf} {sl : Slots} {st : Store} : evSs C j_law_same_7 sl st = evSs C (.cons (.ret (.con (.bl false))) .nil) sl st := nrfl rfl
def i_law_same_8 : IS := (.ife (.or (.notE (.isi (.cons (.var 0) (.cons (.bty "dict") .nil)))) (.cmp .NotEq (.blt false "len" (.cons (.var 0) .nil)) (.blt false "len" (.cons (.var 1) .nil)))) j_law_same_7 .nil)
@[simp] theorem ei_law_same_8 {C : Cf} {sl : Slots} {st : Store} : evS C i_law_same_8 sl st = evS C (.ife (.or (.notE (.isi (.cons (.var 0) (.cons (.bty "dict") .nil)))) (.cmp .NotEq (.blt false "len" (.cons (.var 0) .nil)) (.blt false "len" (.cons (.var 1) .nil)))) j_law_same_7 .nil) sl st := nrfl rfl
def j_law_same_9 : ISs := (.cons i_law_same_8 (.cons i_law_same_6 .nil))
@[simp] theorem ej_law_same_9 {C : Cf} {sl : Slots} {st : Store} : evSs C j_law_same_9 sl st = evSs C (.cons i_law_same_8 (.cons i_law_same_6 .nil)) sl st := nrfl rfl
def i_law_same_10 : IS := (.ife (.isi (.cons (.var 1) (.cons (.bty "dict") .nil))) j_law_same_9 .nil)
@[simp] theorem ei_law_same_10 {C : Cf} {sl : Slots} {st : Store} : evS C i_law_same_10 sl st = evS C (.ife (.isi (.cons (.var 1) (.cons (.bty "dict") .nil))) j_law_same_9 .nil) sl st := nrfl rfl
def d_law_same : Df := ⟨"", "_law_same", 2, 4, (.cons i_law_same_10 (.cons i_law_same_5 (.cons i_law_same_0 .nil)))⟩
def i_law_name_0 : IS := (.ret (.ite (.cmp .In (.var 4) (.var 2)) (.bin false .Add (.var 4) (.con (.str (Str.ofString "1")))) (.var 4)))
@[simp] theorem ei_law_name_0 {C : Cf} {sl : Slots} {st : Store} : evS C i_law_name_0 sl st = evS C (.ret (.ite (.cmp .In (.var 4) (.var 2)) (.bin false .Add (.var 4) (.con (.str (Str.ofString "1")))) (.var 4))) sl st := nrfl rfl
def i_law_name_1 : IS := (.tgt (.nm 4) (.bin false .Add (.idx (.var 1) (.call true "_law_pick" (.cons (.var 0) (.cons (.con (.int 52)) .nil)))) (.bm false "join" (.con (.str (Str.ofString ""))) (.cons (.lc false [5] (.nm 5) (.rng1 (.var 3)) (.con (.bl true)) (.idx (.bin false .Add (.var 1) (.con (.str (Str.ofString "0123456789")))) (.call true "_law_pick" (.cons (.var 0) (.cons (.con (.int 62)) .nil))))) .nil))))
@[simp] theorem ei_law_name_1 {C : Cf} {sl : Slots} {st : Store} : evS C i_law_name_1 sl st = evS C (.tgt (.nm 4) (.bin false .Add (.idx (.var 1) (.call true "_law_pick" (.cons (.var 0) (.cons (.con (.int 52)) .nil)))) (.bm false "join" (.con (.str (Str.ofString ""))) (.cons (.lc false [5] (.nm 5) (.rng1 (.var 3)) (.con (.bl true)) (.idx (.bin false .Add (.var 1) (.con (.str (Str.ofString "0123456789")))) (.call true "_law_pick" (.cons (.var 0) (.cons (.con (.int 62)) .nil))))) .nil)))) sl st := nrfl rfl
def i_law_name_2 : IS := (.tgt (.nm 3) (.ite (.cmp .Eq (.call true "_law_pick" (.cons (.var 0) (.cons (.con (.int 8)) .nil))) (.con (.int 0))) (.con (.int 15)) (.call true "_law_pick" (.cons (.var 0) (.cons (.con (.int 5)) .nil)))))
@[simp] theorem ei_law_name_2 {C : Cf} {sl : Slots} {st : Store} : evS C i_law_name_2 sl st = evS C (.tgt (.nm 3) (.ite (.cmp .Eq (.call true "_law_pick" (.cons (.var 0) (.cons (.con (.int 8)) .nil))) (.con (.int 0))) (.con (.int 15)) (.call true "_law_pick" (.cons (.var 0) (.cons (.con (.int 5)) .nil))))) sl st := nrfl rfl
def i_law_name_3 : IS := (.tgt (.nm 2) (.bm false "split" (.con (.str (Str.ofString "book module use tie kind plug socket let claim want seat more within wires shares rule proof search lanes at to from by with rest show end"))) (.cons (.con (.str (Str.ofString " "))) .nil)))
@[simp] theorem ei_law_name_3 {C : Cf} {sl : Slots} {st : Store} : evS C i_law_name_3 sl st = evS C (.tgt (.nm 2) (.bm false "split" (.con (.str (Str.ofString "book module use tie kind plug socket let claim want seat more within wires shares rule proof search lanes at to from by with rest show end"))) (.cons (.con (.str (Str.ofString " "))) .nil))) sl st := nrfl rfl
def i_law_name_4 : IS := (.tgt (.nm 1) (.con (.str (Str.ofString "abcdefghijklmnopqrstuvwxyzABCDEFGHIJKLMNOPQRSTUVWXYZ"))))
@[simp] theorem ei_law_name_4 {C : Cf} {sl : Slots} {st : Store} : evS C i_law_name_4 sl st = evS C (.tgt (.nm 1) (.con (.str (Str.ofString "abcdefghijklmnopqrstuvwxyzABCDEFGHIJKLMNOPQRSTUVWXYZ")))) sl st := nrfl rfl
def d_law_name : Df := ⟨"", "_law_name", 1, 6, (.cons i_law_name_4 (.cons i_law_name_3 (.cons i_law_name_2 (.cons i_law_name_1 (.cons i_law_name_0 .nil)))))⟩
def i_law_ref_0 : IS := (.ret (.ite (.or (.var 1) (.cmp .Eq (.call true "_law_pick" (.cons (.var 0) (.cons (.con (.int 2)) .nil))) (.con (.int 0)))) (.call true "_law_name" (.cons (.var 0) .nil)) (.bin false .Add (.bin false .Add (.call true "_law_name" (.cons (.var 0) .nil)) (.con (.str (Str.ofString ".")))) (.call true "_law_name" (.cons (.var 0) .nil)))))
@[simp] theorem ei_law_ref_0 {C : Cf} {sl : Slots} {st : Store} : evS C i_law_ref_0 sl st = evS C (.ret (.ite (.or (.var 1) (.cmp .Eq (.call true "_law_pick" (.cons (.var 0) (.cons (.con (.int 2)) .nil))) (.con (.int 0)))) (.call true "_law_name" (.cons (.var 0) .nil)) (.bin false .Add (.bin false .Add (.call true "_law_name" (.cons (.var 0) .nil)) (.con (.str (Str.ofString ".")))) (.call true "_law_name" (.cons (.var 0) .nil))))) sl st := nrfl rfl
def d_law_ref : Df := ⟨"", "_law_ref", 2, 2, (.cons i_law_ref_0 .nil)⟩
def i_law_number_0 : IS := (.ret (.ite (.cmp .Lt (.var 1) (.con (.int 4))) (.call true "_law_pick" (.cons (.var 0) (.cons (.con (.int 10)) .nil))) (.bin false .Add (.bin false .Mult (.call true "_law_pick" (.cons (.var 0) (.cons (.bin false .Pow (.con (.int 10)) (.con (.int 9))) .nil))) (.bin false .Pow (.con (.int 10)) (.con (.int 12)))) (.call true "_law_pick" (.cons (.var 0) (.cons (.con (.int 1000)) .nil))))))
@[simp] theorem ei_law_number_0 {C : Cf} {sl : Slots} {st : Store} : evS C i_law_number_0 sl st = evS C (.ret (.ite (.cmp .Lt (.var 1) (.con (.int 4))) (.call true "_law_pick" (.cons (.var 0) (.cons (.con (.int 10)) .nil))) (.bin false .Add (.bin false .Mult (.call true "_law_pick" (.cons (.var 0) (.cons (.bin false .Pow (.con (.int 10)) (.con (.int 9))) .nil))) (.bin false .Pow (.con (.int 10)) (.con (.int 12)))) (.call true "_law_pick" (.cons (.var 0) (.cons (.con (.int 1000)) .nil)))))) sl st := nrfl rfl
def i_law_number_1 : IS := (.ret (.bin false .Sub (.bin false .Pow (.con (.int 10)) (.con (.int 30))) (.call true "_law_pick" (.cons (.var 0) (.cons (.con (.int 2)) .nil)))))
@[simp] theorem ei_law_number_1 {C : Cf} {sl : Slots} {st : Store} : evS C i_law_number_1 sl st = evS C (.ret (.bin false .Sub (.bin false .Pow (.con (.int 10)) (.con (.int 30))) (.call true "_law_pick" (.cons (.var 0) (.cons (.con (.int 2)) .nil))))) sl st := nrfl rfl
def i_law_number_2 : IS := (.ife (.cmp .Eq (.var 1) (.con (.int 0))) (.cons i_law_number_1 .nil) .nil)
@[simp] theorem ei_law_number_2 {C : Cf} {sl : Slots} {st : Store} : evS C i_law_number_2 sl st = evS C (.ife (.cmp .Eq (.var 1) (.con (.int 0))) (.cons i_law_number_1 .nil) .nil) sl st := nrfl rfl
def i_law_number_3 : IS := (.tgt (.nm 1) (.call true "_law_pick" (.cons (.var 0) (.cons (.con (.int 5)) .nil))))
@[simp] theorem ei_law_number_3 {C : Cf} {sl : Slots} {st : Store} : evS C i_law_number_3 sl st = evS C (.tgt (.nm 1) (.call true "_law_pick" (.cons (.var 0) (.cons (.con (.int 5)) .nil)))) sl st := nrfl rfl
def d_law_number : Df := ⟨"", "_law_number", 1, 2, (.cons i_law_number_3 (.cons i_law_number_2 (.cons i_law_number_0 .nil)))⟩
def i_law_line_0 : IS := (.ret (.bm false "join" (.con (.str (Str.ofString " "))) (.cons (.bin false .Add (.lst false (.cons (.idx (.var 0) (.con (.int 0))) .nil)) (.lc false [1] (.nm 1) (.seq (.slc false (.var 0) (.con (.int 2)) (.con .non))) (.con (.bl true)) (.blt false "str" (.cons (.var 1) .nil)))) .nil)))
@[simp] theorem ei_law_line_0 {C : Cf} {sl : Slots} {st : Store} : evS C i_law_line_0 sl st = evS C (.ret (.bm false "join" (.con (.str (Str.ofString " "))) (.cons (.bin false .Add (.lst false (.cons (.idx (.var 0) (.con (.int 0))) .nil)) (.lc false [1] (.nm 1) (.seq (.slc false (.var 0) (.con (.int 2)) (.con .non))) (.con (.bl true)) (.blt false "str" (.cons (.var 1) .nil)))) .nil))) sl st := nrfl rfl
def i_law_line_1 : IS := (.ret (.bin false .Add (.bin false .Add (.bin false .Add (.bin false .Add (.bin false .Add (.con (.str (Str.ofString "by "))) (.idx (.var 0) (.con (.int 2)))) (.con (.str (Str.ofString " ")))) (.bm false "join" (.con (.str (Str.ofString " "))) (.cons (.idx (.var 0) (.con (.int 3))) .nil))) (.con (.str (Str.ofString " with ")))) (.bm false "join" (.con (.str (Str.ofString " "))) (.cons (.idx (.var 0) (.con (.int 4))) .nil))))
@[simp] theorem ei_law_line_1 {C : Cf} {sl : Slots} {st : Store} : evS C i_law_line_1 sl st = evS C (.ret (.bin false .Add (.bin false .Add (.bin false .Add (.bin false .Add (.bin false .Add (.con (.str (Str.ofString "by "))) (.idx (.var 0) (.con (.int 2)))) (.con (.str (Str.ofString " ")))) (.bm false "join" (.con (.str (Str.ofString " "))) (.cons (.idx (.var 0) (.con (.int 3))) .nil))) (.con (.str (Str.ofString " with ")))) (.bm false "join" (.con (.str (Str.ofString " "))) (.cons (.idx (.var 0) (.con (.int 4))) .nil)))) sl st := nrfl rfl
def i_law_line_2 : IS := (.ife (.cmp .Eq (.idx (.var 0) (.con (.int 0))) (.con (.str (Str.ofString "by")))) (.cons i_law_line_1 .nil) .nil)
@[simp] theorem ei_law_line_2 {C : Cf} {sl : Slots} {st : Store} : evS C i_law_line_2 sl st = evS C (.ife (.cmp .Eq (.idx (.var 0) (.con (.int 0))) (.con (.str (Str.ofString "by")))) (.cons i_law_line_1 .nil) .nil) sl st := nrfl rfl
def i_law_line_3 : IS := (.ret (.bin false .Add (.bin false .Add (.bin false .Add (.bin false .Add (.bin false .Add (.bin false .Add (.bin false .Add (.bin false .Add (.bin false .Add (.bin false .Add (.bin false .Add (.con (.str (Str.ofString "at "))) (.idx (.var 0) (.con (.int 2)))) (.con (.str (Str.ofString " ")))) (.bm false "join" (.con (.str (Str.ofString " "))) (.cons (.idx (.var 0) (.con (.int 3))) .nil))) (.con (.str (Str.ofString " ")))) (.blt false "str" (.cons (.idx (.var 0) (.con (.int 4))) .nil))) (.con (.str (Str.ofString " ")))) (.blt false "str" (.cons (.idx (.var 0) (.con (.int 5))) .nil))) (.con (.str (Str.ofString " to ")))) (.bm false "join" (.con (.str (Str.ofString " "))) (.cons (.idx (.var 0) (.con (.int 6))) .nil))) (.con (.str (Str.ofString " ")))) (.blt false "str" (.cons (.idx (.var 0) (.con (.int 7))) .nil))))
@[simp] theorem ei_law_line_3 {C : Cf} {sl : Slots} {st : Store} : evS C i_law_line_3 sl st = evS C (.ret (.bin false .Add (.bin false .Add (.bin false .Add (.bin false .Add (.bin false .Add (.bin false .Add (.bin false .Add (.bin false .Add (.bin false .Add (.bin false .Add (.bin false .Add (.con (.str (Str.ofString "at "))) (.idx (.var 0) (.con (.int 2)))) (.con (.str (Str.ofString " ")))) (.bm false "join" (.con (.str (Str.ofString " "))) (.cons (.idx (.var 0) (.con (.int 3))) .nil))) (.con (.str (Str.ofString " ")))) (.blt false "str" (.cons (.idx (.var 0) (.con (.int 4))) .nil))) (.con (.str (Str.ofString " ")))) (.blt false "str" (.cons (.idx (.var 0) (.con (.int 5))) .nil))) (.con (.str (Str.ofString " to ")))) (.bm false "join" (.con (.str (Str.ofString " "))) (.cons (.idx (.var 0) (.con (.int 6))) .nil))) (.con (.str (Str.ofString " ")))) (.blt false "str" (.cons (.idx (.var 0) (.con (.int 7))) .nil)))) sl st := nrfl rfl
def i_law_line_4 : IS := (.ife (.cmp .Eq (.idx (.var 0) (.con (.int 0))) (.con (.str (Str.ofString "at")))) (.cons i_law_line_3 .nil) .nil)
@[simp] theorem ei_law_line_4 {C : Cf} {sl : Slots} {st : Store} : evS C i_law_line_4 sl st = evS C (.ife (.cmp .Eq (.idx (.var 0) (.con (.int 0))) (.con (.str (Str.ofString "at")))) (.cons i_law_line_3 .nil) .nil) sl st := nrfl rfl
def i_law_line_5 : IS := (.ret (.bin false .Add (.bin false .Add (.bin false .Add (.con (.str (Str.ofString "lanes "))) (.idx (.var 0) (.con (.int 2)))) (.con (.str (Str.ofString " ")))) (.ite (.cmp .Is (.idx (.var 0) (.con (.int 3))) (.con .non)) (.con (.str (Str.ofString "?"))) (.blt false "str" (.cons (.idx (.var 0) (.con (.int 3))) .nil)))))
@[simp] theorem ei_law_line_5 {C : Cf} {sl : Slots} {st : Store} : evS C i_law_line_5 sl st = evS C (.ret (.bin false .Add (.bin false .Add (.bin false .Add (.con (.str (Str.ofString "lanes "))) (.idx (.var 0) (.con (.int 2)))) (.con (.str (Str.ofString " ")))) (.ite (.cmp .Is (.idx (.var 0) (.con (.int 3))) (.con .non)) (.con (.str (Str.ofString "?"))) (.blt false "str" (.cons (.idx (.var 0) (.con (.int 3))) .nil))))) sl st := nrfl rfl
def i_law_line_6 : IS := (.ife (.cmp .Eq (.idx (.var 0) (.con (.int 0))) (.con (.str (Str.ofString "lanes")))) (.cons i_law_line_5 .nil) .nil)
@[simp] theorem ei_law_line_6 {C : Cf} {sl : Slots} {st : Store} : evS C i_law_line_6 sl st = evS C (.ife (.cmp .Eq (.idx (.var 0) (.con (.int 0))) (.con (.str (Str.ofString "lanes")))) (.cons i_law_line_5 .nil) .nil) sl st := nrfl rfl
def d_law_line : Df := ⟨"", "_law_line", 1, 2, (.cons i_law_line_6 (.cons i_law_line_4 (.cons i_law_line_2 (.cons i_law_line_0 .nil))))⟩
def i_law_numbered_0 : IS := (.ret (.blt false "tuple" (.cons (.lc false [2] (.nm 2) (.rng1 (.blt false "len" (.cons (.var 0) .nil))) (.con (.bl true)) (.bin false .Add (.tup (.cons (.idx (.idx (.var 0) (.var 2)) (.con (.int 0))) (.cons (.bin false .Add (.var 1) (.var 2)) .nil))) (.slc false (.idx (.var 0) (.var 2)) (.con (.int 2)) (.con .non)))) .nil)))
@[simp] theorem ei_law_numbered_0 {C : Cf} {sl : Slots} {st : Store} : evS C i_law_numbered_0 sl st = evS C (.ret (.blt false "tuple" (.cons (.lc false [2] (.nm 2) (.rng1 (.blt false "len" (.cons (.var 0) .nil))) (.con (.bl true)) (.bin false .Add (.tup (.cons (.idx (.idx (.var 0) (.var 2)) (.con (.int 0))) (.cons (.bin false .Add (.var 1) (.var 2)) .nil))) (.slc false (.idx (.var 0) (.var 2)) (.con (.int 2)) (.con .non)))) .nil))) sl st := nrfl rfl
def d_law_numbered : Df := ⟨"", "_law_numbered", 2, 3, (.cons i_law_numbered_0 .nil)⟩
def i_law_claim_0 : IS := (.ret (.call true "_law_shuffled" (.cons (.var 0) (.cons (.var 3) .nil))))
@[simp] theorem ei_law_claim_0 {C : Cf} {sl : Slots} {st : Store} : evS C i_law_claim_0 sl st = evS C (.ret (.call true "_law_shuffled" (.cons (.var 0) (.cons (.var 3) .nil)))) sl st := nrfl rfl
def i_law_claim_1 : IS := (.tgt (.nm 3) (.bin false .Add (.lc false [4] (.nm 4) (.seq (.var 2)) (.con (.bl true)) (.tup (.cons (.var 4) (.cons (.con (.int 0)) (.cons (.call true "_law_ref" (.cons (.var 0) (.cons (.var 1) .nil))) (.cons (.call true "_law_number" (.cons (.var 0) .nil)) .nil)))))) (.ite (.var 1) (.lst false .nil) (.lc false [4] (.nm 4) (.seq (.tup (.cons (.con (.str (Str.ofString "within"))) (.cons (.con (.str (Str.ofString "shares"))) .nil)))) (.con (.bl true)) (.tup (.cons (.var 4) (.cons (.con (.int 0)) (.cons (.call true "_law_number" (.cons (.var 0) .nil)) .nil))))))))
@[simp] theorem ei_law_claim_1 {C : Cf} {sl : Slots} {st : Store} : evS C i_law_claim_1 sl st = evS C (.tgt (.nm 3) (.bin false .Add (.lc false [4] (.nm 4) (.seq (.var 2)) (.con (.bl true)) (.tup (.cons (.var 4) (.cons (.con (.int 0)) (.cons (.call true "_law_ref" (.cons (.var 0) (.cons (.var 1) .nil))) (.cons (.call true "_law_number" (.cons (.var 0) .nil)) .nil)))))) (.ite (.var 1) (.lst false .nil) (.lc false [4] (.nm 4) (.seq (.tup (.cons (.con (.str (Str.ofString "within"))) (.cons (.con (.str (Str.ofString "shares"))) .nil)))) (.con (.bl true)) (.tup (.cons (.var 4) (.cons (.con (.int 0)) (.cons (.call true "_law_number" (.cons (.var 0) .nil)) .nil)))))))) sl st := nrfl rfl
def i_law_claim_2 : IS := (.tgt (.nm 2) (.ite (.var 1) (.lst false (.cons (.con (.str (Str.ofString "want"))) (.cons (.con (.str (Str.ofString "seat"))) .nil))) (.lst false (.cons (.con (.str (Str.ofString "want"))) (.cons (.con (.str (Str.ofString "seat"))) (.cons (.con (.str (Str.ofString "more want"))) (.cons (.con (.str (Str.ofString "more seat"))) (.cons (.con (.str (Str.ofString "wires"))) .nil))))))))
@[simp] theorem ei_law_claim_2 {C : Cf} {sl : Slots} {st : Store} : evS C i_law_claim_2 sl st = evS C (.tgt (.nm 2) (.ite (.var 1) (.lst false (.cons (.con (.str (Str.ofString "want"))) (.cons (.con (.str (Str.ofString "seat"))) .nil))) (.lst false (.cons (.con (.str (Str.ofString "want"))) (.cons (.con (.str (Str.ofString "seat"))) (.cons (.con (.str (Str.ofString "more want"))) (.cons (.con (.str (Str.ofString "more seat"))) (.cons (.con (.str (Str.ofString "wires"))) .nil)))))))) sl st := nrfl rfl
def d_law_claim : Df := ⟨"", "_law_claim", 2, 5, (.cons i_law_claim_2 (.cons i_law_claim_1 (.cons i_law_claim_0 .nil)))⟩
def i_law_proof_0 : IS := (.ret (.bin false .Add (.call true "_law_shuffled" (.cons (.var 0) (.cons (.var 3) .nil))) (.ite (.cmp .Gt (.call true "_law_pick" (.cons (.var 0) (.cons (.con (.int 3)) .nil))) (.con (.int 0))) (.lst false (.cons (.tup (.cons (.con (.str (Str.ofString "rest"))) (.cons (.con (.int 0)) .nil))) .nil)) (.lst false .nil))))
@[simp] theorem ei_law_proof_0 {C : Cf} {sl : Slots} {st : Store} : evS C i_law_proof_0 sl st = evS C (.ret (.bin false .Add (.call true "_law_shuffled" (.cons (.var 0) (.cons (.var 3) .nil))) (.ite (.cmp .Gt (.call true "_law_pick" (.cons (.var 0) (.cons (.con (.int 3)) .nil))) (.con (.int 0))) (.lst false (.cons (.tup (.cons (.con (.str (Str.ofString "rest"))) (.cons (.con (.int 0)) .nil))) .nil)) (.lst false .nil)))) sl st := nrfl rfl
def i_law_proof_1 : IS := (.ex (.bm false "append" (.var 3) (.cons (.tup (.cons (.con (.str (Str.ofString "at"))) (.cons (.con (.int 0)) (.cons (.call true "_law_ref" (.cons (.var 0) (.cons (.var 1) .nil))) (.cons (.var 4) (.cons (.call true "_law_number" (.cons (.var 0) .nil)) (.cons (.call true "_law_number" (.cons (.var 0) .nil)) (.cons (.var 5) (.cons (.call true "_law_number" (.cons (.var 0) .nil)) .nil))))))))) .nil)))
@[simp] theorem ei_law_proof_1 {C : Cf} {sl : Slots} {st : Store} : evS C i_law_proof_1 sl st = evS C (.ex (.bm false "append" (.var 3) (.cons (.tup (.cons (.con (.str (Str.ofString "at"))) (.cons (.con (.int 0)) (.cons (.call true "_law_ref" (.cons (.var 0) (.cons (.var 1) .nil))) (.cons (.var 4) (.cons (.call true "_law_number" (.cons (.var 0) .nil)) (.cons (.call true "_law_number" (.cons (.var 0) .nil)) (.cons (.var 5) (.cons (.call true "_law_number" (.cons (.var 0) .nil)) .nil))))))))) .nil))) sl st := nrfl rfl
def wb_law_proof_0 : ISs := (.cons i_law_proof_1 .nil)
def i_law_proof_2 : IS := (.for_ (.nm 5) (.seq (.bin false .Add (.lst false (.cons (.tup (.cons (.con (.str (Str.ofString "seat"))) .nil)) (.cons (.tup (.cons (.con (.str (Str.ofString "plug"))) (.cons (.call true "_law_name" (.cons (.var 0) .nil)) .nil))) .nil))) (.ite (.var 1) (.lst false .nil) (.lst false (.cons (.tup (.cons (.con (.str (Str.ofString "by"))) (.cons (.call true "_law_ref" (.cons (.var 0) (.cons (.con (.bl false)) .nil))) .nil))) .nil))))) wb_law_proof_0)
@[simp] theorem ei_law_proof_2 {C : Cf} {sl : Slots} {st : Store} : evS C i_law_proof_2 sl st = evS C (.for_ (.nm 5) (.seq (.bin false .Add (.lst false (.cons (.tup (.cons (.con (.str (Str.ofString "seat"))) .nil)) (.cons (.tup (.cons (.con (.str (Str.ofString "plug"))) (.cons (.call true "_law_name" (.cons (.var 0) .nil)) .nil))) .nil))) (.ite (.var 1) (.lst false .nil) (.lst false (.cons (.tup (.cons (.con (.str (Str.ofString "by"))) (.cons (.call true "_law_ref" (.cons (.var 0) (.cons (.con (.bl false)) .nil))) .nil))) .nil))))) wb_law_proof_0) sl st := nrfl rfl
def wb_law_proof_1 : ISs := (.cons i_law_proof_2 .nil)
def i_law_proof_3 : IS := (.tgt (.nm 3) (.lst true (.cons (.tup (.cons (.con (.str (Str.ofString "lanes"))) (.cons (.con (.int 0)) (.cons (.call true "_law_ref" (.cons (.var 0) (.cons (.var 1) .nil))) (.cons (.con .non) .nil))))) (.cons (.tup (.cons (.con (.str (Str.ofString "lanes"))) (.cons (.con (.int 0)) (.cons (.call true "_law_ref" (.cons (.var 0) (.cons (.var 1) .nil))) (.cons (.call true "_law_number" (.cons (.var 0) .nil)) .nil))))) (.cons (.tup (.cons (.con (.str (Str.ofString "lanes"))) (.cons (.con (.int 0)) (.cons (.call true "_law_ref" (.cons (.var 0) (.cons (.var 1) .nil))) (.cons (.con (.int 0)) .nil))))) .nil)))))
@[simp] theorem ei_law_proof_3 {C : Cf} {sl : Slots} {st : Store} : evS C i_law_proof_3 sl st = evS C (.tgt (.nm 3) (.lst true (.cons (.tup (.cons (.con (.str (Str.ofString "lanes"))) (.cons (.con (.int 0)) (.cons (.call true "_law_ref" (.cons (.var 0) (.cons (.var 1) .nil))) (.cons (.con .non) .nil))))) (.cons (.tup (.cons (.con (.str (Str.ofString "lanes"))) (.cons (.con (.int 0)) (.cons (.call true "_law_ref" (.cons (.var 0) (.cons (.var 1) .nil))) (.cons (.call true "_law_number" (.cons (.var 0) .nil)) .nil))))) (.cons (.tup (.cons (.con (.str (Str.ofString "lanes"))) (.cons (.con (.int 0)) (.cons (.call true "_law_ref" (.cons (.var 0) (.cons (.var 1) .nil))) (.cons (.con (.int 0)) .nil))))) .nil))))) sl st := nrfl rfl
def i_law_proof_4 : IS := (.tgt (.nm 2) (.bin false .Add (.lst false (.cons (.tup (.cons (.con (.str (Str.ofString "want"))) .nil)) (.cons (.tup (.cons (.con (.str (Str.ofString "socket"))) (.cons (.call true "_law_name" (.cons (.var 0) .nil)) .nil))) .nil))) (.ite (.var 1) (.lst false .nil) (.lst false (.cons (.tup (.cons (.con (.str (Str.ofString "from"))) (.cons (.call true "_law_ref" (.cons (.var 0) (.cons (.con (.bl false)) .nil))) .nil))) .nil)))))
@[simp] theorem ei_law_proof_4 {C : Cf} {sl : Slots} {st : Store} : evS C i_law_proof_4 sl st = evS C (.tgt (.nm 2) (.bin false .Add (.lst false (.cons (.tup (.cons (.con (.str (Str.ofString "want"))) .nil)) (.cons (.tup (.cons (.con (.str (Str.ofString "socket"))) (.cons (.call true "_law_name" (.cons (.var 0) .nil)) .nil))) .nil))) (.ite (.var 1) (.lst false .nil) (.lst false (.cons (.tup (.cons (.con (.str (Str.ofString "from"))) (.cons (.call true "_law_ref" (.cons (.var 0) (.cons (.con (.bl false)) .nil))) .nil))) .nil))))) sl st := nrfl rfl
def d_law_proof : Df := ⟨"", "_law_proof", 2, 6, (.cons i_law_proof_4 (.cons i_law_proof_3 (.cons (.for_ (.nm 4) (.seq (.var 2)) wb_law_proof_1) (.cons i_law_proof_0 .nil))))⟩
def j_law_0 : ISs := (.cons (.ret (.con (.bl false))) .nil)
@[simp] theorem ej_law_0 {C : Cf} {sl : Slots} {st : Store} : evSs C j_law_0 sl st = evSs C (.cons (.ret (.con (.bl false))) .nil) sl st := nrfl rfl
def i_law_1 : IS := (.ife (.or (.notE (.call true "_law_same" (.cons (.meth true (.var 18) "items_of" (.cons (.var 3) .nil)) (.cons (.var 5) .nil)))) (.notE (.call true "_law_same" (.cons (.call true "write_text" (.cons (.var 18) .nil)) (.cons (.var 17) .nil))))) j_law_0 .nil)
@[simp] theorem ei_law_1 {C : Cf} {sl : Slots} {st : Store} : evS C i_law_1 sl st = evS C (.ife (.or (.notE (.call true "_law_same" (.cons (.meth true (.var 18) "items_of" (.cons (.var 3) .nil)) (.cons (.var 5) .nil)))) (.notE (.call true "_law_same" (.cons (.call true "write_text" (.cons (.var 18) .nil)) (.cons (.var 17) .nil))))) j_law_0 .nil) sl st := nrfl rfl
def wb_law_0 : ISs := (.cons i_law_1 .nil)
def i_law_2 : IS := (.tgt (.nm 18) (.call true "read_text" (.cons (.var 17) .nil)))
@[simp] theorem ei_law_2 {C : Cf} {sl : Slots} {st : Store} : evS C i_law_2 sl st = evS C (.tgt (.nm 18) (.call true "read_text" (.cons (.var 17) .nil))) sl st := nrfl rfl
def i_law_3 : IS := (.tgt (.nm 17) (.bm false "join" (.con (.str (Str.ofString "\n"))) (.cons (.bin false .Add (.var 4) (.lst false (.cons (.con (.str (Str.ofString "end module"))) (.cons (.con (.str (Str.ofString "end book"))) .nil)))) .nil)))
@[simp] theorem ei_law_3 {C : Cf} {sl : Slots} {st : Store} : evS C i_law_3 sl st = evS C (.tgt (.nm 17) (.bm false "join" (.con (.str (Str.ofString "\n"))) (.cons (.bin false .Add (.var 4) (.lst false (.cons (.con (.str (Str.ofString "end module"))) (.cons (.con (.str (Str.ofString "end book"))) .nil)))) .nil))) sl st := nrfl rfl
def i_law_4 : IS := (.tgt (.nm 4) (.bin false .Add (.bin false .Add (.bin false .Add (.var 4) (.lst false (.cons (.bin false .Add (.bin false .Add (.var 16) (.con (.str (Str.ofString " ")))) (.var 7)) .nil))) (.lc false [12] (.nm 12) (.seq (.var 10)) (.con (.bl true)) (.call true "_law_line" (.cons (.var 12) .nil)))) (.lst false (.cons (.bin false .Add (.con (.str (Str.ofString "end "))) (.var 16)) .nil))))
@[simp] theorem ei_law_4 {C : Cf} {sl : Slots} {st : Store} : evS C i_law_4 sl st = evS C (.tgt (.nm 4) (.bin false .Add (.bin false .Add (.bin false .Add (.var 4) (.lst false (.cons (.bin false .Add (.bin false .Add (.var 16) (.con (.str (Str.ofString " ")))) (.var 7)) .nil))) (.lc false [12] (.nm 12) (.seq (.var 10)) (.con (.bl true)) (.call true "_law_line" (.cons (.var 12) .nil)))) (.lst false (.cons (.bin false .Add (.con (.str (Str.ofString "end "))) (.var 16)) .nil)))) sl st := nrfl rfl
def i_law_5 : IS := (.ex (.bm false "append" (.var 5) (.cons (.tup (.cons (.var 16) (.cons (.var 8) (.cons (.var 7) (.cons (.var 10) .nil))))) .nil)))
@[simp] theorem ei_law_5 {C : Cf} {sl : Slots} {st : Store} : evS C i_law_5 sl st = evS C (.ex (.bm false "append" (.var 5) (.cons (.tup (.cons (.var 16) (.cons (.var 8) (.cons (.var 7) (.cons (.var 10) .nil))))) .nil))) sl st := nrfl rfl
def i_law_6 : IS := (.tgt (.nm 16) (.ite (.cmp .Eq (.var 6) (.con (.str (Str.ofString "claim")))) (.con (.str (Str.ofString "claim"))) (.con (.str (Str.ofString "proof")))))
@[simp] theorem ei_law_6 {C : Cf} {sl : Slots} {st : Store} : evS C i_law_6 sl st = evS C (.tgt (.nm 16) (.ite (.cmp .Eq (.var 6) (.con (.str (Str.ofString "claim")))) (.con (.str (Str.ofString "claim"))) (.con (.str (Str.ofString "proof"))))) sl st := nrfl rfl
def i_law_7 : IS := (.tgt (.nm 10) (.call true "_law_numbered" (.cons (.var 13) (.cons (.bin false .Add (.var 8) (.con (.int 1))) .nil))))
@[simp] theorem ei_law_7 {C : Cf} {sl : Slots} {st : Store} : evS C i_law_7 sl st = evS C (.tgt (.nm 10) (.call true "_law_numbered" (.cons (.var 13) (.cons (.bin false .Add (.var 8) (.con (.int 1))) .nil)))) sl st := nrfl rfl
def i_law_8 : IS := (.tgt (.nm 13) (.lst false (.cons (.tup (.cons (.con (.str (Str.ofString "by"))) (.cons (.con (.int 0)) (.cons (.call true "_law_name" (.cons (.var 2) .nil)) (.cons (.blt false "tuple" (.cons (.var 14) .nil)) (.cons (.blt false "tuple" (.cons (.lc false [15] (.nm 15) (.rng1 (.bin false .Add (.con (.int 1)) (.call true "_law_pick" (.cons (.var 2) (.cons (.con (.int 9)) .nil))))) (.con (.bl true)) (.call true "_law_ref" (.cons (.var 1) (.cons (.con (.bl false)) .nil)))) .nil)) .nil)))))) .nil)))
@[simp] theorem ei_law_8 {C : Cf} {sl : Slots} {st : Store} : evS C i_law_8 sl st = evS C (.tgt (.nm 13) (.lst false (.cons (.tup (.cons (.con (.str (Str.ofString "by"))) (.cons (.con (.int 0)) (.cons (.call true "_law_name" (.cons (.var 2) .nil)) (.cons (.blt false "tuple" (.cons (.var 14) .nil)) (.cons (.blt false "tuple" (.cons (.lc false [15] (.nm 15) (.rng1 (.bin false .Add (.con (.int 1)) (.call true "_law_pick" (.cons (.var 2) (.cons (.con (.int 9)) .nil))))) (.con (.bl true)) (.call true "_law_ref" (.cons (.var 1) (.cons (.con (.bl false)) .nil)))) .nil)) .nil)))))) .nil))) sl st := nrfl rfl
def i_law_9 : IS := (.ife (.cmp .Eq (.var 6) (.con (.str (Str.ofString "by")))) (.cons i_law_8 .nil) .nil)
@[simp] theorem ei_law_9 {C : Cf} {sl : Slots} {st : Store} : evS C i_law_9 sl st = evS C (.ife (.cmp .Eq (.var 6) (.con (.str (Str.ofString "by")))) (.cons i_law_8 .nil) .nil) sl st := nrfl rfl
def i_law_10 : IS := (.tgt (.nm 14) (.lc false [15] (.nm 15) (.rng1 (.bin false .Add (.con (.int 1)) (.call true "_law_pick" (.cons (.var 2) (.cons (.con (.int 9)) .nil))))) (.con (.bl true)) (.call true "_law_ref" (.cons (.var 1) (.cons (.con (.bl false)) .nil)))))
@[simp] theorem ei_law_10 {C : Cf} {sl : Slots} {st : Store} : evS C i_law_10 sl st = evS C (.tgt (.nm 14) (.lc false [15] (.nm 15) (.rng1 (.bin false .Add (.con (.int 1)) (.call true "_law_pick" (.cons (.var 2) (.cons (.con (.int 9)) .nil))))) (.con (.bl true)) (.call true "_law_ref" (.cons (.var 1) (.cons (.con (.bl false)) .nil))))) sl st := nrfl rfl
def i_law_11 : IS := (.tgt (.nm 13) (.lst false (.cons (.tup (.cons (.con (.str (Str.ofString "search"))) (.cons (.con (.int 0)) .nil))) .nil)))
@[simp] theorem ei_law_11 {C : Cf} {sl : Slots} {st : Store} : evS C i_law_11 sl st = evS C (.tgt (.nm 13) (.lst false (.cons (.tup (.cons (.con (.str (Str.ofString "search"))) (.cons (.con (.int 0)) .nil))) .nil))) sl st := nrfl rfl
def i_law_12 : IS := (.ife (.cmp .Eq (.var 6) (.con (.str (Str.ofString "search")))) (.cons i_law_11 .nil) .nil)
@[simp] theorem ei_law_12 {C : Cf} {sl : Slots} {st : Store} : evS C i_law_12 sl st = evS C (.ife (.cmp .Eq (.var 6) (.con (.str (Str.ofString "search")))) (.cons i_law_11 .nil) .nil) sl st := nrfl rfl
def i_law_13 : IS := (.tgt (.nm 13) (.ite (.cmp .Eq (.var 6) (.con (.str (Str.ofString "claim")))) (.call true "_law_claim" (.cons (.var 2) (.cons (.con (.bl false)) .nil))) (.call true "_law_proof" (.cons (.var 2) (.cons (.con (.bl false)) .nil)))))
@[simp] theorem ei_law_13 {C : Cf} {sl : Slots} {st : Store} : evS C i_law_13 sl st = evS C (.tgt (.nm 13) (.ite (.cmp .Eq (.var 6) (.con (.str (Str.ofString "claim")))) (.call true "_law_claim" (.cons (.var 2) (.cons (.con (.bl false)) .nil))) (.call true "_law_proof" (.cons (.var 2) (.cons (.con (.bl false)) .nil))))) sl st := nrfl rfl
def i_law_14 : IS := (.tgt (.nm 4) (.bin false .Add (.bin false .Add (.bin false .Add (.var 4) (.lst false (.cons (.bin false .Add (.con (.str (Str.ofString "rule "))) (.var 7)) (.cons (.bin false .Add (.con (.str (Str.ofString "tie "))) (.var 11)) .nil)))) (.lc false [12] (.nm 12) (.seq (.bin false .Add (.var 9) (.var 10))) (.con (.bl true)) (.call true "_law_line" (.cons (.var 12) .nil)))) (.lst false (.cons (.con (.str (Str.ofString "end rule"))) .nil))))
@[simp] theorem ei_law_14 {C : Cf} {sl : Slots} {st : Store} : evS C i_law_14 sl st = evS C (.tgt (.nm 4) (.bin false .Add (.bin false .Add (.bin false .Add (.var 4) (.lst false (.cons (.bin false .Add (.con (.str (Str.ofString "rule "))) (.var 7)) (.cons (.bin false .Add (.con (.str (Str.ofString "tie "))) (.var 11)) .nil)))) (.lc false [12] (.nm 12) (.seq (.bin false .Add (.var 9) (.var 10))) (.con (.bl true)) (.call true "_law_line" (.cons (.var 12) .nil)))) (.lst false (.cons (.con (.str (Str.ofString "end rule"))) .nil)))) sl st := nrfl rfl
def i_law_15 : IS := (.ex (.bm false "append" (.var 5) (.cons (.tup (.cons (.con (.str (Str.ofString "rule"))) (.cons (.var 8) (.cons (.var 7) (.cons (.tup (.cons (.tup (.cons (.con (.str (Str.ofString "tie"))) (.cons (.bin false .Add (.var 8) (.con (.int 1))) (.cons (.var 11) .nil)))) .nil)) (.cons (.var 9) (.cons (.var 10) .nil))))))) .nil)))
@[simp] theorem ei_law_15 {C : Cf} {sl : Slots} {st : Store} : evS C i_law_15 sl st = evS C (.ex (.bm false "append" (.var 5) (.cons (.tup (.cons (.con (.str (Str.ofString "rule"))) (.cons (.var 8) (.cons (.var 7) (.cons (.tup (.cons (.tup (.cons (.con (.str (Str.ofString "tie"))) (.cons (.bin false .Add (.var 8) (.con (.int 1))) (.cons (.var 11) .nil)))) .nil)) (.cons (.var 9) (.cons (.var 10) .nil))))))) .nil))) sl st := nrfl rfl
def i_law_16 : IS := (.tgt (.nm 11) (.call true "_law_name" (.cons (.var 1) .nil)))
@[simp] theorem ei_law_16 {C : Cf} {sl : Slots} {st : Store} : evS C i_law_16 sl st = evS C (.tgt (.nm 11) (.call true "_law_name" (.cons (.var 1) .nil))) sl st := nrfl rfl
def i_law_17 : IS := (.tgt (.nm 10) (.call true "_law_numbered" (.cons (.call true "_law_proof" (.cons (.var 2) (.cons (.con (.bl true)) .nil))) (.cons (.bin false .Add (.bin false .Add (.var 8) (.con (.int 2))) (.blt false "len" (.cons (.var 9) .nil))) .nil))))
@[simp] theorem ei_law_17 {C : Cf} {sl : Slots} {st : Store} : evS C i_law_17 sl st = evS C (.tgt (.nm 10) (.call true "_law_numbered" (.cons (.call true "_law_proof" (.cons (.var 2) (.cons (.con (.bl true)) .nil))) (.cons (.bin false .Add (.bin false .Add (.var 8) (.con (.int 2))) (.blt false "len" (.cons (.var 9) .nil))) .nil)))) sl st := nrfl rfl
def i_law_18 : IS := (.tgt (.nm 9) (.call true "_law_numbered" (.cons (.call true "_law_claim" (.cons (.var 2) (.cons (.con (.bl true)) .nil))) (.cons (.bin false .Add (.var 8) (.con (.int 2))) .nil))))
@[simp] theorem ei_law_18 {C : Cf} {sl : Slots} {st : Store} : evS C i_law_18 sl st = evS C (.tgt (.nm 9) (.call true "_law_numbered" (.cons (.call true "_law_claim" (.cons (.var 2) (.cons (.con (.bl true)) .nil))) (.cons (.bin false .Add (.var 8) (.con (.int 2))) .nil)))) sl st := nrfl rfl
def j_law_19 : ISs := (.cons i_law_18 (.cons i_law_17 (.cons i_law_16 (.cons i_law_15 (.cons i_law_14 (.cons .cnt .nil))))))
@[simp] theorem ej_law_19 {C : Cf} {sl : Slots} {st : Store} : evSs C j_law_19 sl st = evSs C (.cons i_law_18 (.cons i_law_17 (.cons i_law_16 (.cons i_law_15 (.cons i_law_14 (.cons .cnt .nil)))))) sl st := nrfl rfl
def i_law_20 : IS := (.ife (.cmp .Eq (.var 6) (.con (.str (Str.ofString "rule")))) j_law_19 .nil)
@[simp] theorem ei_law_20 {C : Cf} {sl : Slots} {st : Store} : evS C i_law_20 sl st = evS C (.ife (.cmp .Eq (.var 6) (.con (.str (Str.ofString "rule")))) j_law_19 .nil) sl st := nrfl rfl
def i_law_21 : IS := (.tgt (.nm 8) (.bin false .Add (.blt false "len" (.cons (.var 4) .nil)) (.con (.int 1))))
@[simp] theorem ei_law_21 {C : Cf} {sl : Slots} {st : Store} : evS C i_law_21 sl st = evS C (.tgt (.nm 8) (.bin false .Add (.blt false "len" (.cons (.var 4) .nil)) (.con (.int 1)))) sl st := nrfl rfl
def i_law_22 : IS := (.tgt (.nm 7) (.call true "_law_name" (.cons (.var 2) .nil)))
@[simp] theorem ei_law_22 {C : Cf} {sl : Slots} {st : Store} : evS C i_law_22 sl st = evS C (.tgt (.nm 7) (.call true "_law_name" (.cons (.var 2) .nil))) sl st := nrfl rfl
def wb_law_1 : ISs := (.cons i_law_22 (.cons i_law_21 (.cons i_law_20 (.cons i_law_13 (.cons i_law_12 (.cons i_law_10 (.cons i_law_9 (.cons i_law_7 (.cons i_law_6 (.cons i_law_5 (.cons i_law_4 .nil)))))))))))
def i_law_23 : IS := (.for_ (.nm 6) (.seq (.call true "_law_shuffled" (.cons (.var 1) (.cons (.lst false (.cons (.con (.str (Str.ofString "claim"))) (.cons (.con (.str (Str.ofString "proof"))) (.cons (.con (.str (Str.ofString "search"))) (.cons (.con (.str (Str.ofString "by"))) (.cons (.con (.str (Str.ofString "rule"))) .nil)))))) .nil)))) wb_law_1)
@[simp] theorem ei_law_23 {C : Cf} {sl : Slots} {st : Store} : evS C i_law_23 sl st = evS C (.for_ (.nm 6) (.seq (.call true "_law_shuffled" (.cons (.var 1) (.cons (.lst false (.cons (.con (.str (Str.ofString "claim"))) (.cons (.con (.str (Str.ofString "proof"))) (.cons (.con (.str (Str.ofString "search"))) (.cons (.con (.str (Str.ofString "by"))) (.cons (.con (.str (Str.ofString "rule"))) .nil)))))) .nil)))) wb_law_1) sl st := nrfl rfl
def i_law_24 : IS := (.tgt (.nm 4) (.lst false (.cons (.bin false .Add (.con (.str (Str.ofString "book "))) (.call true "_law_name" (.cons (.var 1) .nil))) (.cons (.bin false .Add (.con (.str (Str.ofString "module "))) (.var 3)) .nil))))
@[simp] theorem ei_law_24 {C : Cf} {sl : Slots} {st : Store} : evS C i_law_24 sl st = evS C (.tgt (.nm 4) (.lst false (.cons (.bin false .Add (.con (.str (Str.ofString "book "))) (.call true "_law_name" (.cons (.var 1) .nil))) (.cons (.bin false .Add (.con (.str (Str.ofString "module "))) (.var 3)) .nil)))) sl st := nrfl rfl
def i_law_25 : IS := (.tgt (.nm 3) (.call true "_law_name" (.cons (.var 1) .nil)))
@[simp] theorem ei_law_25 {C : Cf} {sl : Slots} {st : Store} : evS C i_law_25 sl st = evS C (.tgt (.nm 3) (.call true "_law_name" (.cons (.var 1) .nil))) sl st := nrfl rfl
def i_law_26 : IS := (.tgt (.nm 2) (.call false "_law_source" (.cons (.var 0) (.cons (.con (.int 1)) .nil))))
@[simp] theorem ei_law_26 {C : Cf} {sl : Slots} {st : Store} : evS C i_law_26 sl st = evS C (.tgt (.nm 2) (.call false "_law_source" (.cons (.var 0) (.cons (.con (.int 1)) .nil)))) sl st := nrfl rfl
def i_law_27 : IS := (.tgt (.nm 1) (.call false "_law_source" (.cons (.var 0) (.cons (.con (.int 0)) .nil))))
@[simp] theorem ei_law_27 {C : Cf} {sl : Slots} {st : Store} : evS C i_law_27 sl st = evS C (.tgt (.nm 1) (.call false "_law_source" (.cons (.var 0) (.cons (.con (.int 0)) .nil)))) sl st := nrfl rfl
def d_law : Df := ⟨"", "law", 1, 20, (.cons i_law_27 (.cons i_law_26 (.cons i_law_25 (.cons i_law_24 (.cons (.tgt (.nm 5) (.lst true .nil)) (.cons i_law_23 (.cons i_law_3 (.cons i_law_2 (.cons (.for_ (.nm 19) (.rng1 (.con (.int 2))) wb_law_0) (.cons (.ret (.con (.bl true))) .nil))))))))))⟩
def tb : Tb := [d_is_name, d_is_ref, d_is_number, d_fits, d_word_fits, d_in_port, d_out_port, d_at_row, d_by_row, d_proof_row, d_proof_body, d_kind_block, d_count_row, d_claim_row, d_claim_block, d_rule_block, d_proof_block, d_let_item, d_line_item, d_item_at, d_Tree_init, d_Tree_name, d_Tree_modules, d_Tree_parts, d_Tree_items_of, d_Tree_eq, d_too_great, d_rows_of, d_module_at, d_read_text, d_port_words, d_proof_line_of, d_proof_lines, d_kind_lines, d_claim_line_of, d_item_lines, d_module_lines, d_write_text, d_law_source, d_law_pick, d_law_choice, d_law_shuffled, d_law_names, d_law_same, d_law_name, d_law_ref, d_law_number, d_law_line, d_law_numbered, d_law_claim, d_law_proof, d_law]
theorem t_is_name : tb.get "" "is_name" = some d_is_name := rfl
@[simp] theorem h_is_name : (tb.get "" "is_name").isSome = true := by rw [t_is_name]; rfl
theorem t_is_ref : tb.get "" "is_ref" = some d_is_ref := rfl
@[simp] theorem h_is_ref : (tb.get "" "is_ref").isSome = true := by rw [t_is_ref]; rfl
theorem t_is_number : tb.get "" "is_number" = some d_is_number := rfl
@[simp] theorem h_is_number : (tb.get "" "is_number").isSome = true := by rw [t_is_number]; rfl
theorem t_fits : tb.get "" "fits" = some d_fits := rfl
@[simp] theorem h_fits : (tb.get "" "fits").isSome = true := by rw [t_fits]; rfl
theorem t_word_fits : tb.get "" "word_fits" = some d_word_fits := rfl
@[simp] theorem h_word_fits : (tb.get "" "word_fits").isSome = true := by rw [t_word_fits]; rfl
theorem t_in_port : tb.get "" "in_port" = some d_in_port := rfl
@[simp] theorem h_in_port : (tb.get "" "in_port").isSome = true := by rw [t_in_port]; rfl
theorem t_out_port : tb.get "" "out_port" = some d_out_port := rfl
@[simp] theorem h_out_port : (tb.get "" "out_port").isSome = true := by rw [t_out_port]; rfl
theorem t_at_row : tb.get "" "at_row" = some d_at_row := rfl
@[simp] theorem h_at_row : (tb.get "" "at_row").isSome = true := by rw [t_at_row]; rfl
theorem t_by_row : tb.get "" "by_row" = some d_by_row := rfl
@[simp] theorem h_by_row : (tb.get "" "by_row").isSome = true := by rw [t_by_row]; rfl
theorem t_proof_row : tb.get "" "proof_row" = some d_proof_row := rfl
@[simp] theorem h_proof_row : (tb.get "" "proof_row").isSome = true := by rw [t_proof_row]; rfl
theorem t_proof_body : tb.get "" "proof_body" = some d_proof_body := rfl
@[simp] theorem h_proof_body : (tb.get "" "proof_body").isSome = true := by rw [t_proof_body]; rfl
theorem t_kind_block : tb.get "" "kind_block" = some d_kind_block := rfl
@[simp] theorem h_kind_block : (tb.get "" "kind_block").isSome = true := by rw [t_kind_block]; rfl
theorem t_count_row : tb.get "" "count_row" = some d_count_row := rfl
@[simp] theorem h_count_row : (tb.get "" "count_row").isSome = true := by rw [t_count_row]; rfl
theorem t_claim_row : tb.get "" "claim_row" = some d_claim_row := rfl
@[simp] theorem h_claim_row : (tb.get "" "claim_row").isSome = true := by rw [t_claim_row]; rfl
theorem t_claim_block : tb.get "" "claim_block" = some d_claim_block := rfl
@[simp] theorem h_claim_block : (tb.get "" "claim_block").isSome = true := by rw [t_claim_block]; rfl
theorem t_rule_block : tb.get "" "rule_block" = some d_rule_block := rfl
@[simp] theorem h_rule_block : (tb.get "" "rule_block").isSome = true := by rw [t_rule_block]; rfl
theorem t_proof_block : tb.get "" "proof_block" = some d_proof_block := rfl
@[simp] theorem h_proof_block : (tb.get "" "proof_block").isSome = true := by rw [t_proof_block]; rfl
theorem t_let_item : tb.get "" "let_item" = some d_let_item := rfl
@[simp] theorem h_let_item : (tb.get "" "let_item").isSome = true := by rw [t_let_item]; rfl
theorem t_line_item : tb.get "" "line_item" = some d_line_item := rfl
@[simp] theorem h_line_item : (tb.get "" "line_item").isSome = true := by rw [t_line_item]; rfl
theorem t_item_at : tb.get "" "item_at" = some d_item_at := rfl
@[simp] theorem h_item_at : (tb.get "" "item_at").isSome = true := by rw [t_item_at]; rfl
theorem t_Tree_init : tb.get "Tree" "__init__" = some d_Tree_init := rfl
@[simp] theorem h_Tree_init : (tb.get "Tree" "__init__").isSome = true := by rw [t_Tree_init]; rfl
theorem t_Tree_name : tb.get "Tree" "name" = some d_Tree_name := rfl
@[simp] theorem h_Tree_name : (tb.get "Tree" "name").isSome = true := by rw [t_Tree_name]; rfl
theorem t_Tree_modules : tb.get "Tree" "modules" = some d_Tree_modules := rfl
@[simp] theorem h_Tree_modules : (tb.get "Tree" "modules").isSome = true := by rw [t_Tree_modules]; rfl
theorem t_Tree_parts : tb.get "Tree" "parts" = some d_Tree_parts := rfl
@[simp] theorem h_Tree_parts : (tb.get "Tree" "parts").isSome = true := by rw [t_Tree_parts]; rfl
theorem t_Tree_items_of : tb.get "Tree" "items_of" = some d_Tree_items_of := rfl
@[simp] theorem h_Tree_items_of : (tb.get "Tree" "items_of").isSome = true := by rw [t_Tree_items_of]; rfl
theorem t_Tree_eq : tb.get "Tree" "__eq__" = some d_Tree_eq := rfl
@[simp] theorem h_Tree_eq : (tb.get "Tree" "__eq__").isSome = true := by rw [t_Tree_eq]; rfl
theorem t_too_great : tb.get "" "too_great" = some d_too_great := rfl
@[simp] theorem h_too_great : (tb.get "" "too_great").isSome = true := by rw [t_too_great]; rfl
theorem t_rows_of : tb.get "" "rows_of" = some d_rows_of := rfl
@[simp] theorem h_rows_of : (tb.get "" "rows_of").isSome = true := by rw [t_rows_of]; rfl
theorem t_module_at : tb.get "" "module_at" = some d_module_at := rfl
@[simp] theorem h_module_at : (tb.get "" "module_at").isSome = true := by rw [t_module_at]; rfl
theorem t_read_text : tb.get "" "read_text" = some d_read_text := rfl
@[simp] theorem h_read_text : (tb.get "" "read_text").isSome = true := by rw [t_read_text]; rfl
theorem t_port_words : tb.get "" "port_words" = some d_port_words := rfl
@[simp] theorem h_port_words : (tb.get "" "port_words").isSome = true := by rw [t_port_words]; rfl
theorem t_proof_line_of : tb.get "" "proof_line_of" = some d_proof_line_of := rfl
@[simp] theorem h_proof_line_of : (tb.get "" "proof_line_of").isSome = true := by rw [t_proof_line_of]; rfl
theorem t_proof_lines : tb.get "" "proof_lines" = some d_proof_lines := rfl
@[simp] theorem h_proof_lines : (tb.get "" "proof_lines").isSome = true := by rw [t_proof_lines]; rfl
theorem t_kind_lines : tb.get "" "kind_lines" = some d_kind_lines := rfl
@[simp] theorem h_kind_lines : (tb.get "" "kind_lines").isSome = true := by rw [t_kind_lines]; rfl
theorem t_claim_line_of : tb.get "" "claim_line_of" = some d_claim_line_of := rfl
@[simp] theorem h_claim_line_of : (tb.get "" "claim_line_of").isSome = true := by rw [t_claim_line_of]; rfl
theorem t_item_lines : tb.get "" "item_lines" = some d_item_lines := rfl
@[simp] theorem h_item_lines : (tb.get "" "item_lines").isSome = true := by rw [t_item_lines]; rfl
theorem t_module_lines : tb.get "" "module_lines" = some d_module_lines := rfl
@[simp] theorem h_module_lines : (tb.get "" "module_lines").isSome = true := by rw [t_module_lines]; rfl
theorem t_write_text : tb.get "" "write_text" = some d_write_text := rfl
@[simp] theorem h_write_text : (tb.get "" "write_text").isSome = true := by rw [t_write_text]; rfl
theorem t_law_source : tb.get "" "_law_source" = some d_law_source := rfl
@[simp] theorem h_law_source : (tb.get "" "_law_source").isSome = true := by rw [t_law_source]; rfl
theorem t_law_pick : tb.get "" "_law_pick" = some d_law_pick := rfl
@[simp] theorem h_law_pick : (tb.get "" "_law_pick").isSome = true := by rw [t_law_pick]; rfl
theorem t_law_choice : tb.get "" "_law_choice" = some d_law_choice := rfl
@[simp] theorem h_law_choice : (tb.get "" "_law_choice").isSome = true := by rw [t_law_choice]; rfl
theorem t_law_shuffled : tb.get "" "_law_shuffled" = some d_law_shuffled := rfl
@[simp] theorem h_law_shuffled : (tb.get "" "_law_shuffled").isSome = true := by rw [t_law_shuffled]; rfl
theorem t_law_names : tb.get "" "_law_names" = some d_law_names := rfl
@[simp] theorem h_law_names : (tb.get "" "_law_names").isSome = true := by rw [t_law_names]; rfl
theorem t_law_same : tb.get "" "_law_same" = some d_law_same := rfl
@[simp] theorem h_law_same : (tb.get "" "_law_same").isSome = true := by rw [t_law_same]; rfl
theorem t_law_name : tb.get "" "_law_name" = some d_law_name := rfl
@[simp] theorem h_law_name : (tb.get "" "_law_name").isSome = true := by rw [t_law_name]; rfl
theorem t_law_ref : tb.get "" "_law_ref" = some d_law_ref := rfl
@[simp] theorem h_law_ref : (tb.get "" "_law_ref").isSome = true := by rw [t_law_ref]; rfl
theorem t_law_number : tb.get "" "_law_number" = some d_law_number := rfl
@[simp] theorem h_law_number : (tb.get "" "_law_number").isSome = true := by rw [t_law_number]; rfl
theorem t_law_line : tb.get "" "_law_line" = some d_law_line := rfl
@[simp] theorem h_law_line : (tb.get "" "_law_line").isSome = true := by rw [t_law_line]; rfl
theorem t_law_numbered : tb.get "" "_law_numbered" = some d_law_numbered := rfl
@[simp] theorem h_law_numbered : (tb.get "" "_law_numbered").isSome = true := by rw [t_law_numbered]; rfl
theorem t_law_claim : tb.get "" "_law_claim" = some d_law_claim := rfl
@[simp] theorem h_law_claim : (tb.get "" "_law_claim").isSome = true := by rw [t_law_claim]; rfl
theorem t_law_proof : tb.get "" "_law_proof" = some d_law_proof := rfl
@[simp] theorem h_law_proof : (tb.get "" "_law_proof").isSome = true := by rw [t_law_proof]; rfl
theorem t_law : tb.get "" "law" = some d_law := rfl
@[simp] theorem h_law : (tb.get "" "law").isSome = true := by rw [t_law]; rfl
def k_KEYWORDS : D := .ktup [.str (Str.ofString "book"), .str (Str.ofString "module"), .str (Str.ofString "use"), .str (Str.ofString "tie"), .str (Str.ofString "kind"), .str (Str.ofString "plug"), .str (Str.ofString "socket"), .str (Str.ofString "let"), .str (Str.ofString "claim"), .str (Str.ofString "want"), .str (Str.ofString "seat"), .str (Str.ofString "more"), .str (Str.ofString "within"), .str (Str.ofString "wires"), .str (Str.ofString "rule"), .str (Str.ofString "proof"), .str (Str.ofString "search"), .str (Str.ofString "lanes"), .str (Str.ofString "at"), .str (Str.ofString "to"), .str (Str.ofString "from"), .str (Str.ofString "by"), .str (Str.ofString "with"), .str (Str.ofString "rest"), .str (Str.ofString "show"), .str (Str.ofString "shares"), .str (Str.ofString "end")]
def k_LETTERS : D := .str (Str.ofString "abcdefghijklmnopqrstuvwxyzABCDEFGHIJKLMNOPQRSTUVWXYZ")
def k_DIGITS : D := .str (Str.ofString "0123456789")
def k_LINES : D := .int 600
def k_WORDS : D := .int 40
def k_NUMBER : D := .int 1000000000000000000000000000000
def cs : List (String × D) := [("KEYWORDS", k_KEYWORDS), ("LETTERS", k_LETTERS), ("DIGITS", k_DIGITS), ("LINES", k_LINES), ("WORDS", k_WORDS), ("NUMBER", k_NUMBER)]
def con : String → Option D := fun x => cs.lookup x
@[simp] theorem con_KEYWORDS : con "KEYWORDS" = some (k_KEYWORDS) := rfl
@[simp] theorem con_LETTERS : con "LETTERS" = some (k_LETTERS) := rfl
@[simp] theorem con_DIGITS : con "DIGITS" = some (k_DIGITS) := rfl
@[simp] theorem con_LINES : con "LINES" = some (k_LINES) := rfl
@[simp] theorem con_WORDS : con "WORDS" = some (k_WORDS) := rfl
@[simp] theorem con_NUMBER : con "NUMBER" = some (k_NUMBER) := rfl
end Fg

set_option maxHeartbeats 4000000
/-! Hd: the facts of a text's top, from one Bool and its defs. -/
namespace Fg
open PySem PySem.Spec PyProof.Rows L2

/-- a def of the top: its IR, its names, its statement -/
structure TD where
  d : Df
  N : List Str
  st : Stmt
namespace TD
def place (t : TD) : Str × Option Str := if t.d.c = "" then (Str.ofString t.d.nm, none) else (Str.ofString t.d.c, some (Str.ofString t.d.nm))
def qual (t : TD) : Str := if t.d.c = "" then Str.ofString t.d.nm else Str.ofString (t.d.c ++ "." ++ t.d.nm)
def ps (t : TD) : List Str := t.N.take t.d.np
def fnD (t : TD) : He.FnD := ⟨t.place, Str.ofString t.d.nm, t.qual, defArgs t.st, defBody t.st, defScope t.st⟩
def Bnd (t : TD) : Prop := ∀ (kV doc pm : Value) (an : Option Addr) (cdv ct : Value) (us : List Value), us.length = t.ps.length →
  bindArgs (PySem.W.fnOf (Str.ofString t.d.nm) t.qual (defArgs t.st) (defBody t.st) (defScope t.st) .none kV doc pm an cdv ct) ⟨us, []⟩ = pure (t.ps.zip us)
structure Ok (fl : List String) (t : TD) : Prop where
  chk : defB fl 400 t.N t.ps t.d t.st = true
  bnd : t.Bnd
/-- what the heap must say of it -/
def exB (K : PySem.W.Frag) (t : TD) : Bool := PySem.W.keepIn K (.ref (He.fAd K t.place)) && ((He.Fa.code t.place t.qual).ok K && (if t.d.c = "" then (He.Fa.glo (Str.ofString t.d.nm)).ok K else (He.Fa.meth (Str.ofString t.d.c) (Str.ofString t.d.nm)).ok K))
end TD
/-- a class of one's own -/
def clsB (K : PySem.W.Frag) (c : String) : Bool := (He.Fa.cls (Str.ofString c)).ok K && ((He.Fa.glo (Str.ofString c)).ok K && ((He.Fa.mkr (Str.ofString c)).ok K && (He.eqO (PySem.W.findIn K (.ref (He.ga K (Str.ofString c))) "__class__") (some (some (.builtin "object.__class__"))) &&
  (He.eqO (PySem.W.specialIn K (.builtin "object.__class__") "__get__") (some (some (.builtin "getset_descriptor.__get__"))) && (decide (PySem.W.takesIn K (.builtin "object.__class__") = some true) && decide (PySem.W.mroIn K (He.ga K (Str.ofString c)) (.type "object") = some true))))))
def isLit : D → Bool
  | .str _ | .int _ | .bl _ | .non => true
  | _ => false
def toDv : D → He.Dv
  | .str z => .str z | .int i => .int i | .bl b => .bl b | _ => .non
def conX (K : PySem.W.Frag) (x : String) : D → Bool
  | .int i => (He.Fa.int (Str.ofString x) i).ok K
  | .str z => (He.Fa.str (Str.ofString x) z).ok K
  | .ktup ds => (He.Fa.glo (Str.ofString x)).ok K && (ds.all isLit && He.tupB K (Str.ofString x) (ds.map toDv))
  | _ => false
def tnV (K : PySem.W.Frag) (t : TyK) : Value := if t.1 = true then .ref (He.ga K (Str.ofString t.2)) else .type t.2
def kitsB (K : PySem.W.Frag) (kit : TyK → TyK → Option Bool) (tys : List TyK) : Bool := tys.all fun a => tys.all fun b => match kit a b with
  | none => true
  | some r => decide (PySem.W.kitOne K (tnV K a) (tnV K b) = some r)
/-- the whole of it -/
def exM (ts : List TD) (cls fl : List String) (cs : List (String × D)) (kit : TyK → TyK → Option Bool) (tys : List TyK) (K : PySem.W.Frag) : Bool :=
  ts.all (TD.exB K) && (bltNames.all (fun n => (He.Fa.free (Str.ofString n)).ok K) && (cls.all (clsB K) && (cls.all (fun c => fl.all fun f => (He.Fa.noat (Str.ofString c) (Str.ofString f)).ok K) && (cs.all (fun p => conX K p.1 p.2) && kitsB K kit tys))))
def obsM (ex : PySem.W.Frag → Bool) (fn : List He.FnD) (K : PySem.W.Frag) : He.Al := (ex K, fn.map fun d => He.fnObs K d.at_)
structure SaysM (ex : PySem.W.Frag → Bool) (fn : List He.FnD) (K : PySem.W.Frag) : Prop where
  eq : obsM ex fn K = He.valE fn
def obsMG (n : Nat) (ex : PySem.W.Frag → Bool) (fn : List He.FnD) (g : Addr → Option Obj) : He.Al := obsM ex fn (He.frG g (He.asG g n))
def hookM (n : Nat) (ex : PySem.W.Frag → Bool) (fn : List He.FnD) : PySem.W.Hook where
  α := He.Al
  obs := fun s => obsMG n ex fn s.heap.get?
  val := fun _ => He.valE fn
  says := fun _ h => ∃ K : PySem.W.Frag, K.In h ∧ SaysM ex fn K
  of := fun _ _ e => ⟨_, He.frG_in, ⟨e⟩⟩
  keeps := fun _ _ _ ⟨K, hK, c⟩ k => ⟨K, PySem.W.Frag.In.keeps hK k, c⟩
theorem obsMG_eq {n : Nat} {ex : PySem.W.Frag → Bool} {fn : List He.FnD} {g : Addr → Option Obj} {s : Shared} (h : ∀ a, g a = s.heap.get? a) : obsMG n ex fn g = (hookM n ex fn).obs s := by
  have e : g = s.heap.get? := funext h
  rw [e] <;> rfl
section
variable {xb : PySem.W.Frag → Bool} {fs : List He.FnD} {K : PySem.W.Frag}
theorem SaysM.ex (c : SaysM xb fs K) : xb K = true := congrArg (fun z : He.Al => z.1) c.eq
theorem SaysM.fn (c : SaysM xb fs K) {d : He.FnD} (h : d ∈ fs) : He.fnObs K d.at_ = d.val := by
  obtain ⟨i, hi, e⟩ := List.mem_iff_getElem.mp h
  have e1 : fs.map (fun d => He.fnObs K d.at_) = fs.map He.FnD.val := congrArg (fun z : He.Al => z.2) c.eq
  have e2 : (fs.map fun d => He.fnObs K d.at_)[i]? = (fs.map He.FnD.val)[i]? := by rw [e1]
  rw [List.getElem?_map, List.getElem?_map, List.getElem?_eq_getElem hi, e] at e2
  exact Option.some.inj e2
end
theorem lk_mem {α : Type} {x : String} {d : α} : ∀ {l : List (String × α)}, l.lookup x = some d → (x, d) ∈ l
  | [], h => by cases h
  | (b, u) :: r, h => by
    have h2 : (match x == b with | true => some u | false => r.lookup x) = some d := h
    cases q : (x == b) with
    | true =>
      rw [q] at h2
      have e : u = d := Option.some.inj h2
      rw [beq_iff_eq.mp q, e]
      exact List.mem_cons_self
    | false =>
      rw [q] at h2
      exact List.mem_cons_of_mem _ (lk_mem h2)
theorem lit_rep {G : GE} {B : Hp} {μ : List Addr} {d : D} (h : isLit d = true) : Rep G B μ d ((toDv d).v G.K) := by
  cases d with
  | str z => exact .str z
  | int i => exact .int i
  | bl b => exact .bl b
  | non => exact .non
  | _ => cases h
/-- classes by name -/
def clA (K : PySem.W.Frag) (cls : List String) (c : String) : Option Addr := if c ∈ cls then some (He.ga K (Str.ofString c)) else none
theorem clA_mem {K : PySem.W.Frag} {cls : List String} {c : String} {a : Addr} (h : clA K cls c = some a) : c ∈ cls ∧ a = He.ga K (Str.ofString c) := by
  unfold clA at h
  split at h
  · rename_i hc; exact ⟨hc, (Option.some.inj h).symm⟩
  · cases h
def geM (K : PySem.W.Frag) (cls : List String) : GE := ⟨K, clA K cls, clA K cls⟩
section
variable {K : PySem.W.Frag} {h : Heap} {mg : Str → Option Value}
theorem con_ok (X : K.In h) (Gn : h.Ns mainGlobals mg) {cls : List String} {x : String} {d : D} (c : conX K x d = true) : ∃ u v, mg (Str.ofString x) = some u ∧ RelV v u ∧ ∀ B μ, Rep (geM K cls) B μ d v := by
  cases d with
  | int i =>
    obtain ⟨t, e⟩ := He.int_ok X Gn c
    exact ⟨_, .int i, e, ⟨t, rfl⟩, fun _ _ => .int i⟩
  | str z =>
    obtain ⟨t, e⟩ := He.str_ok X Gn c
    exact ⟨_, .str z, e, ⟨t, rfl⟩, fun _ _ => .str z⟩
  | ktup ds =>
    obtain ⟨c1, c⟩ := He.ba c
    obtain ⟨c2, c3⟩ := He.ba c
    refine ⟨_, .ref (He.ga K (Str.ofString x)), He.glo_ok X Gn c1, rfl, fun B μ => ?_⟩
    refine .ktup (vs := (ds.map toDv).map (He.Dv.v K)) (He.tupB_ok c3 B) (by simp) fun i d v hd hv => ?_
    simp only [List.map_map, List.getElem?_map, hd, Option.map_some, Option.some.injEq, Function.comp_apply] at hv
    subst hv
    exact lit_rep (G := geM K cls) (List.all_eq_true.mp c2 d (List.mem_of_getElem? hd))
  | _ => cases c
theorem cls_t {c : String} (h : clsB K c = true) : ClsT K (He.ga K (Str.ofString c)) := by
  obtain ⟨c1, h⟩ := He.ba h
  obtain ⟨_, h⟩ := He.ba h
  obtain ⟨_, h⟩ := He.ba h
  obtain ⟨c2, h⟩ := He.ba h
  obtain ⟨c3, h⟩ := He.ba h
  obtain ⟨c4, c5⟩ := He.ba h
  exact ⟨He.cls_ok c1, He.eqO_ok c2, He.eqO_ok c3, of_decide_eq_true c4, of_decide_eq_true c5⟩
theorem kits_ok {kit : TyK → TyK → Option Bool} {tys : List TyK} {cls : List String} (hk : ∀ a b r, kit a b = some r → a ∈ tys ∧ b ∈ tys) (h : kitsB K kit tys = true) : KitOk (geM K cls) kit := by
  intro a b r e u w ha hb
  obtain ⟨ma, mb⟩ := hk a b r e
  have h1 := List.all_eq_true.mp (List.all_eq_true.mp h a ma) b mb
  simp only [e] at h1
  have h2 := of_decide_eq_true h1
  have key : ∀ (t : TyK) (v : Value), TN (geM K cls) t v → v = tnV K t := fun t v ht => by
    obtain ⟨b, n⟩ := t
    cases b with
    | true =>
      obtain ⟨a, h3, h4⟩ := ht
      rw [h4, (clA_mem h3).2]
      rfl
    | false => exact ht
  rw [key a u ha, key b w hb]
  exact h2
variable {ts : List TD} {cls fl : List String} {cs : List (String × D)} {kit : TyK → TyK → Option Bool} {tys : List TyK}
theorem td_fun (c : SaysM (exM ts cls fl cs kit tys) (ts.map TD.fnD) K) {t : TD} (ht : t ∈ ts) : ∃ fd, L2.Fun K (Str.ofString t.d.nm) t.qual t.st (He.fAd K t.place) fd ∧ ∃ (kV doc pm : Value) (an : Option Addr) (cdv ct : Value), fd = PySem.W.fnOf (Str.ofString t.d.nm) t.qual (defArgs t.st) (defBody t.st) (defScope t.st) .none kV doc pm an cdv ct := by
  have e1 := List.all_eq_true.mp (He.ba c.ex).1 t ht
  obtain ⟨k1, e2⟩ := He.ba e1
  obtain ⟨k2, _⟩ := He.ba e2
  have e3 := c.fn (List.mem_map_of_mem (f := TD.fnD) ht)
  obtain ⟨oc, od, osl, kV, doc, pm, an, cdv, ct, l, cd⟩ := He.fn_ok (K := K) (d := t.fnD) e3 k2
  exact ⟨_, fun_mk (st := t.st) l cd k1, kV, doc, pm, an, cdv, ct, rfl⟩
theorem td_def {G : GE} {T : Tb} {L : Nat} {con : String → Option D} (hG : G.K = K) (c : SaysM (exM ts cls fl cs kit tys) (ts.map TD.fnD) K) {t : TD} (ht : t ∈ ts) (ok : t.Ok fl) : DefF G T L con kit fl t.d (He.fAd K t.place) := by
  subst hG
  obtain ⟨fd, F, kV, doc, pm, an, cdv, ct, rfl⟩ := td_fun c ht
  exact defF_of ok.chk F (F.binds ok.bnd)
theorem fx_of {P : Program} {w : World} {base : Heap} {L : Nat} (X : K.In h) (Gn : h.Ns mainGlobals mg) (c : SaysM (exM ts cls fl cs kit tys) (ts.map TD.fnD) K) (ok : ∀ t ∈ ts, t.Ok fl) (hk : ∀ a b r, kit a b = some r → a ∈ tys ∧ b ∈ tys)
    (hne : "" ∉ cls) (hcl : ∀ t ∈ ts, (t.d.c = "" ∧ t.d.nm ≠ "__init__") ∨ (t.d.c ∈ cls ∧ t.d.c ≠ "")) {con : String → Option D} (hcon : ∀ x d, con x = some d → (x, d) ∈ cs) : Fx P w (geM K cls) mg base (ts.map TD.d) L con kit fl := by
  obtain ⟨h1, e⟩ := He.ba c.ex
  obtain ⟨h2, e⟩ := He.ba e
  obtain ⟨h3, e⟩ := He.ba e
  obtain ⟨h4, e⟩ := He.ba e
  obtain ⟨h5, h6⟩ := He.ba e
  have get : ∀ {c f : String} {d : Df}, Tb.get (ts.map TD.d) c f = some d → ∃ t ∈ ts, t.d = d ∧ d.c = c ∧ d.nm = f := fun {c f d} hg => by
    have m := List.mem_of_find?_eq_some hg
    have p := List.find?_some hg
    obtain ⟨t, ht, e⟩ := List.mem_map.mp m
    simp only [Bool.and_eq_true, beq_iff_eq] at p
    exact ⟨t, ht, e, p.1, p.2⟩
  have pl : ∀ {t : TD}, t.d.c = "" → t.place = (Str.ofString t.d.nm, none) := fun e => if_pos e
  have pl2 : ∀ {t : TD}, t.d.c ≠ "" → t.place = (Str.ofString t.d.c, some (Str.ofString t.d.nm)) := fun e => if_neg e
  refine ⟨fun n hn => He.free_ok X Gn (List.all_eq_true.mp h2 n hn), fun x d e => con_ok X Gn (List.all_eq_true.mp h5 (x, d) (hcon x d e)), kits_ok hk h6, fun c a hc => ?_, fun c a f hc hf => ?_, fun f d hg => ?_, fun cn m d a hg hc => ?_, fun cn d hg => ?_⟩
  · obtain ⟨m, e⟩ := clA_mem hc
    subst e
    exact ⟨cls_t (List.all_eq_true.mp h3 c m), hc⟩
  · obtain ⟨m, e⟩ := clA_mem hc
    subst e
    exact He.noat_ok (List.all_eq_true.mp (List.all_eq_true.mp h4 c m) f hf)
  · obtain ⟨t, ht, e1, e2, e3⟩ := get hg
    subst e1; subst e3
    refine ⟨He.fAd K t.place, ?_, td_def rfl c ht (ok t ht)⟩
    have q := (He.ba (He.ba (List.all_eq_true.mp h1 t ht)).2).2
    rw [if_pos e2] at q
    rw [pl e2]
    exact He.glo_ok X Gn q
  · obtain ⟨t, ht, e1, e2, e3⟩ := get hg
    subst e1; subst e3; subst e2
    obtain ⟨m, e⟩ := clA_mem hc
    subst e
    have q := (He.ba (He.ba (List.all_eq_true.mp h1 t ht)).2).2
    rcases hcl t ht with hz | hz
    · exact absurd (hz.1 ▸ m) hne
    · have hz := hz.2
      rw [if_neg hz] at q
      refine ⟨He.fAd K t.place, ?_, td_def rfl c ht (ok t ht)⟩
      rw [pl2 hz]
      exact He.meth_ok q
  · obtain ⟨t, ht, e1, e2, e3⟩ := get hg
    subst e1; subst e2
    rcases hcl t ht with hz | ⟨m, hz⟩
    · exact absurd e3 hz.2
    ·
      have q := List.all_eq_true.mp h3 _ m
      obtain ⟨_, q⟩ := He.ba q
      obtain ⟨q1, q⟩ := He.ba q
      obtain ⟨q2, _⟩ := He.ba q
      refine ⟨He.ga K (Str.ofString t.d.c), He.fAd K t.place, if_pos m, He.glo_ok X Gn q1, ?_, td_def rfl c ht (ok t ht)⟩
      rw [pl2 hz, e3]
      exact He.mkr_ok q2
/-- the law's end: its own def kept to, any script answered -/
theorem end_of {l : PySem.W.OpenLaw} {q : Program} {loose : List Str} {XP : (Str → Option Value) → Heap → Prop} {dr : DefRec} {k m L : Nat} {con : String → Option D} {tl : TD} (hn : l.most = some 63) (hdf : dr.params.defaults = []) (hnm : dr.name = Str.ofString "law") (hm : 2 * m + 3 ≤ 64) (hk : k = 2 * m + 3)
    (hr : Room k callerA) (ok : ∀ t ∈ ts, t.Ok fl) (hkit : ∀ a b r, kit a b = some r → a ∈ tys ∧ b ∈ tys)
    (hne : "" ∉ cls) (hcl : ∀ t ∈ ts, (t.d.c = "" ∧ t.d.nm ≠ "__init__") ∨ (t.d.c ∈ cls ∧ t.d.c ≠ "")) (hcon : ∀ x d, con x = some d → (x, d) ∈ cs)
    (htl : tl ∈ ts) (hget : Tb.get (ts.map TD.d) "" "law" = some tl.d) (hc : tl.d.c = "") (hw : tl.d.nm = "law") (hps : tl.ps = [Str.ofString "script"])
    (hrun : ∀ ns : List Int, ns.length ≤ 63 → ∃ st, callN (ts.map TD.d) L con kit (m + 1) "" "law" [.scr (ns.map .int)] [] = .ok (.bl true) st) {n : Nat} :
    PySem.W.WalkO q loose XP (hookM n (exM ts cls fl cs kit tys) (ts.map TD.fnD)).says l.row.toRowW dr [] (fun f vs => PySem.call f vs) := by
  subst hk
  refine Att.attach_call hn hdf fun w s₀ s₁ mg mb fa o pm cd doc a vs ns Gd Y ho hd hcd hmg hobj hints hlen hg => ?_
  obtain ⟨K, KX, c⟩ := Y
  have Gm := Gd.T.g
  have F := fun base : Heap => fx_of (P := l.prog) (w := w) (base := base) (L := L) KX Gm c ok hkit hne hcl hcon
  obtain ⟨fd, hF, kV, doc, pm, an, cdv, ct, e⟩ := td_fun c htl
  have hpl : tl.place = (Str.ofString "law", none) := by rw [← hw]; exact if_pos hc
  have q := (He.ba (He.ba (List.all_eq_true.mp (He.ba c.ex).1 tl htl)).2).2
  rw [if_pos hc, hw] at q
  have hga : He.fAd K tl.place = fa := by
    rw [hpl]
    have e2 := He.glo_ok KX Gm q
    rw [hnm] at hmg
    exact Value.ref.inj (Option.some.inj (e2.symm.trans hmg))
  have hok : ∀ base : Heap, FnOk l.prog w K mg base (L2.CX l.prog w) (2 * m + 3) fa fd [Str.ofString "script"] (spL K) := fun base => by
    rw [← hga, ← hps]
    exact law_fn (F base) m hget (ok tl htl).chk hF hrun
  refine law_call (CX := L2.CX l.prog w) KX Gm Gd.T.b Gd.T.builtins Gd.T.nolimit hg hobj hints (Nat.le_trans hlen (by decide)) hr (fun base _ _ => hok base) (fun s u => ?_) (fun H hO hS => ⟨a, ns, rfl, hS, hlen, fun _ => rfl⟩) fun H e s' => cx_no H s₁ e s'
  rw [e]
  refine .of_eq ?_
  have b := (ok tl htl).bnd kV doc pm an cdv ct [u] (by rw [hps]; rfl)
  rw [hps] at b
  exact b
end
end Fg

set_option maxHeartbeats 4000000
/-! Xck: the text's defs are what their rows say. -/
namespace Fg
open PySem PySem.Spec PyProof.Rows L2
def top (i : Nat) : Stmt := PySem.Challenge.pw_forgood_k01_every_form_of_a_row_is_read.main.body.getD i (.Pass ⟨0, 0, 0, 0⟩)
def cls : List String := ["Tree"]
def fl : List String := ["blocks", "called", "line", "what"]
def n_is_name : List Str := [Str.ofString "word", Str.ofString "sign"]
abbrev s_is_name : Stmt := top 8
theorem c_is_name : defB fl 400 n_is_name (n_is_name.take 1) d_is_name s_is_name = true := by decide +kernel
def td_is_name : TD := ⟨d_is_name, n_is_name, s_is_name⟩
theorem o_is_name : td_is_name.Ok fl := ⟨c_is_name, fun _ _ _ _ _ _ us hl => match us, hl with | [_], _ => rfl⟩
def n_is_ref : List Str := [Str.ofString "word", Str.ofString "parts", Str.ofString "part"]
abbrev s_is_ref : Stmt := top 9
theorem c_is_ref : defB fl 400 n_is_ref (n_is_ref.take 1) d_is_ref s_is_ref = true := by decide +kernel
def td_is_ref : TD := ⟨d_is_ref, n_is_ref, s_is_ref⟩
theorem o_is_ref : td_is_ref.Ok fl := ⟨c_is_ref, fun _ _ _ _ _ _ us hl => match us, hl with | [_], _ => rfl⟩
def n_is_number : List Str := [Str.ofString "word", Str.ofString "sign"]
abbrev s_is_number : Stmt := top 10
theorem c_is_number : defB fl 400 n_is_number (n_is_number.take 1) d_is_number s_is_number = true := by decide +kernel
def td_is_number : TD := ⟨d_is_number, n_is_number, s_is_number⟩
theorem o_is_number : td_is_number.Ok fl := ⟨c_is_number, fun _ _ _ _ _ _ us hl => match us, hl with | [_], _ => rfl⟩
def n_fits : List Str := [Str.ofString "words", Str.ofString "form", Str.ofString "word", Str.ofString "mark"]
abbrev s_fits : Stmt := top 11
theorem c_fits : defB fl 400 n_fits (n_fits.take 2) d_fits s_fits = true := by decide +kernel
def td_fits : TD := ⟨d_fits, n_fits, s_fits⟩
theorem o_fits : td_fits.Ok fl := ⟨c_fits, fun _ _ _ _ _ _ us hl => match us, hl with | [_, _], _ => rfl⟩
def n_word_fits : List Str := [Str.ofString "word", Str.ofString "mark"]
abbrev s_word_fits : Stmt := top 12
theorem c_word_fits : defB fl 400 n_word_fits (n_word_fits.take 2) d_word_fits s_word_fits = true := by decide +kernel
def td_word_fits : TD := ⟨d_word_fits, n_word_fits, s_word_fits⟩
theorem o_word_fits : td_word_fits.Ok fl := ⟨c_word_fits, fun _ _ _ _ _ _ us hl => match us, hl with | [_, _], _ => rfl⟩
def n_in_port : List Str := [Str.ofString "words", Str.ofString "mark"]
abbrev s_in_port : Stmt := top 14
theorem c_in_port : defB fl 400 n_in_port (n_in_port.take 2) d_in_port s_in_port = true := by decide +kernel
def td_in_port : TD := ⟨d_in_port, n_in_port, s_in_port⟩
theorem o_in_port : td_in_port.Ok fl := ⟨c_in_port, fun _ _ _ _ _ _ us hl => match us, hl with | [_, _], _ => rfl⟩
def n_out_port : List Str := [Str.ofString "words", Str.ofString "mark"]
abbrev s_out_port : Stmt := top 15
theorem c_out_port : defB fl 400 n_out_port (n_out_port.take 2) d_out_port s_out_port = true := by decide +kernel
def td_out_port : TD := ⟨d_out_port, n_out_port, s_out_port⟩
theorem o_out_port : td_out_port.Ok fl := ⟨c_out_port, fun _ _ _ _ _ _ us hl => match us, hl with | [_, _], _ => rfl⟩
def n_at_row : List Str := [Str.ofString "words", Str.ofString "line", Str.ofString "mark", Str.ofString "start", Str.ofString "rest", Str.ofString "end"]
abbrev s_at_row : Stmt := top 16
theorem c_at_row : defB fl 400 n_at_row (n_at_row.take 3) d_at_row s_at_row = true := by decide +kernel
def td_at_row : TD := ⟨d_at_row, n_at_row, s_at_row⟩
theorem o_at_row : td_at_row.Ok fl := ⟨c_at_row, fun _ _ _ _ _ _ us hl => match us, hl with | [_, _, _], _ => rfl⟩
def n_by_row : List Str := [Str.ofString "words", Str.ofString "line", Str.ofString "cut", Str.ofString "kinds", Str.ofString "names", Str.ofString "word"]
abbrev s_by_row : Stmt := top 17
theorem c_by_row : defB fl 400 n_by_row (n_by_row.take 2) d_by_row s_by_row = true := by decide +kernel
def td_by_row : TD := ⟨d_by_row, n_by_row, s_by_row⟩
theorem o_by_row : td_by_row.Ok fl := ⟨c_by_row, fun _ _ _ _ _ _ us hl => match us, hl with | [_, _], _ => rfl⟩
def n_proof_row : List Str := [Str.ofString "words", Str.ofString "line", Str.ofString "mark", Str.ofString "found"]
abbrev s_proof_row : Stmt := top 18
theorem c_proof_row : defB fl 400 n_proof_row (n_proof_row.take 3) d_proof_row s_proof_row = true := by decide +kernel
def td_proof_row : TD := ⟨d_proof_row, n_proof_row, s_proof_row⟩
theorem o_proof_row : td_proof_row.Ok fl := ⟨c_proof_row, fun _ _ _ _ _ _ us hl => match us, hl with | [_, _, _], _ => rfl⟩
def n_proof_body : List Str := [Str.ofString "rows", Str.ofString "at", Str.ofString "ender", Str.ofString "mark", Str.ofString "found", Str.ofString "closed", Str.ofString "row"]
abbrev s_proof_body : Stmt := top 19
theorem c_proof_body : defB fl 400 n_proof_body (n_proof_body.take 4) d_proof_body s_proof_body = true := by decide +kernel
def td_proof_body : TD := ⟨d_proof_body, n_proof_body, s_proof_body⟩
theorem o_proof_body : td_proof_body.Ok fl := ⟨c_proof_body, fun _ _ _ _ _ _ us hl => match us, hl with | [_, _, _, _], _ => rfl⟩
def n_kind_block : List Str := [Str.ofString "rows", Str.ofString "at", Str.ofString "mark", Str.ofString "head", Str.ofString "line", Str.ofString "ports", Str.ofString "words"]
abbrev s_kind_block : Stmt := top 21
theorem c_kind_block : defB fl 400 n_kind_block (n_kind_block.take 3) d_kind_block s_kind_block = true := by decide +kernel
def td_kind_block : TD := ⟨d_kind_block, n_kind_block, s_kind_block⟩
theorem o_kind_block : td_kind_block.Ok fl := ⟨c_kind_block, fun _ _ _ _ _ _ us hl => match us, hl with | [_, _, _], _ => rfl⟩
def n_count_row : List Str := [Str.ofString "words", Str.ofString "line", Str.ofString "mark"]
abbrev s_count_row : Stmt := top 22
theorem c_count_row : defB fl 400 n_count_row (n_count_row.take 3) d_count_row s_count_row = true := by decide +kernel
def td_count_row : TD := ⟨d_count_row, n_count_row, s_count_row⟩
theorem o_count_row : td_count_row.Ok fl := ⟨c_count_row, fun _ _ _ _ _ _ us hl => match us, hl with | [_, _, _], _ => rfl⟩
def n_claim_row : List Str := [Str.ofString "words", Str.ofString "line", Str.ofString "found"]
abbrev s_claim_row : Stmt := top 23
theorem c_claim_row : defB fl 400 n_claim_row (n_claim_row.take 2) d_claim_row s_claim_row = true := by decide +kernel
def td_claim_row : TD := ⟨d_claim_row, n_claim_row, s_claim_row⟩
theorem o_claim_row : td_claim_row.Ok fl := ⟨c_claim_row, fun _ _ _ _ _ _ us hl => match us, hl with | [_, _], _ => rfl⟩
def n_claim_block : List Str := [Str.ofString "rows", Str.ofString "at", Str.ofString "head", Str.ofString "line", Str.ofString "found"]
abbrev s_claim_block : Stmt := top 24
theorem c_claim_block : defB fl 400 n_claim_block (n_claim_block.take 2) d_claim_block s_claim_block = true := by decide +kernel
def td_claim_block : TD := ⟨d_claim_block, n_claim_block, s_claim_block⟩
theorem o_claim_block : td_claim_block.Ok fl := ⟨c_claim_block, fun _ _ _ _ _ _ us hl => match us, hl with | [_, _], _ => rfl⟩
def n_rule_block : List Str := [Str.ofString "rows", Str.ofString "at", Str.ofString "head", Str.ofString "line", Str.ofString "things", Str.ofString "item", Str.ofString "counts", Str.ofString "row", Str.ofString "body"]
abbrev s_rule_block : Stmt := top 25
theorem c_rule_block : defB fl 400 n_rule_block (n_rule_block.take 2) d_rule_block s_rule_block = true := by decide +kernel
def td_rule_block : TD := ⟨d_rule_block, n_rule_block, s_rule_block⟩
theorem o_rule_block : td_rule_block.Ok fl := ⟨c_rule_block, fun _ _ _ _ _ _ us hl => match us, hl with | [_, _], _ => rfl⟩
def n_proof_block : List Str := [Str.ofString "rows", Str.ofString "at", Str.ofString "head", Str.ofString "body", Str.ofString "behind"]
abbrev s_proof_block : Stmt := top 26
theorem c_proof_block : defB fl 400 n_proof_block (n_proof_block.take 2) d_proof_block s_proof_block = true := by decide +kernel
def td_proof_block : TD := ⟨d_proof_block, n_proof_block, s_proof_block⟩
theorem o_proof_block : td_proof_block.Ok fl := ⟨c_proof_block, fun _ _ _ _ _ _ us hl => match us, hl with | [_, _], _ => rfl⟩
def n_let_item : List Str := [Str.ofString "words", Str.ofString "line", Str.ofString "pairs", Str.ofString "word", Str.ofString "many", Str.ofString "kind"]
abbrev s_let_item : Stmt := top 27
theorem c_let_item : defB fl 400 n_let_item (n_let_item.take 2) d_let_item s_let_item = true := by decide +kernel
def td_let_item : TD := ⟨d_let_item, n_let_item, s_let_item⟩
theorem o_let_item : td_let_item.Ok fl := ⟨c_let_item, fun _ _ _ _ _ _ us hl => match us, hl with | [_, _], _ => rfl⟩
def n_line_item : List Str := [Str.ofString "rows", Str.ofString "at", Str.ofString "words", Str.ofString "line", Str.ofString "word"]
abbrev s_line_item : Stmt := top 28
theorem c_line_item : defB fl 400 n_line_item (n_line_item.take 2) d_line_item s_line_item = true := by decide +kernel
def td_line_item : TD := ⟨d_line_item, n_line_item, s_line_item⟩
theorem o_line_item : td_line_item.Ok fl := ⟨c_line_item, fun _ _ _ _ _ _ us hl => match us, hl with | [_, _], _ => rfl⟩
def n_item_at : List Str := [Str.ofString "rows", Str.ofString "at", Str.ofString "word"]
abbrev s_item_at : Stmt := top 29
theorem c_item_at : defB fl 400 n_item_at (n_item_at.take 2) d_item_at s_item_at = true := by decide +kernel
def td_item_at : TD := ⟨d_item_at, n_item_at, s_item_at⟩
theorem o_item_at : td_item_at.Ok fl := ⟨c_item_at, fun _ _ _ _ _ _ us hl => match us, hl with | [_, _], _ => rfl⟩
def n_Tree_init : List Str := [Str.ofString "self", Str.ofString "called", Str.ofString "blocks"]
abbrev s_Tree_init : Stmt := inClass (top 31) 0
theorem c_Tree_init : defB fl 400 n_Tree_init (n_Tree_init.take 3) d_Tree_init s_Tree_init = true := by decide +kernel
def td_Tree_init : TD := ⟨d_Tree_init, n_Tree_init, s_Tree_init⟩
theorem o_Tree_init : td_Tree_init.Ok fl := ⟨c_Tree_init, fun _ _ _ _ _ _ us hl => match us, hl with | [_, _, _], _ => rfl⟩
def n_Tree_name : List Str := [Str.ofString "self"]
abbrev s_Tree_name : Stmt := inClass (top 31) 1
theorem c_Tree_name : defB fl 400 n_Tree_name (n_Tree_name.take 1) d_Tree_name s_Tree_name = true := by decide +kernel
def td_Tree_name : TD := ⟨d_Tree_name, n_Tree_name, s_Tree_name⟩
theorem o_Tree_name : td_Tree_name.Ok fl := ⟨c_Tree_name, fun _ _ _ _ _ _ us hl => match us, hl with | [_], _ => rfl⟩
def n_Tree_modules : List Str := [Str.ofString "self", Str.ofString "name", Str.ofString "found"]
abbrev s_Tree_modules : Stmt := inClass (top 31) 2
theorem c_Tree_modules : defB fl 400 n_Tree_modules (n_Tree_modules.take 1) d_Tree_modules s_Tree_modules = true := by decide +kernel
def td_Tree_modules : TD := ⟨d_Tree_modules, n_Tree_modules, s_Tree_modules⟩
theorem o_Tree_modules : td_Tree_modules.Ok fl := ⟨c_Tree_modules, fun _ _ _ _ _ _ us hl => match us, hl with | [_], _ => rfl⟩
def n_Tree_parts : List Str := [Str.ofString "self", Str.ofString "name", Str.ofString "found"]
abbrev s_Tree_parts : Stmt := inClass (top 31) 3
theorem c_Tree_parts : defB fl 400 n_Tree_parts (n_Tree_parts.take 1) d_Tree_parts s_Tree_parts = true := by decide +kernel
def td_Tree_parts : TD := ⟨d_Tree_parts, n_Tree_parts, s_Tree_parts⟩
theorem o_Tree_parts : td_Tree_parts.Ok fl := ⟨c_Tree_parts, fun _ _ _ _ _ _ us hl => match us, hl with | [_], _ => rfl⟩
def n_Tree_items_of : List Str := [Str.ofString "self", Str.ofString "module", Str.ofString "name", Str.ofString "found"]
abbrev s_Tree_items_of : Stmt := inClass (top 31) 4
theorem c_Tree_items_of : defB fl 400 n_Tree_items_of (n_Tree_items_of.take 2) d_Tree_items_of s_Tree_items_of = true := by decide +kernel
def td_Tree_items_of : TD := ⟨d_Tree_items_of, n_Tree_items_of, s_Tree_items_of⟩
theorem o_Tree_items_of : td_Tree_items_of.Ok fl := ⟨c_Tree_items_of, fun _ _ _ _ _ _ us hl => match us, hl with | [_, _], _ => rfl⟩
def n_Tree_eq : List Str := [Str.ofString "self", Str.ofString "other"]
abbrev s_Tree_eq : Stmt := inClass (top 31) 5
theorem c_Tree_eq : defB fl 400 n_Tree_eq (n_Tree_eq.take 2) d_Tree_eq s_Tree_eq = true := by decide +kernel
def td_Tree_eq : TD := ⟨d_Tree_eq, n_Tree_eq, s_Tree_eq⟩
theorem o_Tree_eq : td_Tree_eq.Ok fl := ⟨c_Tree_eq, fun _ _ _ _ _ _ us hl => match us, hl with | [_, _], _ => rfl⟩
def n_too_great : List Str := [Str.ofString "word"]
abbrev s_too_great : Stmt := top 36
theorem c_too_great : defB fl 400 n_too_great (n_too_great.take 1) d_too_great s_too_great = true := by decide +kernel
def td_too_great : TD := ⟨d_too_great, n_too_great, s_too_great⟩
theorem o_too_great : td_too_great.Ok fl := ⟨c_too_great, fun _ _ _ _ _ _ us hl => match us, hl with | [_], _ => rfl⟩
def n_rows_of : List Str := [Str.ofString "text", Str.ofString "lines", Str.ofString "rows", Str.ofString "line", Str.ofString "row", Str.ofString "word"]
abbrev s_rows_of : Stmt := top 37
theorem c_rows_of : defB fl 400 n_rows_of (n_rows_of.take 1) d_rows_of s_rows_of = true := by decide +kernel
def td_rows_of : TD := ⟨d_rows_of, n_rows_of, s_rows_of⟩
theorem o_rows_of : td_rows_of.Ok fl := ⟨c_rows_of, fun _ _ _ _ _ _ us hl => match us, hl with | [_], _ => rfl⟩
def n_module_at : List Str := [Str.ofString "rows", Str.ofString "at", Str.ofString "name", Str.ofString "found", Str.ofString "item"]
abbrev s_module_at : Stmt := top 38
theorem c_module_at : defB fl 400 n_module_at (n_module_at.take 2) d_module_at s_module_at = true := by decide +kernel
def td_module_at : TD := ⟨d_module_at, n_module_at, s_module_at⟩
theorem o_module_at : td_module_at.Ok fl := ⟨c_module_at, fun _ _ _ _ _ _ us hl => match us, hl with | [_, _], _ => rfl⟩
def n_read_text : List Str := [Str.ofString "text", Str.ofString "rows", Str.ofString "found", Str.ofString "at", Str.ofString "name", Str.ofString "block"]
abbrev s_read_text : Stmt := top 39
theorem c_read_text : defB fl 400 n_read_text (n_read_text.take 1) d_read_text s_read_text = true := by decide +kernel
def td_read_text : TD := ⟨d_read_text, n_read_text, s_read_text⟩
theorem o_read_text : td_read_text.Ok fl := ⟨c_read_text, fun _ _ _ _ _ _ us hl => match us, hl with | [_], _ => rfl⟩
def n_port_words : List Str := [Str.ofString "port"]
abbrev s_port_words : Stmt := top 41
theorem c_port_words : defB fl 400 n_port_words (n_port_words.take 1) d_port_words s_port_words = true := by decide +kernel
def td_port_words : TD := ⟨d_port_words, n_port_words, s_port_words⟩
theorem o_port_words : td_port_words.Ok fl := ⟨c_port_words, fun _ _ _ _ _ _ us hl => match us, hl with | [_], _ => rfl⟩
def n_proof_line_of : List Str := [Str.ofString "row", Str.ofString "word"]
abbrev s_proof_line_of : Stmt := top 42
theorem c_proof_line_of : defB fl 400 n_proof_line_of (n_proof_line_of.take 1) d_proof_line_of s_proof_line_of = true := by decide +kernel
def td_proof_line_of : TD := ⟨d_proof_line_of, n_proof_line_of, s_proof_line_of⟩
theorem o_proof_line_of : td_proof_line_of.Ok fl := ⟨c_proof_line_of, fun _ _ _ _ _ _ us hl => match us, hl with | [_], _ => rfl⟩
def n_proof_lines : List Str := [Str.ofString "rows", Str.ofString "row"]
abbrev s_proof_lines : Stmt := top 43
theorem c_proof_lines : defB fl 400 n_proof_lines (n_proof_lines.take 1) d_proof_lines s_proof_lines = true := by decide +kernel
def td_proof_lines : TD := ⟨d_proof_lines, n_proof_lines, s_proof_lines⟩
theorem o_proof_lines : td_proof_lines.Ok fl := ⟨c_proof_lines, fun _ _ _ _ _ _ us hl => match us, hl with | [_], _ => rfl⟩
def n_kind_lines : List Str := [Str.ofString "item", Str.ofString "ports", Str.ofString "word", Str.ofString "line", Str.ofString "port", Str.ofString "tie"]
abbrev s_kind_lines : Stmt := top 44
theorem c_kind_lines : defB fl 400 n_kind_lines (n_kind_lines.take 1) d_kind_lines s_kind_lines = true := by decide +kernel
def td_kind_lines : TD := ⟨d_kind_lines, n_kind_lines, s_kind_lines⟩
theorem o_kind_lines : td_kind_lines.Ok fl := ⟨c_kind_lines, fun _ _ _ _ _ _ us hl => match us, hl with | [_], _ => rfl⟩
def n_claim_line_of : List Str := [Str.ofString "row", Str.ofString "part"]
abbrev s_claim_line_of : Stmt := top 45
theorem c_claim_line_of : defB fl 400 n_claim_line_of (n_claim_line_of.take 1) d_claim_line_of s_claim_line_of = true := by decide +kernel
def td_claim_line_of : TD := ⟨d_claim_line_of, n_claim_line_of, s_claim_line_of⟩
theorem o_claim_line_of : td_claim_line_of.Ok fl := ⟨c_claim_line_of, fun _ _ _ _ _ _ us hl => match us, hl with | [_], _ => rfl⟩
def n_item_lines : List Str := [Str.ofString "item", Str.ofString "word", Str.ofString "many", Str.ofString "kind", Str.ofString "row", Str.ofString "found", Str.ofString "one"]
abbrev s_item_lines : Stmt := top 46
theorem c_item_lines : defB fl 400 n_item_lines (n_item_lines.take 1) d_item_lines s_item_lines = true := by decide +kernel
def td_item_lines : TD := ⟨d_item_lines, n_item_lines, s_item_lines⟩
theorem o_item_lines : td_item_lines.Ok fl := ⟨c_item_lines, fun _ _ _ _ _ _ us hl => match us, hl with | [_], _ => rfl⟩
def n_module_lines : List Str := [Str.ofString "name", Str.ofString "block", Str.ofString "found", Str.ofString "item"]
abbrev s_module_lines : Stmt := top 47
theorem c_module_lines : defB fl 400 n_module_lines (n_module_lines.take 2) d_module_lines s_module_lines = true := by decide +kernel
def td_module_lines : TD := ⟨d_module_lines, n_module_lines, s_module_lines⟩
theorem o_module_lines : td_module_lines.Ok fl := ⟨c_module_lines, fun _ _ _ _ _ _ us hl => match us, hl with | [_, _], _ => rfl⟩
def n_write_text : List Str := [Str.ofString "tree", Str.ofString "found", Str.ofString "name", Str.ofString "block"]
abbrev s_write_text : Stmt := top 48
theorem c_write_text : defB fl 400 n_write_text (n_write_text.take 1) d_write_text s_write_text = true := by decide +kernel
def td_write_text : TD := ⟨d_write_text, n_write_text, s_write_text⟩
theorem o_write_text : td_write_text.Ok fl := ⟨c_write_text, fun _ _ _ _ _ _ us hl => match us, hl with | [_], _ => rfl⟩
def n_law_source : List Str := [Str.ofString "script", Str.ofString "at", Str.ofString "cell", Str.ofString "one", Str.ofString "size", Str.ofString "small"]
abbrev s_law_source : Stmt := top 50
theorem c_law_source : defB fl 400 n_law_source (n_law_source.take 2) d_law_source s_law_source = true := by decide +kernel
def td_law_source : TD := ⟨d_law_source, n_law_source, s_law_source⟩
theorem o_law_source : td_law_source.Ok fl := ⟨c_law_source, fun _ _ _ _ _ _ us hl => match us, hl with | [_, _], _ => rfl⟩
def n_law_pick : List Str := [Str.ofString "source", Str.ofString "many", Str.ofString "found"]
abbrev s_law_pick : Stmt := top 51
theorem c_law_pick : defB fl 400 n_law_pick (n_law_pick.take 2) d_law_pick s_law_pick = true := by decide +kernel
def td_law_pick : TD := ⟨d_law_pick, n_law_pick, s_law_pick⟩
theorem o_law_pick : td_law_pick.Ok fl := ⟨c_law_pick, fun _ _ _ _ _ _ us hl => match us, hl with | [_, _], _ => rfl⟩
def n_law_choice : List Str := [Str.ofString "source", Str.ofString "things"]
abbrev s_law_choice : Stmt := top 52
theorem c_law_choice : defB fl 400 n_law_choice (n_law_choice.take 2) d_law_choice s_law_choice = true := by decide +kernel
def td_law_choice : TD := ⟨d_law_choice, n_law_choice, s_law_choice⟩
theorem o_law_choice : td_law_choice.Ok fl := ⟨c_law_choice, fun _ _ _ _ _ _ us hl => match us, hl with | [_, _], _ => rfl⟩
def n_law_shuffled : List Str := [Str.ofString "source", Str.ofString "things", Str.ofString "left", Str.ofString "found"]
abbrev s_law_shuffled : Stmt := top 53
theorem c_law_shuffled : defB fl 400 n_law_shuffled (n_law_shuffled.take 2) d_law_shuffled s_law_shuffled = true := by decide +kernel
def td_law_shuffled : TD := ⟨d_law_shuffled, n_law_shuffled, s_law_shuffled⟩
theorem o_law_shuffled : td_law_shuffled.Ok fl := ⟨c_law_shuffled, fun _ _ _ _ _ _ us hl => match us, hl with | [_, _], _ => rfl⟩
def n_law_names : List Str := [Str.ofString "source", Str.ofString "many", Str.ofString "before", Str.ofString "letters", Str.ofString "stem", Str.ofString "k", Str.ofString "tail"]
abbrev s_law_names : Stmt := top 54
theorem c_law_names : defB fl 400 n_law_names (n_law_names.take 3) d_law_names s_law_names = true := by decide +kernel
def td_law_names : TD := ⟨d_law_names, n_law_names, s_law_names⟩
theorem o_law_names : td_law_names.Ok fl := ⟨c_law_names, fun _ _ _ _ _ _ us hl => match us, hl with | [_, _, _], _ => rfl⟩
def n_law_same : List Str := [Str.ofString "answer", Str.ofString "due", Str.ofString "key", Str.ofString "at"]
abbrev s_law_same : Stmt := top 55
theorem c_law_same : defB fl 400 n_law_same (n_law_same.take 2) d_law_same s_law_same = true := by decide +kernel
def td_law_same : TD := ⟨d_law_same, n_law_same, s_law_same⟩
theorem o_law_same : td_law_same.Ok fl := ⟨c_law_same, fun _ _ _ _ _ _ us hl => match us, hl with | [_, _], _ => rfl⟩
def n_law_name : List Str := [Str.ofString "source", Str.ofString "letters", Str.ofString "keywords", Str.ofString "many", Str.ofString "found", Str.ofString "k"]
abbrev s_law_name : Stmt := top 56
theorem c_law_name : defB fl 400 n_law_name (n_law_name.take 1) d_law_name s_law_name = true := by decide +kernel
def td_law_name : TD := ⟨d_law_name, n_law_name, s_law_name⟩
theorem o_law_name : td_law_name.Ok fl := ⟨c_law_name, fun _ _ _ _ _ _ us hl => match us, hl with | [_], _ => rfl⟩
def n_law_ref : List Str := [Str.ofString "source", Str.ofString "bare"]
abbrev s_law_ref : Stmt := top 57
theorem c_law_ref : defB fl 400 n_law_ref (n_law_ref.take 2) d_law_ref s_law_ref = true := by decide +kernel
def td_law_ref : TD := ⟨d_law_ref, n_law_ref, s_law_ref⟩
theorem o_law_ref : td_law_ref.Ok fl := ⟨c_law_ref, fun _ _ _ _ _ _ us hl => match us, hl with | [_, _], _ => rfl⟩
def n_law_number : List Str := [Str.ofString "source", Str.ofString "turn"]
abbrev s_law_number : Stmt := top 58
theorem c_law_number : defB fl 400 n_law_number (n_law_number.take 1) d_law_number s_law_number = true := by decide +kernel
def td_law_number : TD := ⟨d_law_number, n_law_number, s_law_number⟩
theorem o_law_number : td_law_number.Ok fl := ⟨c_law_number, fun _ _ _ _ _ _ us hl => match us, hl with | [_], _ => rfl⟩
def n_law_line : List Str := [Str.ofString "row", Str.ofString "part"]
abbrev s_law_line : Stmt := top 59
theorem c_law_line : defB fl 400 n_law_line (n_law_line.take 1) d_law_line s_law_line = true := by decide +kernel
def td_law_line : TD := ⟨d_law_line, n_law_line, s_law_line⟩
theorem o_law_line : td_law_line.Ok fl := ⟨c_law_line, fun _ _ _ _ _ _ us hl => match us, hl with | [_], _ => rfl⟩
def n_law_numbered : List Str := [Str.ofString "rows", Str.ofString "line", Str.ofString "k"]
abbrev s_law_numbered : Stmt := top 60
theorem c_law_numbered : defB fl 400 n_law_numbered (n_law_numbered.take 2) d_law_numbered s_law_numbered = true := by decide +kernel
def td_law_numbered : TD := ⟨d_law_numbered, n_law_numbered, s_law_numbered⟩
theorem o_law_numbered : td_law_numbered.Ok fl := ⟨c_law_numbered, fun _ _ _ _ _ _ us hl => match us, hl with | [_, _], _ => rfl⟩
def n_law_claim : List Str := [Str.ofString "source", Str.ofString "bare", Str.ofString "words", Str.ofString "rows", Str.ofString "word"]
abbrev s_law_claim : Stmt := top 61
theorem c_law_claim : defB fl 400 n_law_claim (n_law_claim.take 2) d_law_claim s_law_claim = true := by decide +kernel
def td_law_claim : TD := ⟨d_law_claim, n_law_claim, s_law_claim⟩
theorem o_law_claim : td_law_claim.Ok fl := ⟨c_law_claim, fun _ _ _ _ _ _ us hl => match us, hl with | [_, _], _ => rfl⟩
def n_law_proof : List Str := [Str.ofString "source", Str.ofString "bare", Str.ofString "starts", Str.ofString "rows", Str.ofString "start", Str.ofString "end"]
abbrev s_law_proof : Stmt := top 62
theorem c_law_proof : defB fl 400 n_law_proof (n_law_proof.take 2) d_law_proof s_law_proof = true := by decide +kernel
def td_law_proof : TD := ⟨d_law_proof, n_law_proof, s_law_proof⟩
theorem o_law_proof : td_law_proof.Ok fl := ⟨c_law_proof, fun _ _ _ _ _ _ us hl => match us, hl with | [_, _], _ => rfl⟩
def n_law : List Str := [Str.ofString "script", Str.ofString "source", Str.ofString "more", Str.ofString "module", Str.ofString "lines", Str.ofString "items", Str.ofString "word", Str.ofString "name", Str.ofString "line", Str.ofString "counts", Str.ofString "rows", Str.ofString "tie", Str.ofString "row", Str.ofString "found", Str.ofString "kinds", Str.ofString "k", Str.ofString "head", Str.ofString "text", Str.ofString "tree", Str.ofString "turn"]
abbrev s_law : Stmt := top 63
theorem c_law : defB fl 400 n_law (n_law.take 1) d_law s_law = true := by decide +kernel
def td_law : TD := ⟨d_law, n_law, s_law⟩
theorem o_law : td_law.Ok fl := ⟨c_law, fun _ _ _ _ _ _ us hl => match us, hl with | [_], _ => rfl⟩
def tds : List TD := [td_is_name, td_is_ref, td_is_number, td_fits, td_word_fits, td_in_port, td_out_port, td_at_row, td_by_row, td_proof_row, td_proof_body, td_kind_block, td_count_row, td_claim_row, td_claim_block, td_rule_block, td_proof_block, td_let_item, td_line_item, td_item_at, td_Tree_init, td_Tree_name, td_Tree_modules, td_Tree_parts, td_Tree_items_of, td_Tree_eq, td_too_great, td_rows_of, td_module_at, td_read_text, td_port_words, td_proof_line_of, td_proof_lines, td_kind_lines, td_claim_line_of, td_item_lines, td_module_lines, td_write_text, td_law_source, td_law_pick, td_law_choice, td_law_shuffled, td_law_names, td_law_same, td_law_name, td_law_ref, td_law_number, td_law_line, td_law_numbered, td_law_claim, td_law_proof, td_law]
theorem tds_ok : ∀ t ∈ tds, t.Ok fl := List.forall_mem_cons.mpr ⟨o_is_name, List.forall_mem_cons.mpr ⟨o_is_ref, List.forall_mem_cons.mpr ⟨o_is_number, List.forall_mem_cons.mpr ⟨o_fits, List.forall_mem_cons.mpr ⟨o_word_fits, List.forall_mem_cons.mpr ⟨o_in_port, List.forall_mem_cons.mpr ⟨o_out_port, List.forall_mem_cons.mpr ⟨o_at_row, List.forall_mem_cons.mpr ⟨o_by_row, List.forall_mem_cons.mpr ⟨o_proof_row, List.forall_mem_cons.mpr ⟨o_proof_body, List.forall_mem_cons.mpr ⟨o_kind_block, List.forall_mem_cons.mpr ⟨o_count_row, List.forall_mem_cons.mpr ⟨o_claim_row, List.forall_mem_cons.mpr ⟨o_claim_block, List.forall_mem_cons.mpr ⟨o_rule_block, List.forall_mem_cons.mpr ⟨o_proof_block, List.forall_mem_cons.mpr ⟨o_let_item, List.forall_mem_cons.mpr ⟨o_line_item, List.forall_mem_cons.mpr ⟨o_item_at, List.forall_mem_cons.mpr ⟨o_Tree_init, List.forall_mem_cons.mpr ⟨o_Tree_name, List.forall_mem_cons.mpr ⟨o_Tree_modules, List.forall_mem_cons.mpr ⟨o_Tree_parts, List.forall_mem_cons.mpr ⟨o_Tree_items_of, List.forall_mem_cons.mpr ⟨o_Tree_eq, List.forall_mem_cons.mpr ⟨o_too_great, List.forall_mem_cons.mpr ⟨o_rows_of, List.forall_mem_cons.mpr ⟨o_module_at, List.forall_mem_cons.mpr ⟨o_read_text, List.forall_mem_cons.mpr ⟨o_port_words, List.forall_mem_cons.mpr ⟨o_proof_line_of, List.forall_mem_cons.mpr ⟨o_proof_lines, List.forall_mem_cons.mpr ⟨o_kind_lines, List.forall_mem_cons.mpr ⟨o_claim_line_of, List.forall_mem_cons.mpr ⟨o_item_lines, List.forall_mem_cons.mpr ⟨o_module_lines, List.forall_mem_cons.mpr ⟨o_write_text, List.forall_mem_cons.mpr ⟨o_law_source, List.forall_mem_cons.mpr ⟨o_law_pick, List.forall_mem_cons.mpr ⟨o_law_choice, List.forall_mem_cons.mpr ⟨o_law_shuffled, List.forall_mem_cons.mpr ⟨o_law_names, List.forall_mem_cons.mpr ⟨o_law_same, List.forall_mem_cons.mpr ⟨o_law_name, List.forall_mem_cons.mpr ⟨o_law_ref, List.forall_mem_cons.mpr ⟨o_law_number, List.forall_mem_cons.mpr ⟨o_law_line, List.forall_mem_cons.mpr ⟨o_law_numbered, List.forall_mem_cons.mpr ⟨o_law_claim, List.forall_mem_cons.mpr ⟨o_law_proof, List.forall_mem_cons.mpr ⟨o_law, fun _ h => nomatch h⟩⟩⟩⟩⟩⟩⟩⟩⟩⟩⟩⟩⟩⟩⟩⟩⟩⟩⟩⟩⟩⟩⟩⟩⟩⟩⟩⟩⟩⟩⟩⟩⟩⟩⟩⟩⟩⟩⟩⟩⟩⟩⟩⟩⟩⟩⟩⟩⟩⟩⟩⟩
theorem tds_tb : tds.map TD.d = tb := rfl
def names_0 : List PySem.Str := [Str.ofString "GoodError", Str.ofString "TooMany", Str.ofString "BadText", Str.ofString "KEYWORDS", Str.ofString "LETTERS", Str.ofString "DIGITS", Str.ofString "is_name", Str.ofString "is_ref", Str.ofString "is_number", Str.ofString "fits", Str.ofString "word_fits", Str.ofString "in_port", Str.ofString "out_port", Str.ofString "at_row", Str.ofString "by_row", Str.ofString "proof_row", Str.ofString "proof_body", Str.ofString "kind_block", Str.ofString "count_row", Str.ofString "claim_row", Str.ofString "claim_block", Str.ofString "rule_block", Str.ofString "proof_block", Str.ofString "let_item", Str.ofString "line_item", Str.ofString "item_at", Str.ofString "Tree", Str.ofString "LINES", Str.ofString "WORDS", Str.ofString "NUMBER"]
def names_1 : List PySem.Str := [Str.ofString "too_great", Str.ofString "rows_of", Str.ofString "module_at", Str.ofString "read_text", Str.ofString "port_words", Str.ofString "proof_line_of", Str.ofString "proof_lines", Str.ofString "kind_lines", Str.ofString "claim_line_of", Str.ofString "item_lines", Str.ofString "module_lines", Str.ofString "write_text", Str.ofString "_law_source", Str.ofString "_law_pick", Str.ofString "_law_choice", Str.ofString "_law_shuffled", Str.ofString "_law_names", Str.ofString "_law_same", Str.ofString "_law_name", Str.ofString "_law_ref", Str.ofString "_law_number", Str.ofString "_law_line", Str.ofString "_law_numbered", Str.ofString "_law_claim", Str.ofString "_law_proof"]
def names : List PySem.Str := names_0 ++ names_1
def place : Nat := 63
end Fg

set_option maxHeartbeats 4000000
/-! Pb: values: the operators' equations for plain proofs. -/
namespace Fg
open PySem PySem.Spec PyProof.Rows L2 TL
abbrev S (s : String) : Str := Str.ofString s
/-- a list of texts -/
abbrev Ls (ws : List Str) : D := .lst (ws.map .str)
abbrev Ts (ws : List Str) : D := .tup (ws.map .str)
section
variable {st : Store} {x y z : Str} {i j k : Int} {b c : Bool} {xs ys : List D} {ws vs : List Str}
@[simp] theorem szle {k : Nat} (h : k ≤ 16777216) : (k ≤ sizeLine) = True := eq_true h
theorem S_inj {a b : String} : (S a = S b) ↔ a = b := by
  constructor
  · intro h
    have := congrArg (fun z : Str => z.cps.toList) h
    simp only [PyProof.Rows.signs_ofString] at this
    have h2 : a.toList = b.toList := by
      have inj : ∀ {l m : List Char}, l.map Char.toNat = m.map Char.toNat → l = m := by
        intro l
        induction l with
        | nil => intro m h; cases m with
          | nil => rfl
          | cons _ _ => simp at h
        | cons c l ih => intro m h; cases m with
          | nil => simp at h
          | cons d m =>
            simp only [List.map_cons, List.cons.injEq] at h
            rw [ih h.2, Char.toNat_inj.mp h.1]
      exact inj this
    exact String.toList_inj.mp h2
  · rintro rfl; rfl
@[simp] theorem S_beq {a b : String} : (Str.ofString a == Str.ofString b) = (a == b) := by
  rw [Bool.eq_iff_iff, beq_iff_eq, beq_iff_eq]; exact S_inj
@[simp] theorem S_eq {a b : String} : (Str.ofString a = Str.ofString b) = (a = b) := propext S_inj
@[simp] theorem view_app0 {x : D} {ext : List D} : view (st ++ x :: ext) (.ref st.length) = x := by simp [view]
@[simp] theorem view_app1 {x y : D} {ext : List D} : view (st ++ x :: y :: ext) (.ref (st.length + 1)) = y := by simp [view]
@[simp] theorem truth_bl : truthD st (.bl b) = some b := rfl
@[simp] theorem truth_non : truthD st .non = some false := rfl
@[simp] theorem truth_int : truthD st (.int i) = some (i != 0) := rfl
@[simp] theorem truth_lst : truthD st (.lst xs) = some (!xs.isEmpty) := rfl
@[simp] theorem truth_tup : truthD st (.tup xs) = some (!xs.isEmpty) := rfl
@[simp] theorem cmp_eq_str : cmpV st .Eq (.str x) (.str y) = some (x == y) := rfl
@[simp] theorem cmp_ne_str : cmpV st .NotEq (.str x) (.str y) = some (x != y) := rfl
@[simp] theorem cmp_eq_int : cmpV st .Eq (.int i) (.int j) = some (i == j) := rfl
@[simp] theorem cmp_ne_int : cmpV st .NotEq (.int i) (.int j) = some (i != j) := rfl
@[simp] theorem cmp_eq_bl : cmpV st .Eq (.bl b) (.bl c) = some (b == c) := rfl
@[simp] theorem cmp_ne_bl : cmpV st .NotEq (.bl b) (.bl c) = some (b != c) := rfl
@[simp] theorem cmp_lt : cmpV st .Lt (.int i) (.int j) = some (decide (i < j)) := rfl
@[simp] theorem cmp_le : cmpV st .LtE (.int i) (.int j) = some (decide (i ≤ j)) := rfl
@[simp] theorem cmp_gt : cmpV st .Gt (.int i) (.int j) = some (decide (j < i)) := rfl
@[simp] theorem cmp_ge : cmpV st .GtE (.int i) (.int j) = some (decide (j ≤ i)) := rfl
@[simp] theorem cmp_is_non : cmpV st .Is .non .non = some true := rfl
@[simp] theorem cmp_is_int : cmpV st .Is (.int i) .non = some false := rfl
@[simp] theorem cmp_is_str : cmpV st .Is (.str x) .non = some false := rfl
@[simp] theorem cmp_is_tup : cmpV st .Is (.tup xs) .non = some false := rfl
@[simp] theorem cmp_is_lst : cmpV st .Is (.lst xs) .non = some false := rfl
@[simp] theorem cmp_isn_non : cmpV st .IsNot .non .non = some false := rfl
@[simp] theorem cmp_isn_int : cmpV st .IsNot (.int i) .non = some true := rfl
@[simp] theorem cmp_isn_str : cmpV st .IsNot (.str x) .non = some true := rfl
@[simp] theorem cmp_isn_tup : cmpV st .IsNot (.tup xs) .non = some true := rfl
@[simp] theorem cmp_isn_lst : cmpV st .IsNot (.lst xs) .non = some true := rfl
@[simp] theorem cmp_notIn {a d : D} : cmpV st .NotIn a d = (inD st a d).map (!·) := rfl
@[simp] theorem cmp_in {a d : D} : cmpV st .In a d = inD st a d := rfl
theorem any_strs : (ws.map D.str).any (fun z => eqF z (.str x)) = ws.contains x := by
  induction ws with
  | nil => rfl
  | cons w ws ih =>
    rw [List.map_cons, List.any_cons, ih, List.contains_cons]
    congr 1
    show (w == x) = (x == w)
    exact BEq.comm
theorem all_flat : (ws.map D.str).all flatD = true := by simp [flatD]
@[simp] theorem in_Ls : inD st (.str x) (.lst (ws.map D.str)) = some (ws.contains x) := by
  show (if flatD (.str x) = true ∧ (ws.map D.str).all flatD = true then some ((ws.map D.str).any fun z => eqF z (.str x)) else _) = _
  rw [if_pos ⟨rfl, all_flat⟩, any_strs]
@[simp] theorem in_Ts : inD st (.str x) (.tup (ws.map D.str)) = some (ws.contains x) := by
  show (if flatD (.str x) = true ∧ (ws.map D.str).all flatD = true then some ((ws.map D.str).any fun z => eqF z (.str x)) else _) = _
  rw [if_pos ⟨rfl, all_flat⟩, any_strs]
theorem in_Ks : inD st (.str x) (.ktup (ws.map D.str)) = some (ws.contains x) := by
  show (if flatD (.str x) = true ∧ (ws.map D.str).all flatD = true then some ((ws.map D.str).any fun z => eqF z (.str x)) else _) = _
  rw [if_pos ⟨rfl, all_flat⟩, any_strs]
@[simp] theorem in_tup2 {a b : Str} : inD st (.str x) (.tup [.str a, .str b]) = some (decide (x = a) || decide (x = b)) := by
  have := in_Ts (st := st) (x := x) (ws := [a, b])
  simpa using this
@[simp] theorem in_tup3 {a b c : Str} : inD st (.str x) (.tup [.str a, .str b, .str c]) = some (decide (x = a) || (decide (x = b) || decide (x = c))) := by
  have := in_Ts (st := st) (x := x) (ws := [a, b, c])
  simpa using this
@[simp] theorem in_sign {c : Nat} {t : Str} : inD st (.str ⟨#[c]⟩) (.str t) = some (decide (c ∈ t.cps.toList)) := rfl
/-! lists of texts, compared -/
theorem pys_strs : ∀ ws : List Str, D.pys (ws.map D.str) = some (ws.map PyData.str)
  | [] => rfl
  | w :: ws => by
    rw [List.map_cons, D.pys, pys_strs ws]; rfl
/-- plain signs alone -/
def Ac (w : Str) : Prop := ∀ c ∈ tl w, c < 128
theorem lay_strs : ∀ {ws : List Str}, (∀ w ∈ ws, Ac w) → PyData.canLayAll0 (ws.map PyData.str) = true
  | [], _ => by simp [PyData.canLayAll0]
  | w :: ws, h => by
    have hw := h w (by simp)
    simp only [List.map_cons, PyData.canLayAll0, PyData.canLay0, Bool.and_eq_true]
    refine ⟨?_, lay_strs fun v hv => h v (by simp [hv])⟩
    show w.cps.all (· < 0x110000) = true
    rw [← Array.all_toList, List.all_eq_true]
    intro c hc
    have := hw c hc
    exact decide_eq_true (by omega)
theorem depth_strs : ∀ {ws : List Str}, PyData.depthAll (ws.map PyData.str) = 0
  | [] => by simp [PyData.depthAll]
  | w :: ws => by simp [PyData.depthAll, PyData.depth, depth_strs (ws := ws)]
theorem eqv_strs : ∀ {ws vs : List Str}, PyData.eqvAll (ws.map PyData.str) (vs.map PyData.str) = (ws == vs)
  | [], [] => by simp [PyData.eqvAll]
  | [], v :: vs => by simp [PyData.eqvAll]
  | w :: ws, [] => by simp [PyData.eqvAll]
  | w :: ws, v :: vs => by
    simp only [List.map_cons, PyData.eqvAll, PyData.eqv, eqv_strs (ws := ws) (vs := vs)]
    rw [List.cons_beq_cons]
theorem eq_Ls (h1 : ∀ w ∈ ws, Ac w) (h2 : ∀ w ∈ vs, Ac w) : eqD (.lst (ws.map D.str)) (.lst (vs.map D.str)) = some (ws == vs) := by
  have e1 : SeqAt.shaped (.list (ws.map PyData.str)) = true := by
    simp [SeqAt.shaped, PyData.canLay0, lay_strs h1, PyData.depth, depth_strs]
  have e2 : SeqAt.shaped (.list (vs.map PyData.str)) = true := by
    simp [SeqAt.shaped, PyData.canLay0, lay_strs h2, PyData.depth, depth_strs]
  unfold eqD
  rw [if_neg (by simp [scalD])]
  simp only [D.py, pys_strs, Option.map_some]
  rw [if_pos ⟨e1, e2⟩]
  simp only [PyData.eqv, eqv_strs]
theorem cmp_eq_Ls (h1 : ∀ w ∈ ws, Ac w) (h2 : ∀ w ∈ vs, Ac w) : cmpV st .Eq (.lst (ws.map D.str)) (.lst (vs.map D.str)) = some (ws == vs) := eq_Ls h1 h2
theorem cmp_ne_Ls (h1 : ∀ w ∈ ws, Ac w) (h2 : ∀ w ∈ vs, Ac w) : cmpV st .NotEq (.lst (ws.map D.str)) (.lst (vs.map D.str)) = some (ws != vs) := by
  show (eqD _ _).map _ = _
  rw [view_lst, view_lst, eq_Ls h1 h2]; rfl
@[simp] theorem shut_bl : shut st (.ok (.bl b) st) = .ok (.bl b) st := shut_id rfl
@[simp] theorem shut_int : shut st (.ok (.int i) st) = .ok (.int i) st := shut_id rfl
@[simp] theorem shut_str : shut st (.ok (.str x) st) = .ok (.str x) st := shut_id rfl
@[simp] theorem shut_non : shut st (.ok .non st) = .ok .non st := shut_id rfl
theorem nr_strs : D.nrs (ws.map D.str) = true := by
  induction ws with
  | nil => rfl
  | cons w ws ih => simp [D.nrs, D.nr, ih]
theorem shut_Ls : shut st (.ok (.lst (ws.map D.str)) st) = .ok (.lst (ws.map D.str)) st := shut_id (by simp [D.nr, nr_strs])
/-! built-in functions -/
theorem len_str (h : x.length ≤ sizeLine) : bltV st "len" [.str x] = some (.int x.length) := by
  show (if x.length ≤ sizeLine then _ else _) = _
  rw [if_pos h]
@[simp] theorem len_lst : bltV st "len" [.lst xs] = some (.int xs.length) := rfl
@[simp] theorem len_tup : bltV st "len" [.tup xs] = some (.int xs.length) := rfl
@[simp] theorem len_scr : bltV st "len" [.scr xs] = some (.int xs.length) := rfl
theorem len_ref {n : Nat} (h : st[n]? = some (.lst xs)) : bltV st "len" [.ref n] = some (.int xs.length) := by
  show (match view st (.ref n) with | .lst xs => _ | .tup xs => _ | .str x => _ | .dk kvs => _ | .scr xs => _ | _ => _) = _
  rw [view_ref h]
theorem bls_of : ∀ {bs : List Bool}, blsOf (bs.map D.bl) = some bs
  | [] => rfl
  | b :: bs => by rw [List.map_cons, blsOf, bls_of]; rfl
theorem strs_of : ∀ {ws : List Str}, strsOf (ws.map D.str) = some ws
  | [] => rfl
  | b :: bs => by rw [List.map_cons, strsOf, strs_of]; rfl
theorem ints_of : ∀ {ws : List Int}, intsOf (ws.map D.int) = some ws
  | [] => rfl
  | b :: bs => by rw [List.map_cons, intsOf, ints_of]; rfl
@[simp] theorem all_bls {bs : List Bool} : bltV st "all" [.lst (bs.map D.bl)] = some (.bl (bs.all id)) := by
  show (blsOf _).map _ = _
  rw [bls_of]; rfl
@[simp] theorem any_bls {bs : List Bool} : bltV st "any" [.lst (bs.map D.bl)] = some (.bl (bs.any id)) := by
  show (blsOf _).map _ = _
  rw [bls_of]; rfl
@[simp] theorem sum_ints {bs : List Int} : bltV st "sum" [.lst (bs.map D.int)] = some (.int bs.sum) := by
  show (intsOf _).map _ = _
  rw [ints_of]; rfl
@[simp] theorem int_int : bltV st "int" [.int i] = some (.int i) := rfl
theorem int_str {n : Int} (h : intText? x = some n) (hl : x.length ≤ 640) : bltV st "int" [.str x] = some (.int n) := by
  show (match intText? x with | some n => _ | none => _) = _
  rw [h]; show (if _ then _ else _) = _; rw [if_pos hl]
@[simp] theorem abs_int : bltV st "abs" [.int i] = some (.int (if i < 0 then -i else i)) := rfl
theorem str_int (h : i.natAbs.log2 < 1920) : bltV st "str" [.int i] = some (.str (Str.ofString (toString i))) := by
  show (if _ then _ else _) = _; rw [if_pos h]
theorem str_str (h : x.length ≤ sizeLine) : bltV st "str" [.str x] = some (.str x) := by
  show (if _ then _ else _) = _; rw [if_pos h]
@[simp] theorem list_lst : bltV st "list" [.lst xs] = some (.lst xs) := rfl
@[simp] theorem list_tup : bltV st "list" [.tup xs] = some (.lst xs) := rfl
@[simp] theorem tuple_lst : bltV st "tuple" [.lst xs] = some (.tup xs) := rfl
@[simp] theorem tuple_tup : bltV st "tuple" [.tup xs] = some (.tup xs) := rfl
theorem tuple_ref {n : Nat} (h : st[n]? = some (.lst xs)) : bltV st "tuple" [.ref n] = some (.tup xs) := by
  show (match view st (.ref n) with | .lst xs => _ | .tup xs => _ | _ => _) = _
  rw [view_ref h]
theorem list_ref {n : Nat} (h : st[n]? = some (.lst xs)) : bltV st "list" [.ref n] = some (.lst xs) := by
  show (match view st (.ref n) with | .lst xs => _ | .tup xs => _ | .dk kvs => _ | _ => _) = _
  rw [view_ref h]
/-! operators -/
@[simp] theorem add_int : binV .Add (.int i) (.int j) = some (.int (i + j)) := rfl
@[simp] theorem sub_int : binV .Sub (.int i) (.int j) = some (.int (i - j)) := rfl
theorem add_str (h : x.length + y.length ≤ sizeLine) : binV .Add (.str x) (.str y) = some (.str (x ++ y)) := by
  show (if _ then _ else _) = _; rw [if_pos h]
theorem add_lst (h : xs.length + ys.length ≤ sizeLine) : binV .Add (.lst xs) (.lst ys) = some (.lst (xs ++ ys)) := by
  show (if _ then _ else _) = _; rw [if_pos h]
theorem add_tup (h : xs.length + ys.length ≤ sizeLine) : binV .Add (.tup xs) (.tup ys) = some (.tup (xs ++ ys)) := by
  show (if _ then _ else _) = _; rw [if_pos h]
@[simp] theorem ip_add : ipV .Add (.int i) (.int j) = some (.int (i + j)) := rfl
@[simp] theorem ip_sub : ipV .Sub (.int i) (.int j) = some (.int (i - j)) := rfl
theorem mul_l (h1 : -(2 ^ 64) < i) (h2 : i < 2 ^ 64) : binV .Mult (.int i) (.int j) = some (.int (i * j)) := by
  show (if _ then _ else _) = _; rw [if_pos (.inl (.inl ⟨h1, h2⟩))]
theorem mul_r (h1 : -(2 ^ 64) < j) (h2 : j < 2 ^ 64) : binV .Mult (.int i) (.int j) = some (.int (i * j)) := by
  show (if _ then _ else _) = _; rw [if_pos (.inl (.inr ⟨h1, h2⟩))]
theorem mod_int (h : 0 < j) : binV .Mod (.int i) (.int j) = some (.int (i % j)) := by
  show (if _ then _ else _) = _; rw [if_pos h]
theorem div_int (h : 0 < j) (h2 : j.natAbs.log2 < 9000) : binV .FloorDiv (.int i) (.int j) = some (.int (i / j)) := by
  show (if _ then _ else _) = _; rw [if_pos ⟨h, h2⟩]
theorem pow_int (h : 0 ≤ j) (h2 : j ≤ 1000000) (h3 : i.natAbs < 2 ^ 64) : binV .Pow (.int i) (.int j) = some (.int (i ^ j.toNat)) := by
  show (if _ then _ else _) = _; rw [if_pos ⟨h, h2, h3⟩]
/-! places -/
@[simp] theorem idx_lst : idxV (.lst xs) (.int i) = atI xs i := rfl
@[simp] theorem idx_tup : idxV (.tup xs) (.int i) = atI xs i := rfl
@[simp] theorem idx_scr : idxV (.scr xs) (.int i) = atI xs i := rfl
theorem idx_str (h : x.length ≤ sizeLine) : idxV (.str x) (.int i) = (atI x.cps.toList i).map fun c => .str ⟨#[c]⟩ := by
  show (if _ then _ else _) = _; rw [if_pos h]
@[simp] theorem slc_lst {l h : Option Int} : slcV (.lst xs) l h = some (.lst (cutL xs l h)) := rfl
@[simp] theorem slc_tup {l h : Option Int} : slcV (.tup xs) l h = some (.tup (cutL xs l h)) := rfl
@[simp] theorem slc_scr {l h : Option Int} : slcV (.scr xs) l h = some (.lst (cutL xs l h)) := rfl
@[simp] theorem partR_non {v : Store → R D} : partR (.con .non) v st = .ok none st := rfl
@[simp] theorem partR_int {v : Store → R D} : partR (.con (.int i)) v st = (v st).bnd fun d st1 => match d with | .int i => .ok (some i) st1 | _ => .no := rfl
@[simp] theorem partR_var {v : Store → R D} {n : Nat} : partR (.var n) v st = (v st).bnd fun d st1 => match d with | .int i => .ok (some i) st1 | _ => .no := rfl
@[simp] theorem partR_bin {v : Store → R D} {cc : Bool} {op : Operator} {a b : IE} : partR (.bin cc op a b) v st = (v st).bnd fun d st1 => match d with | .int i => .ok (some i) st1 | _ => .no := rfl
theorem atI_nat {α : Type} {xs : List α} {n : Nat} : atI xs (n : Int) = xs[n]? := by
  unfold atI ixN
  rw [if_pos (by omega)]
  by_cases h : n < xs.length
  · rw [if_pos (by omega)]; simp
  · rw [if_neg (by omega), List.getElem?_eq_none (by omega)]; rfl
section
variable {α : Type} {xs : List α}
@[simp] theorem atI_cast {n : Nat} : atI xs (n : Int) = xs[n]? := atI_nat
@[simp] theorem atI_0 : atI xs 0 = xs[0]? := atI_nat (n := 0)
@[simp] theorem atI_1 : atI xs 1 = xs[1]? := atI_nat (n := 1)
@[simp] theorem atI_2 : atI xs 2 = xs[2]? := atI_nat (n := 2)
@[simp] theorem atI_3 : atI xs 3 = xs[3]? := atI_nat (n := 3)
@[simp] theorem atI_4 : atI xs 4 = xs[4]? := atI_nat (n := 4)
@[simp] theorem atI_5 : atI xs 5 = xs[5]? := atI_nat (n := 5)
@[simp] theorem atI_6 : atI xs 6 = xs[6]? := atI_nat (n := 6)
@[simp] theorem atI_7 : atI xs 7 = xs[7]? := atI_nat (n := 7)
@[simp] theorem atI_last : atI xs (-1) = xs.getLast? := by
  unfold atI ixN
  rw [if_neg (by omega)]
  cases xs with
  | nil => rfl
  | cons x xs =>
    rw [if_pos (by simp; omega), Option.bind_some, List.getLast?_eq_getElem?]
    congr 1
    simp
    omega
theorem cutL_to {n : Nat} : cutL xs none (some (n : Int)) = xs.take n := by
  unfold cutL
  rw [HT.sIx_none, HT.sIx_nat, List.drop_zero, Nat.sub_zero]
  by_cases h : n ≤ xs.length
  · rw [Nat.min_eq_left h]
  · rw [Nat.min_eq_right (by omega), List.take_length, List.take_of_length_le (by omega)]
theorem cutL_from {n : Nat} : cutL xs (some (n : Int)) none = xs.drop n := by
  unfold cutL
  rw [HT.sIx_none, HT.sIx_nat]
  by_cases h : n ≤ xs.length
  · rw [Nat.min_eq_left h, List.take_of_length_le (by simp)]
  · rw [Nat.min_eq_right (by omega), List.drop_length, List.drop_of_length_le (by omega)]; simp
theorem cutL_mid {n m : Nat} : cutL xs (some (n : Int)) (some (m : Int)) = (xs.take m).drop n := by
  unfold cutL
  rw [HT.sIx_nat, HT.sIx_nat]
  rw [List.drop_take]
  by_cases h : n ≤ xs.length
  · rw [Nat.min_eq_left h]
    by_cases h2 : m ≤ xs.length
    · rw [Nat.min_eq_left h2]
    · rw [Nat.min_eq_right (by omega : xs.length ≤ m), List.take_of_length_le (l := xs.drop n) (i := xs.length - n) (by simp), List.take_of_length_le (l := xs.drop n) (i := m - n) (by simp; omega)]
  · rw [Nat.min_eq_right (by omega : xs.length ≤ n), List.drop_length, List.drop_of_length_le (by omega : xs.length ≤ n)]; simp
@[simp] theorem cutL_all : cutL xs none none = xs := by
  unfold cutL
  rw [HT.sIx_none, HT.sIx_none]; simp
@[simp] theorem cutL_castTo {n : Nat} : cutL xs none (some (n : Int)) = xs.take n := cutL_to
@[simp] theorem cutL_castFrom {n : Nat} : cutL xs (some (n : Int)) none = xs.drop n := cutL_from
@[simp] theorem cutL_to1 : cutL xs none (some 1) = xs.take 1 := cutL_to (n := 1)
@[simp] theorem cutL_to2 : cutL xs none (some 2) = xs.take 2 := cutL_to (n := 2)
@[simp] theorem cutL_to3 : cutL xs none (some 3) = xs.take 3 := cutL_to (n := 3)
@[simp] theorem cutL_from1 : cutL xs (some 1) none = xs.drop 1 := cutL_from (n := 1)
@[simp] theorem cutL_from2 : cutL xs (some 2) none = xs.drop 2 := cutL_from (n := 2)
@[simp] theorem cutL_from3 : cutL xs (some 3) none = xs.drop 3 := cutL_from (n := 3)
@[simp] theorem cutL_from4 : cutL xs (some 4) none = xs.drop 4 := cutL_from (n := 4)
@[simp] theorem cutL_from5 : cutL xs (some 5) none = xs.drop 5 := cutL_from (n := 5)
end
/-! methods -/
section
@[simp] theorem kdv_lst {xs : List D} : tyOf (kd (.lst xs)) = "list" := rfl
@[simp] theorem kdv_str {x : Str} : tyOf (kd (.str x)) = "str" := rfl
@[simp] theorem tyOf_lst : tyOf Kd.lst = "list" := rfl
@[simp] theorem tyOf_str : tyOf Kd.str = "str" := rfl
@[simp] theorem bmOk_append : bmOk "list" "append" = true := rfl
@[simp] theorem bmOk_pop : bmOk "list" "pop" = true := rfl
@[simp] theorem bmOk_index : bmOk "list" "index" = true := rfl
@[simp] theorem bmOk_reverse : bmOk "list" "reverse" = true := rfl
@[simp] theorem bmOk_join : bmOk "str" "join" = true := rfl
@[simp] theorem bmOk_split : bmOk "str" "split" = true := rfl
theorem bm_append {n : Nat} {xs : List D} {y : D} {c : Bool} (h : st[n]? = some (.lst xs)) (hl : xs.length < sizeLine) : bmR "append" c (.ref n) st (bmV st "append" (.ref n) [y]) = .ok .non (st.set n (.lst (xs ++ [y]))) := by
  unfold bmV
  rw [view_ref h]
  show bmR "append" c (.ref n) st (if _ then _ else _) = _
  rw [if_pos hl]; rfl
theorem bm_popAt {n : Nat} {xs : List D} {i : Nat} {y : D} {c : Bool} (h : st[n]? = some (.lst xs)) (hy : xs[i]? = some y) (hl : (i : Int) < 2 ^ 63) : bmR "pop" c (.ref n) st (bmV st "pop" (.ref n) [.int (i : Int)]) = .ok y (st.set n (.lst (xs.eraseIdx i))) := by
  have hi : i < xs.length := (List.getElem?_eq_some_iff.mp hy).1
  have e : ixN xs.length (i : Int) = some i := by unfold ixN; rw [if_pos (by omega), if_pos (by omega), Int.toNat_natCast]
  simp only [bmV, view_ref h, e, hy, Option.map_some]
  rw [if_pos ⟨by omega, hl⟩]; rfl
theorem bm_join {a : Str} {ws : List Str} {b : D} {x : D} (hb : seqOf st b = some (ws.map .str)) (hl : (ws.map (·.length)).sum + ws.length * a.length ≤ 16777216) : bmR "join" false x st (bmV st "join" (.str a) [b]) = .ok (.str (Txt.join a ws)) st := by
  unfold bmV
  show bmR "join" false x st (match seqOf st b with | some xs => _ | none => none) = _
  rw [hb]
  show bmR "join" false x st (match strsOf _ with | some ys => _ | none => none) = _
  rw [strs_of]
  show bmR "join" false x st (if _ then _ else _) = _
  rw [if_pos hl]; rfl
theorem bm_split {a b : Str} {x : D} (hb : (b.length == 0) = false) (hl : a.length + 2 ≤ sizeLine) : bmR "split" false x st (bmV st "split" (.str a) [.str b]) = .ok (.lst ((Txt.split a b).map .str)) st := by
  show bmR "split" false x st (if _ then _ else _) = _
  rw [if_pos ⟨hb, hl⟩]; rfl
theorem find_pre {k : Str} {post : List Str} : ∀ {pre : List Str}, (∀ w ∈ pre, w ≠ k) → ((pre ++ k :: post).map D.str).findIdx? (fun z => eqF z (.str k)) = some pre.length
  | [], _ => by
    rw [List.nil_append, List.map_cons, List.findIdx?_cons, if_pos (show eqF (.str k) (.str k) = true from (show (k == k) = true by simp))]; rfl
  | w :: pre, h => by
    rw [List.cons_append, List.map_cons, List.findIdx?_cons, if_neg (show ¬ eqF (.str w) (.str k) = true from (show ¬ (w == k) = true by simpa using h w (by simp))), find_pre fun v hv => h v (by simp [hv])]; rfl
theorem bm_index {k : Str} {pre post : List Str} {x : D} {ys : List D} (e : ys = (pre ++ k :: post).map D.str) (h : ∀ w ∈ pre, w ≠ k) : bmR "index" false x st (bmV st "index" (.lst ys) [.str k]) = .ok (.int pre.length) st := by
  subst e
  show bmR "index" false x st (if flatD (.str k) = true ∧ ((pre ++ k :: post).map D.str).all flatD = true then _ else _) = _
  rw [if_pos ⟨rfl, all_flat⟩, find_pre h]; rfl
@[simp] theorem seqOf_lst {xs : List D} : seqOf st (.lst xs) = some xs := rfl
@[simp] theorem seqOf_tup {xs : List D} : seqOf st (.tup xs) = some xs := rfl
@[simp] theorem seqOf_scr {xs : List D} : seqOf st (.scr xs) = some xs := rfl
theorem seqOf_ref {n : Nat} {xs : List D} (h : st[n]? = some (.lst xs)) : seqOf st (.ref n) = some xs := by
  unfold seqOf; rw [view_ref h]
@[simp] theorem seqI_lst {xs : List D} : seqI (.lst xs) st = some (xs, .free) := rfl
@[simp] theorem seqI_tup {xs : List D} : seqI (.tup xs) st = some (xs, .free) := rfl
@[simp] theorem seqI_scr {xs : List D} : seqI (.scr xs) st = some (xs, .free) := rfl
@[simp] theorem zipI_ll {xs ys : List D} : zipI (.lst xs) (.lst ys) st = some (zipD xs ys, .both .free .free) := by simp [zipI, isTq, hold]
@[simp] theorem zipI_lt {xs ys : List D} : zipI (.lst xs) (.tup ys) st = some (zipD xs ys, .both .free .free) := by simp [zipI, isTq, hold]
end
/-! texts taken apart -/
theorem len_app (a b : Str) : (a ++ b).length = a.length + b.length := by rw [len_tl, len_tl, len_tl, tl_append, List.length_append]
theorem part_le (y : Str) : ∀ {ps : List Str} {p : Str}, p ∈ ps → p.length ≤ (Str.join y ps).length
  | [], _, h => by simp at h
  | [x], p, h => by
    rw [List.mem_singleton] at h; subst h; exact Nat.le_refl _
  | x :: z :: r, p, h => by
    show p.length ≤ (x ++ y ++ Str.join y (z :: r)).length
    rw [len_app, len_app]
    rcases List.mem_cons.mp h with e | e
    · subst e; omega
    · have := part_le y e; omega
theorem split_le {x y p : Str} (h : p ∈ Txt.split x y) : p.length ≤ x.length := by
  have := part_le y h
  rwa [StrLaws.join_split] at this
theorem spl_count (S : List Nat) : ∀ (l : List Nat) (k : Nat) (acc : List Nat), (spl S k acc l).length ≤ l.length + 1
  | [], k, acc => by rw [spl_nil]; simp
  | c :: r, 0, acc => by
    by_cases h : pre S (c :: r) = true
    · rw [spl_hit h, List.length_cons, List.length_cons]
      have := spl_count S r (S.length - 1) []
      omega
    · rw [spl_miss (by simpa using h)]
      have := spl_count S r 0 (acc ++ [c])
      simp only [List.length_cons]; omega
  | c :: r, k + 1, acc => by
    have := spl_count S r k acc
    show (spl S k acc r).length ≤ _
    simp only [List.length_cons]; omega
theorem split_count (x : Str) {y : Str} (hy : tl y ≠ []) : (Txt.split x y).length ≤ x.length + 1 := by
    by_cases hk : Builtin.Str.strKind x < Builtin.Str.strKind y
    · unfold Txt.split
      rw [if_pos (by simp [hk])]; simp
    · rw [← List.length_map (f := tl), split_spl x y hy hk, len_tl]
      exact spl_count _ _ _ _
theorem S_len (s : String) : (S s).length = s.length := by
  rw [len_tl, tl_ofString, List.length_map]; rfl
/-- one part -/
theorem split_one {x : Str} {c : Nat} {y : Str} (ey : tl y = [c]) (hk : y.cps.all (· < 256) = true) (h : c ∉ tl x) : Txt.split x y = [x] := by
  have := split_join ey hk (parts := [x]) (by simp) (by simpa using h)
  rwa [join_eq] at this
theorem join_two {x z y : Str} : Txt.join y [x, z] = x ++ y ++ z := by rw [join_eq]; rfl
theorem split_two {x z : Str} {c : Nat} {y : Str} (ey : tl y = [c]) (hk : y.cps.all (· < 256) = true) (h : c ∉ tl x) (h2 : c ∉ tl z) : Txt.split (x ++ y ++ z) y = [x, z] := by
  have := split_join ey hk (parts := [x, z]) (by simp) (fun p hp => by
    simp only [List.mem_cons, List.not_mem_nil, or_false] at hp
    rcases hp with rfl | rfl
    · exact h
    · exact h2)
  rwa [join_two] at this
/-! comprehensions -/
section
theorem lcb {C : Cf} {σ : Slots} {own : List Nat} {g : IG} {cond elt : IE} {d : D} : lcBody C σ own g cond elt d st = match setG g d (wipeS σ own) with
        | some σ1 => ((evX C σ1 cond).t st).bnd fun b st2 => if b = true then ((evX C σ1 elt).v st2).bnd fun y st3 => .ok (some y) st3 else .ok none st2
        | none => .no := rfl
@[simp] theorem wipeS_nil {σ : Slots} : wipeS σ [] = σ := rfl
@[simp] theorem wipeS_cons {σ : Slots} {v : Nat} {vs : List Nat} : wipeS σ (v :: vs) = (wipeS σ vs).set v none := rfl
/-- a pure turn for each -/
theorem lc_map {α : Type} {f : D → Store → R (Option D)} {h : Hold} {e g : α → D} : ∀ {ds : List α}, h.ok st → (∀ d ∈ ds, f (e d) st = .ok (some (g d)) st) → lcLoop f h (ds.map e) st = .ok (ds.map g) st
  | [], hh, _ => by simp only [lcLoop, hh, if_true, List.map_nil]
  | d :: ds, hh, hf => by
    have e := hf d (by simp)
    have ih := lc_map (ds := ds) hh fun x hx => hf x (by simp [hx])
    simp only [List.map_cons, lcLoop, hh, if_true, e, ih]
theorem lc_free {α : Type} {f : D → Store → R (Option D)} {e : α → D} (g : α → D) {ds : List α} (hf : ∀ d ∈ ds, f (e d) st = .ok (some (g d)) st) : lcLoop f .free (ds.map e) st = .ok (ds.map g) st := lc_map trivial hf
theorem lc_both {α : Type} {f : D → Store → R (Option D)} {e : α → D} (g : α → D) {ds : List α} (hf : ∀ d ∈ ds, f (e d) st = .ok (some (g d)) st) : lcLoop f (.both .free .free) (ds.map e) st = .ok (ds.map g) st := lc_map ⟨trivial, trivial⟩ hf
@[simp] theorem all_map {α : Type} {xs : List α} {p : α → Bool} : bltV st "all" [.lst (xs.map fun x => .bl (p x))] = some (.bl (xs.all p)) := by
  have := all_bls (st := st) (bs := xs.map p)
  rw [List.map_map] at this
  refine Eq.trans this ?_
  rw [List.all_map]; rfl
@[simp] theorem any_map {α : Type} {xs : List α} {p : α → Bool} : bltV st "any" [.lst (xs.map fun x => .bl (p x))] = some (.bl (xs.any p)) := by
  have := any_bls (st := st) (bs := xs.map p)
  rw [List.map_map] at this
  refine Eq.trans this ?_
  rw [List.any_map]; rfl
theorem signs_eq {x : Str} : signsOf x = (tl x).map fun c => .str ⟨#[c]⟩ := rfl
end
end
end Fg

set_option maxHeartbeats 4000000
/-! Pw: words. -/
namespace Fg
open PySem PySem.Spec PyProof.Rows L2 TL
def letS : List Nat := tl (S "abcdefghijklmnopqrstuvwxyzABCDEFGHIJKLMNOPQRSTUVWXYZ")
def digS : List Nat := tl (S "0123456789")
def kwS : List Str := [S "book", S "module", S "use", S "tie", S "kind", S "plug", S "socket", S "let", S "claim", S "want", S "seat", S "more", S "within", S "wires", S "rule", S "proof", S "search", S "lanes", S "at", S "to", S "from", S "by", S "with", S "rest", S "show", S "shares", S "end"]
def isName (w : Str) : Bool := match tl w with
  | [] => false
  | c :: r => decide (w.length ≤ 16) && !kwS.contains w && decide (c ∈ letS) && (c :: r).all fun c => decide (c ∈ letS) || decide (c ∈ digS)
section
variable {L : Nat} {kit : TyK → TyK → Option Bool}
theorem in_kw {st : Store} {x : Str} : inD st (.str x) k_KEYWORDS = some (kwS.contains x) := in_Ks (ws := kwS)
theorem in_let {st : Store} {c : Nat} : inD st (.str ⟨#[c]⟩) k_LETTERS = some (decide (c ∈ letS)) := rfl
theorem in_dig {st : Store} {c : Nat} : inD st (.str ⟨#[c]⟩) k_DIGITS = some (decide (c ∈ digS)) := rfl
theorem sp_is_name {w : Str} (hw : w.length ≤ sizeLine) {n : Nat} (hn : 1 ≤ n) {st : Store} : callN tb L con kit n "" "is_name" [.str w] st = .ok (.bl (isName w)) st := by
  obtain ⟨m, rfl, e⟩ := callN_at (n := n) (L := L) (con := con) (kit := kit) (st := st) t_is_name (ds := [.str w]) rfl hn
  rw [e]
  clear e
  cases ht : tl w with
  | nil =>
    have : w = S "" := ext_tl (ht.trans (by simp [tl_ofString]))
    subst this
    simp [d_is_name, isName, ht]
  | cons c r =>
    have hne : w ≠ S "" := fun z => by subst z; simp [tl_ofString] at ht
    have h0 : w.cps[0]? = some c := by
      rw [← Array.getElem?_toList]; show (tl w)[0]? = _; rw [ht]; rfl
    have hl : (c :: r).length ≤ sizeLine := by rw [← ht, ← len_tl]; exact hw
    by_cases h1 : (16 : Int) < w.length
    · simp [d_is_name, isName, ht, len_str hw, hne, h1, show ¬ w.length ≤ 16 by omega]
    have h1n : w.length ≤ 16 := by omega
    by_cases h2 : w ∈ kwS
    · simp [d_is_name, isName, ht, len_str hw, hne, h1, h2, in_kw]
    by_cases h3 : c ∈ letS
    · simp only [isName, ht, h1n, h2, h3, List.contains_eq_mem, decide_true, decide_false, Bool.not_false, Bool.true_and]
      simp [d_is_name, len_str hw, hne, h1, h2, in_kw, idx_str hw, h0, in_let, h3]
      rw [signs_eq, lc_free fun c => .bl (decide (c ∈ letS) || decide (c ∈ digS)), ht]
      · simp only [R.bnd_ok, hl, List.length_map, if_true, alloc_f, ev_nil, all_map, newR_f, RS.ofb_ok, RS.seq_rt, RS.out_rt]
        simp [h3]
      · intro c hc
        by_cases h : c ∈ letS <;> simp [lcb, in_let, in_dig, h]
    · simp [d_is_name, isName, ht, len_str hw, hne, h1, h2, in_kw, idx_str hw, h0, in_let, h3]
/-- a name, or two with a dot -/
def isRef (w : Str) : Bool := decide ((Txt.split w (S ".")).length ≤ 2) && (Txt.split w (S ".")).all isName
theorem sp_is_ref {w : Str} (hw : w.length + 2 ≤ sizeLine) {n : Nat} (hn : 2 ≤ n) {st : Store} : callN tb L con kit n "" "is_ref" [.str w] st = .ok (.bl (isRef w)) st := by
  obtain ⟨m, rfl, e⟩ := callN_at (n := n) (L := L) (con := con) (kit := kit) (st := st) t_is_ref (ds := [.str w]) rfl (by omega)
  rw [e]
  clear e
  have hm : 1 ≤ m := by omega
  have hs : bmR "split" false (.str w) st (bmV st "split" (.str w) [.str (Str.ofString ".")]) = _ := bm_split (by simp [S_len]) hw
  have hl : (Txt.split w (S ".")).length ≤ sizeLine := Nat.le_trans (split_count w (y := S ".") (by simp [tl_ofString])) (by omega)
  by_cases h2 : (Txt.split w (S ".")).length ≤ 2
  · have h2' : ((Txt.split w (S ".")).length : Int) ≤ 2 := by omega
    simp [d_is_ref, hs, h2']
    rw [lc_free fun p => .bl (isName p)]
    · simp [hl, isRef, h2]
    · intro p hp
      simp [lcb, sp_is_name (Nat.le_trans (split_le hp) (by omega)) hm]
  · have h2' : ¬ ((Txt.split w (S ".")).length : Int) ≤ 2 := by omega
    simp [d_is_ref, hs, h2', isRef, h2]
def isNum (w : Str) : Bool := match tl w with
  | [] => false
  | c :: r => !(decide (c = 48) && decide (w ≠ S "0")) && (c :: r).all fun c => decide (c ∈ digS)
theorem sp_is_number {w : Str} (hw : w.length ≤ sizeLine) {n : Nat} (hn : 1 ≤ n) {st : Store} : callN tb L con kit n "" "is_number" [.str w] st = .ok (.bl (isNum w)) st := by
  obtain ⟨m, rfl, e⟩ := callN_at (n := n) (L := L) (con := con) (kit := kit) (st := st) t_is_number (ds := [.str w]) rfl hn
  rw [e]
  clear e
  cases ht : tl w with
  | nil =>
    have : w = S "" := ext_tl (ht.trans (by simp [tl_ofString]))
    subst this
    simp [d_is_number, isNum, ht]
  | cons c r =>
    have hne : w ≠ S "" := fun z => by subst z; simp [tl_ofString] at ht
    have h0 : w.cps[0]? = some c := by
      rw [← Array.getElem?_toList]; show (tl w)[0]? = _; rw [ht]; rfl
    have hl : (tl w).length ≤ sizeLine := by rw [← len_tl]; exact hw
    have hz48 : ((⟨#[48]⟩ : Str) = Str.ofString "0") = True := eq_true (ext_tl (by simp [tl_ofString]))
    have hz : c ≠ 48 → ((⟨#[c]⟩ : Str) = Str.ofString "0") = False := fun h => eq_false fun z => h (by
      have := congrArg tl z
      rw [tl_ofString] at this
      exact (List.cons.inj (show [c] = [48] from this)).1)
    by_cases h1 : c = 48 ∧ w ≠ S "0"
    · obtain ⟨rfl, h2⟩ := h1
      have h2' := eq_false h2
      have h3 : (w != Str.ofString "0") = true := by simpa using h2
      simp [d_is_number, isNum, ht, hne, idx_str hw, h0, hz48, h2', h3]
    · have h1' : isNum w = (tl w).all fun c => decide (c ∈ digS) := by
        unfold isNum; rw [ht]
        by_cases h : c = 48
        · have : w = S "0" := Classical.byContradiction fun z => h1 ⟨h, z⟩
          simp [this]
        · simp [h]
      rw [h1']
      by_cases h4 : c = 48
      · have h5 : w = S "0" := Classical.byContradiction fun z => h1 ⟨h4, z⟩
        have h3 : (w != Str.ofString "0") = false := by simpa using h5
        subst h4
        simp [d_is_number, hne, idx_str hw, h0, hz48, h3]
        rw [signs_eq, lc_free fun c => .bl (decide (c ∈ digS))]
        · simp only [R.bnd_ok, hl, List.length_map, if_true, alloc_f, ev_nil, all_map, newR_f, RS.ofb_ok, RS.seq_rt, RS.out_rt]
          simp
        · intro c hc
          simp [lcb, in_dig]
      · simp [d_is_number, hne, idx_str hw, h0, hz h4]
        rw [signs_eq, lc_free fun c => .bl (decide (c ∈ digS))]
        · simp only [R.bnd_ok, hl, List.length_map, if_true, alloc_f, ev_nil, all_map, newR_f, RS.ofb_ok, RS.seq_rt, RS.out_rt]
          simp
        · intro c hc
          simp [lcb, in_dig]
/-- the marks of a form -/
def wordFits (w k : Str) : Bool := if k = S "R" then isRef w else if k = S "N" then isName w else if k = S "#" then isNum w else decide (w = k)
theorem sp_word_fits {w k : Str} (hw : w.length + 2 ≤ sizeLine) {n : Nat} (hn : 3 ≤ n) {st : Store} : callN tb L con kit n "" "word_fits" [.str w, .str k] st = .ok (.bl (wordFits w k)) st := by
  obtain ⟨m, rfl, e⟩ := callN_at (n := n) (L := L) (con := con) (kit := kit) (st := st) t_word_fits (ds := [.str w, .str k]) rfl (by omega)
  rw [e]
  clear e
  have hm : 2 ≤ m := by omega
  by_cases h1 : k = S "R"
  · subst h1; simp [d_word_fits, wordFits, sp_is_ref hw hm]
  by_cases h2 : k = S "N"
  · subst h2; simp [d_word_fits, wordFits, sp_is_name (show w.length ≤ sizeLine by omega) (show 1 ≤ m by omega)]
  by_cases h3 : k = S "#"
  · subst h3; simp [d_word_fits, wordFits, sp_is_number (show w.length ≤ sizeLine by omega) (show 1 ≤ m by omega)]
  simp [d_word_fits, wordFits, h1, h2, h3]
  rw [Bool.eq_iff_iff]; simp
def fitsB : List Str → List Str → Bool
  | [], [] => true
  | w :: ws, k :: ks => wordFits w k && fitsB ws ks
  | _, _ => false
theorem fitsB_len : ∀ {ws ks : List Str}, ws.length ≠ ks.length → fitsB ws ks = false
  | [], [], h => absurd rfl h
  | [], _ :: _, _ => rfl
  | _ :: _, [], _ => rfl
  | w :: ws, k :: ks, h => by
    rw [fitsB, fitsB_len (by simpa using h), Bool.and_false]
theorem fitsB_zip : ∀ {ws ks : List Str}, ws.length = ks.length → fitsB ws ks = (ws.zip ks).all fun p => wordFits p.1 p.2
  | [], [], _ => rfl
  | w :: ws, k :: ks, h => by
    rw [fitsB, fitsB_zip (by simpa using h), List.zip_cons_cons, List.all_cons]
theorem zipD_strs (ws ks : List Str) : zipD (ws.map .str) (ks.map .str) = (ws.zip ks).map fun p => .tup [.str p.1, .str p.2] := by
  unfold zipD
  rw [List.zip_map, List.map_map]; rfl
theorem sp_fits {ws ks : List Str} (hw : ∀ w ∈ ws, w.length + 2 ≤ sizeLine) (hl : ws.length ≤ sizeLine) {n : Nat} (hn : 4 ≤ n) {st : Store} : callN tb L con kit n "" "fits" [.lst (ws.map .str), .tup (ks.map .str)] st = .ok (.bl (fitsB ws ks)) st := by
  obtain ⟨m, rfl, e⟩ := callN_at (n := n) (L := L) (con := con) (kit := kit) (st := st) t_fits (ds := [.lst (ws.map .str), .tup (ks.map .str)]) rfl (by omega)
  rw [e]
  clear e
  have hm : 3 ≤ m := by omega
  by_cases h : ws.length = ks.length
  · simp [d_fits, h]
    rw [zipD_strs, lc_both fun p => .bl (wordFits p.1 p.2)]
    · rw [fitsB_zip h]
      have : (ws.zip ks).length ≤ sizeLine := by simp; omega
      simp only [R.bnd_ok, this, List.length_map, if_true, alloc_f, ev_nil, all_map, newR_f, RS.ofb_ok, RS.seq_rt, RS.out_rt]
    · intro p hp
      have := hw p.1 (List.of_mem_zip hp).1
      simp [lcb, sp_word_fits this hm]
  · rw [fitsB_len h]
    have : ¬ ((ws.length : Int) = ks.length) := by omega
    simp [d_fits, this]
end
end Fg

set_option maxHeartbeats 4000000
/-! Pr: rows of words, read. -/
namespace Fg
open PySem PySem.Spec PyProof.Rows L2 TL
/-- a word of a text -/
def Wd (w : Str) : Prop := w.length ≤ 40 ∧ Ac w
theorem Wd.l100 {w : Str} (h : Wd w) : w.length ≤ 100 := Nat.le_trans h.1 (by decide)
theorem Wd.le {w : Str} (h : Wd w) : w.length + 2 ≤ sizeLine := by have := h.1; unfold sizeLine; omega
theorem Wd.le' {w : Str} (h : Wd w) : w.length ≤ sizeLine := by have := h.1; unfold sizeLine; omega
def litB (s : String) : Bool := s.length ≤ 40 && s.toList.all fun c => c.toNat < 128
theorem wd_lit {s : String} (h : litB s = true) : Wd (S s) := by
  simp only [litB, Bool.and_eq_true, decide_eq_true_eq, List.all_eq_true] at h
  refine ⟨by rw [S_len]; exact h.1, fun c hc => ?_⟩
  rw [tl_ofString] at hc
  obtain ⟨d, hd, rfl⟩ := List.mem_map.mp hc
  exact h.2 d hd
@[simp] theorem wd_0 : Wd (Str.ofString "want") := wd_lit (by decide)
@[simp] theorem wd_1 : Wd (Str.ofString "seat") := wd_lit (by decide)
@[simp] theorem wd_2 : Wd (Str.ofString "more") := wd_lit (by decide)
@[simp] theorem wd_3 : Wd (Str.ofString "within") := wd_lit (by decide)
@[simp] theorem wd_4 : Wd (Str.ofString "shares") := wd_lit (by decide)
@[simp] theorem wd_5 : Wd (Str.ofString "wires") := wd_lit (by decide)
@[simp] theorem wd_6 : Wd (Str.ofString "claim") := wd_lit (by decide)
@[simp] theorem wd_7 : Wd (Str.ofString "end") := wd_lit (by decide)
@[simp] theorem wd_8 : Wd (Str.ofString "proof") := wd_lit (by decide)
@[simp] theorem wd_9 : Wd (Str.ofString "rule") := wd_lit (by decide)
@[simp] theorem wd_10 : Wd (Str.ofString "kind") := wd_lit (by decide)
@[simp] theorem wd_11 : Wd (Str.ofString "tie") := wd_lit (by decide)
@[simp] theorem wd_12 : Wd (Str.ofString "use") := wd_lit (by decide)
@[simp] theorem wd_13 : Wd (Str.ofString "show") := wd_lit (by decide)
@[simp] theorem wd_14 : Wd (Str.ofString "let") := wd_lit (by decide)
@[simp] theorem wd_15 : Wd (Str.ofString "book") := wd_lit (by decide)
@[simp] theorem wd_16 : Wd (Str.ofString "module") := wd_lit (by decide)
@[simp] theorem wd_17 : Wd (Str.ofString "search") := wd_lit (by decide)
@[simp] theorem wd_18 : Wd (Str.ofString "rest") := wd_lit (by decide)
@[simp] theorem wd_19 : Wd (Str.ofString "lanes") := wd_lit (by decide)
@[simp] theorem wd_20 : Wd (Str.ofString "at") := wd_lit (by decide)
@[simp] theorem wd_21 : Wd (Str.ofString "to") := wd_lit (by decide)
@[simp] theorem wd_22 : Wd (Str.ofString "by") := wd_lit (by decide)
@[simp] theorem wd_23 : Wd (Str.ofString "from") := wd_lit (by decide)
@[simp] theorem wd_24 : Wd (Str.ofString "with") := wd_lit (by decide)
@[simp] theorem wd_25 : Wd (Str.ofString "socket") := wd_lit (by decide)
@[simp] theorem wd_26 : Wd (Str.ofString "plug") := wd_lit (by decide)
@[simp] theorem wd_27 : Wd (Str.ofString "?") := wd_lit (by decide)
@[simp] theorem wd_28 : Wd (Str.ofString "") := wd_lit (by decide)
def okW : List D → Prop
  | [] => True
  | .str w :: r => Wd w ∧ okW r
  | _ :: _ => False
@[simp] theorem okW_nil : okW [] = True := propext Iff.rfl
@[simp] theorem okW_cons {w : Str} {r : List D} : okW (.str w :: r) = (Wd w ∧ okW r) := propext Iff.rfl
@[simp] theorem okW_map {ws : List Str} : okW (ws.map .str) ↔ ∀ w ∈ ws, Wd w := by
  induction ws with
  | nil => simp
  | cons w ws ih => simp [ih]
@[simp] theorem okW_app {xs ys : List D} : okW (xs ++ ys) ↔ okW xs ∧ okW ys := by
  induction xs with
  | nil => simp
  | cons x xs ih =>
    cases x with
    | str w => simp [ih, and_assoc]
    | _ => simp [okW]
theorem okW_strs : ∀ {xs : List D}, okW xs → ∃ ws : List Str, xs = ws.map .str ∧ ∀ w ∈ ws, Wd w
  | [], _ => ⟨[], rfl, by simp⟩
  | .str w :: r, h => by
    obtain ⟨ws, rfl, h2⟩ := okW_strs h.2
    exact ⟨w :: ws, rfl, by simpa using ⟨h.1, h2⟩⟩
def okF : List D → Prop
  | [] => True
  | .str _ :: r => okF r
  | _ :: _ => False
@[simp] theorem okF_nil : okF [] = True := propext Iff.rfl
@[simp] theorem okF_cons {w : Str} {r : List D} : okF (.str w :: r) = okF r := propext Iff.rfl
theorem okF_strs : ∀ {xs : List D}, okF xs → ∃ ws : List Str, xs = ws.map .str
  | [], _ => ⟨[], rfl⟩
  | .str w :: r, h => by
    obtain ⟨ws, rfl⟩ := okF_strs (xs := r) h
    exact ⟨w :: ws, rfl⟩
def fitsD : List D → List D → Bool
  | [], [] => true
  | .str w :: xs, .str k :: fs => wordFits w k && fitsD xs fs
  | _, _ => false
@[simp] theorem fitsD_nil : fitsD [] [] = true := rfl
@[simp] theorem fitsD_cons {w k : Str} {xs fs : List D} : fitsD (.str w :: xs) (.str k :: fs) = (wordFits w k && fitsD xs fs) := rfl
@[simp] theorem fitsD_nc {x : D} {xs : List D} : fitsD [] (x :: xs) = false := by cases x <;> rfl
@[simp] theorem fitsD_cn {x : D} {xs : List D} : fitsD (x :: xs) [] = false := by cases x <;> rfl
theorem fitsD_map : ∀ {ws ks : List Str}, fitsD (ws.map .str) (ks.map .str) = fitsB ws ks
  | [], [] => rfl
  | [], _ :: _ => rfl
  | _ :: _, [] => rfl
  | w :: ws, k :: ks => by
    rw [List.map_cons, List.map_cons, fitsD_cons, fitsB, fitsD_map]
@[simp] theorem wf_R {w : Str} : wordFits w (Str.ofString "R") = isRef w := by simp [wordFits]
@[simp] theorem wf_N {w : Str} : wordFits w (Str.ofString "N") = isName w := by simp [wordFits]
@[simp] theorem wf_H {w : Str} : wordFits w (Str.ofString "#") = isNum w := by simp [wordFits]
theorem wf_lit {w : Str} {s : String} (h1 : s ≠ "R") (h2 : s ≠ "N") (h3 : s ≠ "#") : wordFits w (Str.ofString s) = decide (w = Str.ofString s) := by simp [wordFits, h1, h2, h3]
@[simp] theorem wf_0 {w : Str} : wordFits w (Str.ofString "want") = decide (w = Str.ofString "want") := wf_lit (by decide) (by decide) (by decide)
@[simp] theorem wf_1 {w : Str} : wordFits w (Str.ofString "seat") = decide (w = Str.ofString "seat") := wf_lit (by decide) (by decide) (by decide)
@[simp] theorem wf_2 {w : Str} : wordFits w (Str.ofString "more") = decide (w = Str.ofString "more") := wf_lit (by decide) (by decide) (by decide)
@[simp] theorem wf_3 {w : Str} : wordFits w (Str.ofString "within") = decide (w = Str.ofString "within") := wf_lit (by decide) (by decide) (by decide)
@[simp] theorem wf_4 {w : Str} : wordFits w (Str.ofString "shares") = decide (w = Str.ofString "shares") := wf_lit (by decide) (by decide) (by decide)
@[simp] theorem wf_5 {w : Str} : wordFits w (Str.ofString "wires") = decide (w = Str.ofString "wires") := wf_lit (by decide) (by decide) (by decide)
@[simp] theorem wf_6 {w : Str} : wordFits w (Str.ofString "claim") = decide (w = Str.ofString "claim") := wf_lit (by decide) (by decide) (by decide)
@[simp] theorem wf_7 {w : Str} : wordFits w (Str.ofString "end") = decide (w = Str.ofString "end") := wf_lit (by decide) (by decide) (by decide)
@[simp] theorem wf_8 {w : Str} : wordFits w (Str.ofString "proof") = decide (w = Str.ofString "proof") := wf_lit (by decide) (by decide) (by decide)
@[simp] theorem wf_9 {w : Str} : wordFits w (Str.ofString "rule") = decide (w = Str.ofString "rule") := wf_lit (by decide) (by decide) (by decide)
@[simp] theorem wf_10 {w : Str} : wordFits w (Str.ofString "kind") = decide (w = Str.ofString "kind") := wf_lit (by decide) (by decide) (by decide)
@[simp] theorem wf_11 {w : Str} : wordFits w (Str.ofString "tie") = decide (w = Str.ofString "tie") := wf_lit (by decide) (by decide) (by decide)
@[simp] theorem wf_12 {w : Str} : wordFits w (Str.ofString "use") = decide (w = Str.ofString "use") := wf_lit (by decide) (by decide) (by decide)
@[simp] theorem wf_13 {w : Str} : wordFits w (Str.ofString "show") = decide (w = Str.ofString "show") := wf_lit (by decide) (by decide) (by decide)
@[simp] theorem wf_14 {w : Str} : wordFits w (Str.ofString "let") = decide (w = Str.ofString "let") := wf_lit (by decide) (by decide) (by decide)
@[simp] theorem wf_15 {w : Str} : wordFits w (Str.ofString "book") = decide (w = Str.ofString "book") := wf_lit (by decide) (by decide) (by decide)
@[simp] theorem wf_16 {w : Str} : wordFits w (Str.ofString "module") = decide (w = Str.ofString "module") := wf_lit (by decide) (by decide) (by decide)
@[simp] theorem wf_17 {w : Str} : wordFits w (Str.ofString "search") = decide (w = Str.ofString "search") := wf_lit (by decide) (by decide) (by decide)
@[simp] theorem wf_18 {w : Str} : wordFits w (Str.ofString "rest") = decide (w = Str.ofString "rest") := wf_lit (by decide) (by decide) (by decide)
@[simp] theorem wf_19 {w : Str} : wordFits w (Str.ofString "lanes") = decide (w = Str.ofString "lanes") := wf_lit (by decide) (by decide) (by decide)
@[simp] theorem wf_20 {w : Str} : wordFits w (Str.ofString "at") = decide (w = Str.ofString "at") := wf_lit (by decide) (by decide) (by decide)
@[simp] theorem wf_21 {w : Str} : wordFits w (Str.ofString "to") = decide (w = Str.ofString "to") := wf_lit (by decide) (by decide) (by decide)
@[simp] theorem wf_22 {w : Str} : wordFits w (Str.ofString "by") = decide (w = Str.ofString "by") := wf_lit (by decide) (by decide) (by decide)
@[simp] theorem wf_23 {w : Str} : wordFits w (Str.ofString "from") = decide (w = Str.ofString "from") := wf_lit (by decide) (by decide) (by decide)
@[simp] theorem wf_24 {w : Str} : wordFits w (Str.ofString "with") = decide (w = Str.ofString "with") := wf_lit (by decide) (by decide) (by decide)
@[simp] theorem wf_25 {w : Str} : wordFits w (Str.ofString "socket") = decide (w = Str.ofString "socket") := wf_lit (by decide) (by decide) (by decide)
@[simp] theorem wf_26 {w : Str} : wordFits w (Str.ofString "plug") = decide (w = Str.ofString "plug") := wf_lit (by decide) (by decide) (by decide)
@[simp] theorem wf_27 {w : Str} : wordFits w (Str.ofString "?") = decide (w = Str.ofString "?") := wf_lit (by decide) (by decide) (by decide)
@[simp] theorem wf_28 {w : Str} : wordFits w (Str.ofString "") = decide (w = Str.ofString "") := wf_lit (by decide) (by decide) (by decide)
def eqSD : List D → List D → Bool
  | [], [] => true
  | .str w :: xs, .str k :: fs => decide (w = k) && eqSD xs fs
  | _, _ => false
@[simp] theorem eqSD_nil : eqSD [] [] = true := rfl
@[simp] theorem eqSD_cons {w k : Str} {xs fs : List D} : eqSD (.str w :: xs) (.str k :: fs) = (decide (w = k) && eqSD xs fs) := rfl
@[simp] theorem eqSD_nc {x : D} {xs : List D} : eqSD [] (x :: xs) = false := by cases x <;> rfl
@[simp] theorem eqSD_cn {x : D} {xs : List D} : eqSD (x :: xs) [] = false := by cases x <;> rfl
theorem eqSD_map : ∀ {ws ks : List Str}, eqSD (ws.map .str) (ks.map .str) = (ws == ks)
  | [], [] => rfl
  | [], _ :: _ => rfl
  | _ :: _, [] => rfl
  | w :: ws, k :: ks => by
    rw [List.map_cons, List.map_cons, eqSD_cons, eqSD_map, List.cons_beq_cons]
    congr 1
theorem cmp_eqW {st : Store} {xs ys : List D} (h1 : okW xs) (h2 : okW ys) : cmpV st .Eq (.lst xs) (.lst ys) = some (eqSD xs ys) := by
  obtain ⟨ws, rfl, a⟩ := okW_strs h1
  obtain ⟨vs, rfl, b⟩ := okW_strs h2
  rw [cmp_eq_Ls (fun w hw => (a w hw).2) (fun w hw => (b w hw).2), eqSD_map]
theorem cmp_neW {st : Store} {xs ys : List D} (h1 : okW xs) (h2 : okW ys) : cmpV st .NotEq (.lst xs) (.lst ys) = some (!eqSD xs ys) := by
  obtain ⟨ws, rfl, a⟩ := okW_strs h1
  obtain ⟨vs, rfl, b⟩ := okW_strs h2
  rw [cmp_ne_Ls (fun w hw => (a w hw).2) (fun w hw => (b w hw).2), eqSD_map]; rfl
section
variable {L : Nat} {kit : TyK → TyK → Option Bool}
theorem sp_fitsD {xs fs : List D} {n : Nat} (hn : 4 ≤ n) {st : Store} (hx : okW xs) (hl : xs.length ≤ sizeLine) (hf : okF fs) : callN tb L con kit n "" "fits" [.lst xs, .tup fs] st = .ok (.bl (fitsD xs fs)) st := by
  obtain ⟨ws, rfl, a⟩ := okW_strs hx
  obtain ⟨ks, rfl⟩ := okF_strs hf
  rw [sp_fits (fun w hw => (a w hw).le) (by simpa using hl) hn, fitsD_map]
end
/-- the text of a number -/
def Nm (n : Nat) : Str := Str.ofString (toString (n : Int))
/-- a number that is let -/
def NumOk (n : Nat) : Prop := n ≤ 10 ^ 30
def RefOk (b : Bool) (r : Str) : Prop := Wd r ∧ (if b = true then isName r else isRef r) = true
def mk (b : Bool) : Str := if b = true then S "N" else S "R"
theorem tl_Nm {n : Nat} : tl (Nm n) = numL n := tl_num n
theorem nm_len {n : Nat} (h : NumOk n) : (Nm n).length ≤ 31 := by
  rw [len_tl, tl_Nm]
  exact numL_len (by decide) (Nat.lt_of_le_of_lt h (by decide))
theorem nm_wd {n : Nat} (h : NumOk n) : Wd (Nm n) := by
  refine ⟨Nat.le_trans (nm_len h) (by decide), fun c hc => ?_⟩
  rw [tl_Nm] at hc
  have := numL_digits n c hc
  omega
theorem numL_head : ∀ {n : Nat}, 0 < n → ∃ c r, numL n = c :: r ∧ c ≠ 48 := by
  intro n
  induction n using Nat.strongRecOn with
  | _ n ih =>
    intro h
    by_cases h1 : n < 10
    · exact ⟨48 + n, [], numL_lt h1, by omega⟩
    · obtain ⟨c, r, e, hc⟩ := ih (n / 10) (by omega) (by omega)
      exact ⟨c, r ++ [48 + n % 10], by rw [numL_step (by omega), e]; rfl, hc⟩
theorem nm_num {n : Nat} : isNum (Nm n) = true := by
  have hd : ∀ c ∈ numL n, c ∈ digS := fun c hc => by
    have := numL_digits n c hc
    unfold digS
    rw [tl_ofString]
    have : c = 48 ∨ c = 49 ∨ c = 50 ∨ c = 51 ∨ c = 52 ∨ c = 53 ∨ c = 54 ∨ c = 55 ∨ c = 56 ∨ c = 57 := by omega
    rcases this with h | h | h | h | h | h | h | h | h | h <;> subst h <;> decide
  unfold isNum
  rw [tl_Nm]
  by_cases h : n = 0
  · subst h
    have e : Nm 0 = S "0" := ext_tl (by rw [tl_Nm, tl_ofString]; decide)
    rw [show numL 0 = [48] from by decide, e]
    decide
  · obtain ⟨c, r, e, hc⟩ := numL_head (show 0 < n by omega)
    rw [e] at hd ⊢
    simp only [hc, decide_false, Bool.false_and, Bool.not_false, Bool.true_and, List.all_eq_true, decide_eq_true_eq]
    exact hd
theorem nm_int {n : Nat} (h : NumOk n) {st : Store} : bltV st "int" [.str (Nm n)] = some (.int n) :=
  int_str (int_num (by rw [← tl_Nm, ← len_tl]; exact Nat.le_trans (nm_len h) (by decide))) (Nat.le_trans (nm_len h) (by decide))
/-- in ports -/
inductive InP (b : Bool) : List Str → D → Prop
  | want : InP b [S "want"] (.tup [.str (S "want")])
  | sock {p : Str} : Wd p → isName p = true → InP b [S "socket", p] (.tup [.str (S "socket"), .str p])
  | from_ {p : Str} : b = false → Wd p → isRef p = true → InP b [S "from", p] (.tup [.str (S "from"), .str p])
inductive OutP (b : Bool) : List Str → D → Prop
  | seat : OutP b [S "seat"] (.tup [.str (S "seat")])
  | plug {p : Str} : Wd p → isName p = true → OutP b [S "plug", p] (.tup [.str (S "plug"), .str p])
  | by_ {p : Str} : b = false → Wd p → isRef p = true → OutP b [S "by", p] (.tup [.str (S "by"), .str p])
section
variable {L : Nat} {kit : TyK → TyK → Option Bool} {b : Bool}
theorem InP.wd {ws : List Str} {v : D} (h : InP b ws v) : ∀ w ∈ ws, Wd w := by cases h <;> simp_all
theorem OutP.wd {ws : List Str} {v : D} (h : OutP b ws v) : ∀ w ∈ ws, Wd w := by cases h <;> simp_all
theorem InP.len {ws : List Str} {v : D} (h : InP b ws v) : ws.length ≤ 2 := by cases h <;> simp
theorem OutP.len {ws : List Str} {v : D} (h : OutP b ws v) : ws.length ≤ 2 := by cases h <;> simp
theorem InP.nr {ws : List Str} {v : D} (h : InP b ws v) : D.nr v = true := by cases h <;> simp [D.nr, D.nrs]
theorem OutP.nr {ws : List Str} {v : D} (h : OutP b ws v) : D.nr v = true := by cases h <;> simp [D.nr, D.nrs]
theorem InP.non {ws : List Str} {v : D} (h : InP b ws v) : ∃ xs, v = .tup xs := by cases h <;> exact ⟨_, rfl⟩
theorem OutP.non {ws : List Str} {v : D} (h : OutP b ws v) : ∃ xs, v = .tup xs := by cases h <;> exact ⟨_, rfl⟩
theorem sp_in_port {ws : List Str} {v : D} (h : InP b ws v) {r : List D} (hr : okW r) (hl : r.length ≤ 1000) {n : Nat} (hn : 5 ≤ n) {st : Store} :
    callN tb L con kit n "" "in_port" [.lst (ws.map .str ++ r), .str (mk b)] st = .ok (.tup [v, .int ws.length]) st := by
  obtain ⟨m, rfl, e⟩ := callN_at (n := n) (L := L) (con := con) (kit := kit) (st := st) t_in_port (ds := [.lst (ws.map .str ++ r), .str (mk b)]) rfl (by omega)
  rw [e]
  clear e
  have hm : 4 ≤ m := by omega
  cases h with
  | want =>
    simp [d_in_port, cmp_eqW]
  | sock h1 h2 =>
    simp [d_in_port, cmp_eqW, h1, h2, sp_fitsD hm]
  | from_ h0 h1 h2 =>
    subst h0
    simp [d_in_port, cmp_eqW, h1, h2, sp_fitsD hm, mk]
theorem sp_out_port {ws : List Str} {v : D} (h : OutP b ws v) {r : List D} (hr : okW r) (hl : r.length ≤ 1000) {n : Nat} (hn : 5 ≤ n) {st : Store} :
    callN tb L con kit n "" "out_port" [.lst (ws.map .str ++ r), .str (mk b)] st = .ok (.tup [v, .int ws.length]) st := by
  obtain ⟨m, rfl, e⟩ := callN_at (n := n) (L := L) (con := con) (kit := kit) (st := st) t_out_port (ds := [.lst (ws.map .str ++ r), .str (mk b)]) rfl (by omega)
  rw [e]
  clear e
  have hm : 4 ≤ m := by omega
  cases h with
  | seat =>
    simp [d_out_port, cmp_eqW]
  | plug h1 h2 =>
    simp [d_out_port, cmp_eqW, h1, h2, sp_fitsD hm]
  | by_ h0 h1 h2 =>
    subst h0
    simp [d_out_port, cmp_eqW, h1, h2, sp_fitsD hm, mk]
/-- the words of a mark fit it -/
theorem ref_fits {r : Str} (h : RefOk b r) : wordFits r (mk b) = true := by
  unfold mk
  obtain ⟨_, h⟩ := h
  cases b with
  | true => simpa using h
  | false => simpa using h
theorem nrs_app (xs ys : List D) : D.nrs (xs ++ ys) = (D.nrs xs && D.nrs ys) := by
  induction xs with
  | nil => simp [D.nrs]
  | cons x xs ih => simp [D.nrs, ih, Bool.and_assoc]
@[simp] theorem nr_str {x : Str} : D.nr (.str x) = true := rfl
@[simp] theorem nr_int {x : Int} : D.nr (.int x) = true := rfl
@[simp] theorem nr_bl {x : Bool} : D.nr (.bl x) = true := rfl
@[simp] theorem nr_non : D.nr .non = true := rfl
@[simp] theorem nr_tup {xs : List D} : D.nr (.tup xs) = D.nrs xs := by simp [D.nr]
@[simp] theorem nr_lst {xs : List D} : D.nr (.lst xs) = D.nrs xs := by simp [D.nr]
@[simp] theorem nrs_nil : D.nrs [] = true := rfl
@[simp] theorem nrs_cons {x : D} {xs : List D} : D.nrs (x :: xs) = (D.nr x && D.nrs xs) := by simp [D.nrs]
@[simp] theorem nrs_strs {ws : List Str} : D.nrs (ws.map .str) = true := nr_strs
theorem sp_at_row {iw ow : List Str} {iv ov : D} {r : Str} {a c d : Nat} (hr : RefOk b r) (hi : InP b iw iv) (ho : OutP b ow ov) (ha : NumOk a) (hc : NumOk c) (hd : NumOk d) {l : Int} {n : Nat} (hn : 6 ≤ n) {st : Store} :
    callN tb L con kit n "" "at_row" [.lst (.str (S "at") :: .str r :: (iw.map .str ++ (.str (Nm a) :: .str (Nm c) :: .str (S "to") :: (ow.map .str ++ [.str (Nm d)])))), .int l, .str (mk b)] st
      = .ok (.tup [.str (S "at"), .int l, .str r, iv, .int a, .int c, ov, .int d]) st := by
  obtain ⟨m, rfl, e⟩ := callN_at (n := n) (L := L) (con := con) (kit := kit) (st := st) t_at_row (ds := [.lst (.str (S "at") :: .str r :: (iw.map .str ++ (.str (Nm a) :: .str (Nm c) :: .str (S "to") :: (ow.map .str ++ [.str (Nm d)])))), .int l, .str (mk b)]) rfl (by omega)
  rw [e]
  clear e
  have hm : 4 ≤ m := by omega
  have hm5 : 5 ≤ m := by omega
  have hrf := ref_fits hr
  have hwr := hr.1
  have hwi := hi.wd
  have hwo := ho.wd
  have hlo := ho.len
  have e1 := sp_in_port (L := L) (kit := kit) hi (r := .str (Nm a) :: .str (Nm c) :: .str (S "to") :: (ow.map .str ++ [.str (Nm d)])) (by simp [nm_wd, ha, hc, hd]; exact hwo) (by simp; omega) hm5 (st := st)
  have e2 := sp_out_port (L := L) (kit := kit) ho (r := [.str (Nm d)]) (by simp [nm_wd, hd]) (by simp) hm5 (st := st)
  have n1 : shut st (.ok (.tup [iv, .int iw.length]) st) = .ok (.tup [iv, .int iw.length]) st := shut_id (by simp [hi.nr])
  have n2 : shut st (.ok (.tup [ov, .int ow.length]) st) = .ok (.tup [ov, .int ow.length]) st := shut_id (by simp [ho.nr])
  have c1 : ∀ xs : List D, cutL (.str (S "at") :: .str r :: (iw.map .str ++ xs)) (some (2 + (iw.length : Int))) none = xs := fun xs => by
    rw [show (2 + (iw.length : Int)) = ((iw.length + 2 : Nat) : Int) by omega, cutL_from]; simp
  have c2 : ∀ xs : List D, ∀ x y z : D, cutL (x :: y :: z :: (ow.map .str ++ xs)) (some (3 + (ow.length : Int))) none = xs := fun xs x y z => by
    rw [show (3 + (ow.length : Int)) = ((ow.length + 3 : Nat) : Int) by omega, cutL_from]; simp
  obtain ⟨is, his⟩ := hi.non
  obtain ⟨os, hos⟩ := ho.non
  subst his
  subst hos
  have gl : ∀ x : D, (x :: (ow.map D.str ++ [.str (Nm d)])).getLast? = some (.str (Nm d)) := fun x => by simp [List.getLast?_cons]
  simp [d_at_row, gl, sp_fitsD hm, hwr, hrf, e1, n1, e2, n2, c1, c2, nm_wd, ha, hc, hd, nm_num, nm_int]
theorem not_kw {r : Str} (h : isName r = true) : r ∉ kwS := by
  unfold isName at h
  split at h
  · cases h
  · simp only [Bool.and_eq_true, Bool.not_eq_true', List.contains_eq_mem, decide_eq_false_iff_not] at h
    exact h.1.1.2
/-- no reference is a keyword -/
theorem ref_kw {r : Str} (h : isRef r = true) (k : Str) (hk : k ∈ kwS) (hd : 46 ∉ tl k) : r ≠ k := fun z => by
  subst z
  unfold isRef at h
  rw [split_one (c := 46) (by rw [tl_ofString]; rfl) (by decide +kernel) hd] at h
  simp at h
  exact not_kw h hk
theorem rb_kw {r : Str} (h : RefOk b r) (k : Str) (hk : k ∈ kwS) (hd : 46 ∉ tl k) : r ≠ k := by
  obtain ⟨_, h⟩ := h
  cases b with
  | true => exact fun z => not_kw (by simpa using h) (z ▸ hk)
  | false => exact ref_kw (by simpa using h) k hk hd
theorem sp_by_row {r : Str} {ks ns : List Str} (hr : isName r = true) (hw : Wd r) (hk : ∀ k ∈ ks, RefOk false k) (hn' : ∀ k ∈ ns, RefOk false k) (k0 : ks ≠ []) (n0 : ns ≠ []) (kl : ks.length ≤ 100) (nl : ns.length ≤ 100) {l : Int} {n : Nat} (hn : 6 ≤ n) {st : Store} :
    callN tb L con kit n "" "by_row" [.lst (.str (S "by") :: .str r :: (ks.map .str ++ (.str (S "with") :: ns.map .str))), .int l] st
      = .ok (.tup [.str (S "by"), .int l, .str r, .tup (ks.map .str), .tup (ns.map .str)]) st := by
  obtain ⟨m, rfl, e⟩ := callN_at (n := n) (L := L) (con := con) (kit := kit) (st := st) t_by_row (ds := [.lst (.str (S "by") :: .str r :: (ks.map .str ++ (.str (S "with") :: ns.map .str))), .int l]) rfl (by omega)
  rw [e]
  clear e
  have hm : 4 ≤ m := by omega
  have hm3 : 3 ≤ m := by omega
  have ew : (.str (S "by") :: .str r :: (ks.map .str ++ (.str (S "with") :: ns.map .str)) : List D) = ((S "by" :: r :: ks) ++ S "with" :: ns).map .str := by simp
  have i1 : inD st (.str (Str.ofString "with")) (.lst (.str (S "by") :: .str r :: (ks.map .str ++ (.str (S "with") :: ns.map .str)))) = some true := by
    rw [ew, in_Ls]; simp
  have i2 := bm_index (st := st) (x := .lst (.str (S "by") :: .str r :: (ks.map .str ++ (.str (S "with") :: ns.map .str)))) ew (by
    intro w hw
    have hk0 : S "with" ∈ kwS := by simp [kwS]
    simp only [List.mem_cons] at hw
    rcases hw with rfl | rfl | hw
    · simp
    · exact fun z => not_kw hr (z ▸ hk0)
    · exact rb_kw (hk w hw) _ hk0 (by rw [tl_ofString]; decide))
  have c1 : cutL (.str (S "by") :: .str r :: (ks.map D.str ++ (.str (S "with") :: ns.map .str))) (some 2) (some ((ks.length : Int) + 1 + 1)) = ks.map .str := by
    rw [show ((ks.length : Int) + 1 + 1) = ((ks.length + 2 : Nat) : Int) by omega, show (2 : Int) = ((2 : Nat) : Int) from rfl, cutL_mid]; simp
  have c2 : cutL (.str (S "by") :: .str r :: (ks.map D.str ++ (.str (S "with") :: ns.map .str))) (some ((ks.length : Int) + 1 + 1 + 1)) none = ns.map .str := by
    rw [show ((ks.length : Int) + 1 + 1 + 1) = ((ks.length + 3 : Nat) : Int) by omega, cutL_from, show ks.length + 3 = ks.length + 1 + 2 by omega, List.drop_succ_cons, List.drop_succ_cons, List.drop_append, List.drop_of_length_le (by simp)]
    simp
  have q1 : cmpV st .Eq (.lst (ks.map .str)) (.lst []) = some false := by
    rw [cmp_eqW (by simpa using fun k h => (hk k h).1) (by simp)]
    cases ks with
    | nil => exact absurd rfl k0
    | cons _ _ => rfl
  have q2 : cmpV st .Eq (.lst (ns.map .str)) (.lst []) = some false := by
    rw [cmp_eqW (by simpa using fun k h => (hn' k h).1) (by simp)]
    cases ns with
    | nil => exact absurd rfl n0
    | cons _ _ => rfl
  have q3 : ks.length + ns.length ≤ sizeLine := by unfold sizeLine; omega
  have q4 := add_lst (xs := ks.map D.str) (ys := ns.map D.str) (by simpa using q3)
  simp at i2
  simp [d_by_row, sp_fitsD hm, hr, hw, i1, i2, c1, c2, q1, q2, q4]
  rw [← List.map_append, lc_free fun k => .bl (wordFits k (Str.ofString "R"))]
  · have q5 : ((ks ++ ns).all fun k => wordFits k (Str.ofString "R")) = true := by
      rw [List.all_eq_true]
      intro k h
      rw [wf_R]
      rcases List.mem_append.mp h with h | h
      · simpa using (hk k h).2
      · simpa using (hn' k h).2
    simp only [R.bnd_ok, q3, List.length_map, List.length_append, if_true, alloc_f, ev_nil, all_map, newR_f, q5, R.of_some, truth_bl]
    have q6 : ks.length ≤ sizeLine := by unfold sizeLine; omega
    simp
  · intro k h
    have hwk : Wd k := by
      rcases List.mem_append.mp h with h | h
      · exact (hk k h).1
      · exact (hn' k h).1
    simp [lcb, sp_word_fits hwk.le hm3]
/-- a row of a proof by lanes -/
inductive PRow (b : Bool) : List Str → (Int → D) → Prop
  | lanesQ {r : Str} : RefOk b r → PRow b [S "lanes", r, S "?"] (fun l => .tup [.str (S "lanes"), .int l, .str r, .non])
  | lanes {r : Str} {a : Nat} : RefOk b r → NumOk a → PRow b [S "lanes", r, Nm a] (fun l => .tup [.str (S "lanes"), .int l, .str r, .int a])
  | at_ {iw ow : List Str} {iv ov : D} {r : Str} {a c d : Nat} : RefOk b r → InP b iw iv → OutP b ow ov → NumOk a → NumOk c → NumOk d →
      PRow b (S "at" :: r :: (iw ++ (Nm a :: Nm c :: S "to" :: (ow ++ [Nm d])))) (fun l => .tup [.str (S "at"), .int l, .str r, iv, .int a, .int c, ov, .int d])
inductive ByRow : List Str → (Int → D) → Prop
  | mk {r : Str} {ks ns : List Str} : isName r = true → Wd r → (∀ k ∈ ks, RefOk false k) → (∀ k ∈ ns, RefOk false k) → ks ≠ [] → ns ≠ [] → ks.length + ns.length ≤ 36 →
      ByRow (S "by" :: r :: (ks ++ (S "with" :: ns))) (fun l => .tup [.str (S "by"), .int l, .str r, .tup (ks.map .str), .tup (ns.map .str)])
abbrev Rw (ws : List Str) : D := .lst (ws.map .str)
abbrev Rs (rows : List (List Str)) : D := .lst (rows.map Rw)
@[simp] theorem shut_nr {st : Store} {d : D} (h : D.nr d = true) : shut st (.ok d st) = .ok d st := shut_id h
@[simp] theorem shut_nr' {st ext : Store} {d : D} (h : D.nr d = true) : shut st (.ok d (st ++ ext)) = .ok d st := shut_id' h
theorem sp_row_search {l : Int} {n : Nat} (hn : 7 ≤ n) {st : Store} : callN tb L con kit n "" "proof_row" [Rw [S "search"], .int l, .str (mk b)] st = .ok (.tup [.str (S "search"), .int l]) st := by
  obtain ⟨m, rfl, e⟩ := callN_at (n := n) (L := L) (con := con) (kit := kit) (st := st) t_proof_row (ds := [Rw [S "search"], .int l, .str (mk b)]) rfl (by omega)
  rw [e]
  clear e
  simp [d_proof_row, cmp_eqW]
theorem sp_row_rest {l : Int} {n : Nat} (hn : 7 ≤ n) {st : Store} : callN tb L con kit n "" "proof_row" [Rw [S "rest"], .int l, .str (mk b)] st = .ok (.tup [.str (S "rest"), .int l]) st := by
  obtain ⟨m, rfl, e⟩ := callN_at (n := n) (L := L) (con := con) (kit := kit) (st := st) t_proof_row (ds := [Rw [S "rest"], .int l, .str (mk b)]) rfl (by omega)
  rw [e]
  clear e
  simp [d_proof_row, cmp_eqW]
theorem nm_q {a : Nat} : (Nm a = Str.ofString "?") = False := eq_false fun z => by
  have := nm_num (n := a)
  rw [z] at this
  exact absurd this (by decide +kernel)
theorem sp_row {ws : List Str} {v : Int → D} (h : PRow b ws v) {l : Int} {n : Nat} (hn : 7 ≤ n) {st : Store} : callN tb L con kit n "" "proof_row" [Rw ws, .int l, .str (mk b)] st = .ok (v l) st := by
  obtain ⟨m, rfl, e⟩ := callN_at (n := n) (L := L) (con := con) (kit := kit) (st := st) t_proof_row (ds := [Rw ws, .int l, .str (mk b)]) rfl (by omega)
  rw [e]
  clear e
  have hm : 4 ≤ m := by omega
  have hm6 : 6 ≤ m := by omega
  cases h with
  | lanesQ hr =>
    have hrf := ref_fits hr
    have hwr := hr.1
    simp [d_proof_row, Rw, cmp_eqW, hwr, sp_fitsD hm, hrf]
  | lanes hr ha =>
    have hrf := ref_fits hr
    have hwr := hr.1
    simp [d_proof_row, Rw, cmp_eqW, hwr, sp_fitsD hm, hrf, nm_wd, ha, nm_q, sp_is_number (nm_wd ha).le' (show 1 ≤ m by omega), nm_num, nm_int]
  | at_ hr hi ho ha hc hd =>
    have hrf := ref_fits hr
    have hwr := hr.1
    have hwi := eq_true hi.wd
    have hwo := eq_true ho.wd
    have e1 := sp_at_row (L := L) (kit := kit) hr hi ho ha hc hd (l := l) hm6 (st := st)
    have nri := hi.nr
    have nro := ho.nr
    simp [d_proof_row, Rw, cmp_eqW, hwr, sp_fitsD hm, hrf, nm_wd, ha, hc, hd, hwi, hwo, e1, nri, nro]
theorem sp_row_by {ws : List Str} {v : Int → D} (h : ByRow ws v) {l : Int} {n : Nat} (hn : 7 ≤ n) {st : Store} : callN tb L con kit n "" "proof_row" [Rw ws, .int l, .str (mk false)] st = .ok (v l) st := by
  obtain ⟨m, rfl, e⟩ := callN_at (n := n) (L := L) (con := con) (kit := kit) (st := st) t_proof_row (ds := [Rw ws, .int l, .str (mk false)]) rfl (by omega)
  rw [e]
  clear e
  have hm : 4 ≤ m := by omega
  have hm6 : 6 ≤ m := by omega
  cases h with
  | @mk r ks ns h1 h2 h3 h4 h5 h6 h7 =>
    have e1 := sp_by_row (L := L) (kit := kit) h1 h2 h3 h4 h5 h6 (by omega) (by omega) (l := l) hm6 (st := st)
    have w1 := eq_true (show ∀ k ∈ ks, Wd k from fun k h => (h3 k h).1)
    have w2 := eq_true (show ∀ k ∈ ns, Wd k from fun k h => (h4 k h).1)
    have w3 : ((ks.length : Int) + (ns.length + 1) + 1 + 1 = 3) = False := eq_false (by
      have : 0 < ks.length := List.length_pos_iff.mpr h5
      have : 0 < ns.length := List.length_pos_iff.mpr h6
      omega)
    simp [d_proof_row, Rw, cmp_eqW, h2, sp_fitsD hm, w1, w2, e1, Fg.mk]
end
end Fg

set_option maxHeartbeats 4000000
/-! Pr2: blocks read. -/
namespace Fg
open PySem PySem.Spec PyProof.Rows L2 TL
section
variable {c : Slots → Store → R Bool} {f : Slots → Store → RS} {k : Nat} {sl sl' : Slots} {st st' : Store}
theorem whl_go (hc : c sl st = .ok true st) (hf : f sl st = .nx sl' st') : whlL c f (k + 1) sl st = whlL c f k sl' st' := by
  show RS.of _ _ _ = _
  rw [hc, RS.of_ok, if_pos rfl, hf, RS.turn_nx]
theorem whl_end (hc : c sl st = .ok false st) : whlL c f (k + 1) sl st = .nx sl st := by
  show RS.of _ _ _ = _
  rw [hc, RS.of_ok, if_neg (by simp)]
theorem whl_rt {d : D} (hc : c sl st = .ok true st) (hf : f sl st = .rt d st') : whlL c f (k + 1) sl st = .rt d st' := by
  show RS.of _ _ _ = _
  rw [hc, RS.of_ok, if_pos rfl, hf, RS.turn_rt]
end
section
variable {rows : List (List Str)} {a : Nat} {w : List Str} {r : List (List Str)}
theorem drop_at (h : rows.drop a = w :: r) : rows[a]? = some w := by
  have := List.getElem?_drop (xs := rows) (i := a) (j := 0)
  rw [h] at this
  simpa using this.symm
theorem drop_lt (h : rows.drop a = w :: r) : (a : Int) < rows.length := by
  have := (List.getElem?_eq_some_iff.mp (drop_at h)).1
  omega
theorem drop_next (h : rows.drop a = w :: r) : rows.drop (a + 1) = r := by
  rw [← List.drop_drop, h]; rfl
theorem drop_next' {p : List (List Str)} (h : rows.drop a = p ++ r) : rows.drop (a + p.length) = r := by
  rw [← List.drop_drop, h]; simp
end
inductive PRows (b : Bool) : List (List Str) → (Int → List D) → Prop
  | nil : PRows b [] (fun _ => [])
  | cons {w : List Str} {v : Int → D} {ws : List (List Str)} {vs : Int → List D} : PRow b w v → PRows b ws vs → PRows b (w :: ws) (fun l => v l :: vs (l + 1))
section
variable {L : Nat} {kit : TyK → TyK → Option Bool} {b : Bool}
theorem PRow.head {w : List Str} {v : Int → D} (h : PRow b w v) (l : Int) : ∃ k r, v l = .tup (.str k :: r) ∧ (k = S "lanes" ∨ k = S "at") := by
  cases h <;> exact ⟨_, _, rfl, by simp⟩
theorem PRow.nr {w : List Str} {v : Int → D} (h : PRow b w v) (l : Int) : D.nr (v l) = true := by
  cases h with
  | lanesQ => simp
  | lanes => simp
  | at_ _ hi ho => simp [hi.nr, ho.nr]
theorem PRow.wd {w : List Str} {v : Int → D} (h : PRow b w v) : ∀ x ∈ w, Wd x := by
  cases h with
  | lanesQ h => simp [h.1]
  | lanes h h2 => simp [h.1, nm_wd h2]
  | at_ h hi ho h1 h2 h3 =>
    have a1 := hi.wd
    have a2 := ho.wd
    intro x hx
    simp only [List.mem_cons, List.mem_append, List.not_mem_nil, or_false] at hx
    rcases hx with rfl | rfl | hx | rfl | rfl | rfl | hx | rfl
    · simp
    · exact h.1
    · exact a1 _ hx
    · exact nm_wd h1
    · exact nm_wd h2
    · simp
    · exact a2 _ hx
    · exact nm_wd h3
/-- a row of a proof, its first word: never end -/
theorem PRow.ne {w : List Str} {v : Int → D} (h : PRow b w v) : ∃ k r, w = k :: r ∧ k ≠ S "end" := by
  cases h <;> exact ⟨_, _, rfl, by simp⟩
theorem loop_proof {rows : List (List Str)} {e : String} (he : Wd (S e)) {m : Nat} (hm : 7 ≤ m) {rest : List (List Str)} : ∀ {ws : List (List Str)} {vs : Int → List D}, PRows b ws vs → ∀ {a : Nat} {fs : List D} {x : Option D} {k : Nat} {st : Store}, rows.drop a = ws ++ rest → fs.length + ws.length ≤ 1000 →
    ∃ x', whlL (whC (cfN tb L con kit m) wc_proof_body_0) (evSs (cfN tb L con kit m) wb_proof_body_0) (k + ws.length) [some (Rs rows), some (.int a), some (.str (S e)), some (.str (mk b)), some (.ref st.length), some (.bl false), x] (st ++ [.lst fs])
      = whlL (whC (cfN tb L con kit m) wc_proof_body_0) (evSs (cfN tb L con kit m) wb_proof_body_0) k [some (Rs rows), some (.int (a + ws.length : Nat)), some (.str (S e)), some (.str (mk b)), some (.ref st.length), some (.bl false), x'] (st ++ [.lst (fs ++ vs (a + 1))])
  | _, _, .nil, a, fs, x, k, st, hr, hl => ⟨x, by simp⟩
  | _, _, .cons (w := w) (v := v) (ws := ws) (vs := vs) h hs, a, fs, x, k, st, hr, hl => by
    have g := drop_at hr
    have lt := drop_lt hr
    obtain ⟨kw, rw_, ew, ne⟩ := h.ne
    have hwd := eq_true h.wd
    obtain ⟨k2, r2, ev, hk2⟩ := h.head (a + 1)
    have nrv := h.nr (a + 1)
    have e1 := sp_row (L := L) (kit := kit) h (l := (a : Int) + 1) hm (st := st ++ [.lst fs])
    have hl2 : fs.length < sizeLine := by simp at hl; unfold sizeLine; omega
    have step : evSs (cfN tb L con kit m) wb_proof_body_0 [some (Rs rows), some (.int a), some (.str (S e)), some (.str (mk b)), some (.ref st.length), some (.bl false), x] (st ++ [.lst fs])
        = .nx [some (Rs rows), some (.int (a + 1)), some (.str (S e)), some (.str (mk b)), some (.ref st.length), some (.bl false), some (v (a + 1))] (st ++ [.lst (fs ++ [v (a + 1)])]) := by
      subst ew
      have q : cmpV (st ++ [.lst fs]) .Eq (Rw (kw :: rw_)) (.lst [.str (Str.ofString "end"), .str (S e)]) = some false := by
        rw [cmp_eqW (by simpa using h.wd) (by simp [he])]
        simp [ne]
      have ap := bm_append (st := st ++ [.lst fs]) (n := st.length) (xs := fs) (y := v (a + 1)) (c := false) (by simp) hl2
      rw [ev] at ap e1 nrv ⊢
      rcases hk2 with rfl | rfl
      · simp [wb_proof_body_0, g, q, e1, nrv, ap]
      · simp [wb_proof_body_0, g, q, e1, nrv, ap]
    have cnd : whC (cfN tb L con kit m) wc_proof_body_0 [some (Rs rows), some (.int a), some (.str (S e)), some (.str (mk b)), some (.ref st.length), some (.bl false), x] (st ++ [.lst fs]) = .ok true (st ++ [.lst fs]) := by
      simp [whC, wc_proof_body_0, lt]
    have ih := loop_proof he hm hs (rows := rows) (rest := rest) (a := a + 1) (fs := fs ++ [v (a + 1)]) (x := some (v (a + 1))) (k := k) (st := st) (by rw [drop_next hr]; rfl) (by simp at hl ⊢; omega)
    obtain ⟨x', ih⟩ := ih
    refine ⟨x', ?_⟩
    rw [List.length_cons, ← Nat.add_assoc, whl_go cnd step]
    have c1 : ((a + 1 : Nat) : Int) = (a : Int) + 1 := by omega
    rw [c1] at ih
    rw [ih]
    rw [show a + 1 + ws.length = a + (ws.length + 1) by omega]
    simp
/-- the bodies of proofs -/
inductive Body (b : Bool) : List (List Str) → (Int → List D) → Prop
  | search : Body b [[S "search"]] (fun l => [.tup [.str (S "search"), .int l]])
  | by_ {w : List Str} {v : Int → D} : b = false → ByRow w v → Body b [w] (fun l => [v l])
  | rows {ws : List (List Str)} {vs : Int → List D} : PRows b ws vs → ws.length ≤ 500 → Body b ws vs
  | rest {ws : List (List Str)} {vs : Int → List D} : PRows b ws vs → ws.length ≤ 500 → Body b (ws ++ [[S "rest"]]) (fun l => vs l ++ [.tup [.str (S "rest"), .int (l + ws.length)]])
theorem ByRow.wd {w : List Str} {v : Int → D} (h : ByRow w v) : ∀ x ∈ w, Wd x := by
  cases h with
  | mk h1 h2 h3 h4 =>
    intro x hx
    simp only [List.mem_cons, List.mem_append] at hx
    rcases hx with rfl | rfl | hx | rfl | hx
    · simp
    · exact h2
    · exact (h3 _ hx).1
    · simp
    · exact (h4 _ hx).1
theorem PRows.nr {ws : List (List Str)} {vs : Int → List D} (h : PRows b ws vs) : ∀ l, D.nrs (vs l) = true := by
  induction h with
  | nil => simp
  | cons h _ ih => intro l; simp [h.nr, ih]
theorem PRows.len {ws : List (List Str)} {vs : Int → List D} (h : PRows b ws vs) : ∀ l, (vs l).length = ws.length := by
  induction h with
  | nil => simp
  | cons h _ ih => intro l; simp [ih]
theorem Body.nr {ws : List (List Str)} {vs : Int → List D} (h : Body b ws vs) (l : Int) : D.nrs (vs l) = true := by
  cases h with
  | search => simp
  | by_ _ h => cases h; simp
  | rows h => exact h.nr l
  | rest h => simp [nrs_app, h.nr]
theorem row_ne {st : Store} {k : Str} {r : List Str} {e : String} (he : Wd (S e)) (h : ∀ x ∈ k :: r, Wd x) (ne : k ≠ S "end") : cmpV st .Eq (Rw (k :: r)) (.lst [.str (Str.ofString "end"), .str (S e)]) = some false := by
  rw [cmp_eqW (by simpa using h) (by simp [he])]
  simp [ne]
theorem sp_proof_body {rows : List (List Str)} {ws rest : List (List Str)} {vs : Int → List D} (h : Body b ws vs) {e : String} (he : Wd (S e)) {a : Nat} (hr : rows.drop a = ws ++ [S "end", S e] :: rest) (hL : 1000 ≤ L) {n : Nat} (hn : 8 ≤ n) {st : Store} :
    callN tb L con kit n "" "proof_body" [Rs rows, .int a, .str (S e), .str (mk b)] st = .ok (.tup [.tup (vs (a + 1)), .int ((a + ws.length : Nat) + 1)]) (st ++ [.lst (vs (a + 1))]) := by
  obtain ⟨m, rfl, e0⟩ := callN_at (n := n) (L := L) (con := con) (kit := kit) (st := st) t_proof_body (ds := [Rs rows, .int a, .str (S e), .str (mk b)]) rfl (by omega)
  rw [e0]
  clear e0
  have hm : 7 ≤ m := by omega
  -- the last turn
  have fin : ∀ (a : Nat) (fs : List D) (cl : Bool) (x : Option D) (k : Nat), rows.drop a = [S "end", S e] :: rest → whlL (whC (cfN tb L con kit m) wc_proof_body_0) (evSs (cfN tb L con kit m) wb_proof_body_0) (k + 1) [some (Rs rows), some (.int a), some (.str (S e)), some (.str (mk b)), some (.ref st.length), some (.bl cl), x] (st ++ [.lst fs])
      = .rt (.tup [.tup fs, .int (a + 1)]) (st ++ [.lst fs]) := fun a fs cl x k hr => by
    have g := drop_at hr
    have lt := drop_lt hr
    refine whl_rt (by simp [whC, wc_proof_body_0, lt]) ?_
    have q : cmpV (st ++ [.lst fs]) .Eq (Rw [S "end", S e]) (.lst [.str (Str.ofString "end"), .str (S e)]) = some true := by
      rw [cmp_eqW (by simp [he]) (by simp [he])]; simp
    have t := tuple_ref (st := st ++ [.lst fs]) (n := st.length) (xs := fs) (by simp)
    simp [wb_proof_body_0, g, q, t]
  -- a turn that closes
  have one : ∀ (a : Nat) (fs : List D) (x : Option D) (k : Nat) (kw : Str) (w : List Str) (v : D) (k2 : Str) (r2 : List D) (rest : List (List Str)), rows.drop a = (kw :: w) :: rest → (∀ z ∈ kw :: w, Wd z) → kw ≠ S "end" → v = .tup (.str k2 :: r2) → D.nr v = true →
      (((k2 = S "search" ∨ k2 = S "by") ∧ fs = []) ∨ k2 = S "rest") → fs.length ≤ 1000 → (∀ st, callN tb L con kit m "" "proof_row" [Rw (kw :: w), .int (a + 1), .str (mk b)] st = .ok v st) →
      whlL (whC (cfN tb L con kit m) wc_proof_body_0) (evSs (cfN tb L con kit m) wb_proof_body_0) (k + 1) [some (Rs rows), some (.int a), some (.str (S e)), some (.str (mk b)), some (.ref st.length), some (.bl false), x] (st ++ [.lst fs])
      = whlL (whC (cfN tb L con kit m) wc_proof_body_0) (evSs (cfN tb L con kit m) wb_proof_body_0) k [some (Rs rows), some (.int (a + 1 : Nat)), some (.str (S e)), some (.str (mk b)), some (.ref st.length), some (.bl true), some v] (st ++ [.lst (fs ++ [v])]) := by
    intro a fs x k kw w v k2 r2 rest hr hw ne ev nrv hk hl e1
    have g := drop_at hr
    have lt := drop_lt hr
    refine whl_go (by simp [whC, wc_proof_body_0, lt]) ?_
    have q := row_ne (st := st ++ [.lst fs]) he hw ne
    have ap := bm_append (st := st ++ [.lst fs]) (n := st.length) (xs := fs) (y := v) (c := false) (by simp) (by unfold sizeLine; omega)
    have e2 := e1 (st ++ [.lst fs])
    subst ev
    rcases hk with ⟨hk, rfl⟩ | rfl
    · have l0 := len_ref (st := st ++ [.lst []]) (n := st.length) (xs := []) (by simp)
      rcases hk with rfl | rfl
      · simp [wb_proof_body_0, g, q, e2, nrv, ap, l0]
      · simp [wb_proof_body_0, g, q, e2, nrv, ap, l0]
    · simp [wb_proof_body_0, g, q, e2, nrv, ap]
  cases h with
  | search =>
    obtain ⟨k, rfl⟩ : ∃ k, L = k + 2 := ⟨L - 2, by omega⟩
    have h1 := one a [] none (k + 1) (S "search") [] (.tup [.str (S "search"), .int (a + 1)]) (S "search") [.int (a + 1)] _ hr (by simp) (by simp) rfl (by simp) (.inl ⟨.inl rfl, rfl⟩) (by simp) (fun st => sp_row_search hm)
    have h2 := fin (a + 1) [.tup [.str (S "search"), .int (a + 1)]] true (some (.tup [.str (S "search"), .int (a + 1)])) k (by rw [drop_next hr]; rfl)
    simp [d_proof_body]
    simp at h1 h2
    rw [h1, h2]
    simp
  | @by_ w v hb h =>
    subst hb
    obtain ⟨k, rfl⟩ : ∃ k, L = k + 2 := ⟨L - 2, by omega⟩
    obtain ⟨w2, r2, ew, ev⟩ : ∃ w2 r2, w = S "by" :: w2 ∧ v (a + 1) = .tup (.str (S "by") :: r2) := by cases h; exact ⟨_, _, rfl, rfl⟩
    have nrv : D.nr (v (a + 1)) = true := by cases h; simp
    have hw := h.wd
    have h1 := one a [] none (k + 1) (S "by") w2 (v (a + 1)) (S "by") r2 _ (by rw [hr, ew]; rfl) (by rw [← ew]; exact hw) (by simp) ev nrv (.inl ⟨.inr rfl, rfl⟩) (by simp) (fun st => by rw [← ew]; exact sp_row_by h hm)
    have h2 := fin (a + 1) [v (a + 1)] true (some (v (a + 1))) k (by rw [drop_next hr]; rfl)
    simp [d_proof_body]
    simp at h1 h2
    rw [h1, h2]
    simp
  | rows h hl =>
    obtain ⟨k, rfl⟩ : ∃ k, L = (k + 1) + ws.length := ⟨L - 1 - ws.length, by omega⟩
    obtain ⟨x', h1⟩ := loop_proof (L := k + 1 + ws.length) (kit := kit) he hm h (a := a) (fs := []) (x := none) (k := k + 1) (st := st) hr (by simp; omega)
    have h2 := fin (a + ws.length) (vs (a + 1)) false x' k (drop_next' hr)
    simp [d_proof_body]
    simp at h1 h2
    rw [h1, h2]
    simp
  | @rest ws vs h hl =>
    obtain ⟨k, rfl⟩ : ∃ k, L = (k + 2) + ws.length := ⟨L - 2 - ws.length, by omega⟩
    rw [List.append_assoc] at hr
    obtain ⟨x', h1⟩ := loop_proof (L := k + 2 + ws.length) (kit := kit) he hm h (a := a) (fs := []) (x := none) (k := k + 2) (st := st) hr (by simp; omega)
    have hr2 := drop_next' hr
    have h2 := one (a + ws.length) (vs (a + 1)) x' (k + 1) (S "rest") [] (.tup [.str (S "rest"), .int ((a + ws.length : Nat) + 1)]) (S "rest") _ _ hr2 (by simp) (by simp) rfl (by simp) (.inr rfl) (by rw [h.len]; omega) (fun st => sp_row_rest hm)
    have h3 := fin (a + ws.length + 1) (vs (a + 1) ++ [.tup [.str (S "rest"), .int ((a + ws.length : Nat) + 1)]]) true (some (.tup [.str (S "rest"), .int ((a + ws.length : Nat) + 1)])) k (by rw [drop_next hr2]; rfl)
    have c1 : ((a : Int) + ws.length + 1) = a + 1 + ws.length := by omega
    have c2 : ((a : Int) + ws.length + 1 + 1) = a + (ws.length + 1) + 1 := by omega
    simp [d_proof_body]
    simp at h1 h2 h3
    rw [h1, h2, h3]
    simp [c1, c2]
    omega
end
end Fg

set_option maxHeartbeats 4000000
/-! Pr3: items read. -/
namespace Fg
open PySem PySem.Spec PyProof.Rows L2 TL
inductive CntRow (b : Bool) : List Str → (Int → D) → Prop
  | want {r : Str} {a : Nat} : RefOk b r → NumOk a → CntRow b [S "want", r, Nm a] (fun l => .tup [.str (S "want"), .int l, .str r, .int a])
  | seat {r : Str} {a : Nat} : RefOk b r → NumOk a → CntRow b [S "seat", r, Nm a] (fun l => .tup [.str (S "seat"), .int l, .str r, .int a])
inductive ClmRow : List Str → (Int → D) → Prop
  | cnt {w : List Str} {v : Int → D} : CntRow false w v → ClmRow w v
  | mwant {r : Str} {a : Nat} : RefOk false r → NumOk a → ClmRow [S "more", S "want", r, Nm a] (fun l => .tup [.str (S "more want"), .int l, .str r, .int a])
  | mseat {r : Str} {a : Nat} : RefOk false r → NumOk a → ClmRow [S "more", S "seat", r, Nm a] (fun l => .tup [.str (S "more seat"), .int l, .str r, .int a])
  | within {a : Nat} : NumOk a → ClmRow [S "within", Nm a] (fun l => .tup [.str (S "within"), .int l, .int a])
  | shares {a : Nat} : NumOk a → ClmRow [S "shares", Nm a] (fun l => .tup [.str (S "shares"), .int l, .int a])
  | wires {r : Str} {a : Nat} : RefOk false r → NumOk a → ClmRow [S "wires", r, Nm a] (fun l => .tup [.str (S "wires"), .int l, .str r, .int a])
/-- rows, each by its own law -/
inductive Rows (P : List Str → (Int → D) → Prop) : List (List Str) → (Int → List D) → Prop
  | nil : Rows P [] (fun _ => [])
  | cons {w : List Str} {v : Int → D} {ws : List (List Str)} {vs : Int → List D} : P w v → Rows P ws vs → Rows P (w :: ws) (fun l => v l :: vs (l + 1))
section
variable {L : Nat} {kit : TyK → TyK → Option Bool} {b : Bool}
theorem CntRow.wd {w : List Str} {v : Int → D} (h : CntRow b w v) : ∀ x ∈ w, Wd x := by
  cases h with
  | want h1 h2 => simp [h1.1, nm_wd h2]
  | seat h1 h2 => simp [h1.1, nm_wd h2]
theorem CntRow.nr {w : List Str} {v : Int → D} (h : CntRow b w v) (l : Int) : D.nr (v l) = true := by
  cases h <;> simp
theorem ClmRow.wd {w : List Str} {v : Int → D} (h : ClmRow w v) : ∀ x ∈ w, Wd x := by
  have w1 : Wd (Str.ofString "more") := wd_lit (by decide)
  cases h with
  | cnt h => exact h.wd
  | mwant h1 h2 => simp [h1.1, nm_wd h2]
  | mseat h1 h2 => simp [h1.1, nm_wd h2]
  | within h2 => simp [nm_wd h2]
  | shares h2 => simp [nm_wd h2]
  | wires h1 h2 => simp [h1.1, nm_wd h2]
theorem ClmRow.nr {w : List Str} {v : Int → D} (h : ClmRow w v) (l : Int) : D.nr (v l) = true := by
  cases h with
  | cnt h => exact h.nr l
  | _ => simp
theorem ClmRow.ne {w : List Str} {v : Int → D} (h : ClmRow w v) : ∃ k r, w = k :: r ∧ k ≠ S "end" := by
  cases h with
  | cnt h => cases h <;> exact ⟨_, _, rfl, by simp⟩
  | _ => exact ⟨_, _, rfl, by simp⟩
theorem sp_count {w : List Str} {v : Int → D} (h : CntRow b w v) {l : Int} {n : Nat} (hn : 5 ≤ n) {st : Store} : callN tb L con kit n "" "count_row" [Rw w, .int l, .str (mk b)] st = .ok (v l) st := by
  obtain ⟨m, rfl, e⟩ := callN_at (n := n) (L := L) (con := con) (kit := kit) (st := st) t_count_row (ds := [Rw w, .int l, .str (mk b)]) rfl (by omega)
  rw [e]
  clear e
  have hm : 4 ≤ m := by omega
  cases h with
  | want h1 h2 => simp [d_count_row, sp_fitsD hm, h1.1, ref_fits h1, nm_wd, h2, nm_num, nm_int]
  | seat h1 h2 => simp [d_count_row, sp_fitsD hm, h1.1, ref_fits h1, nm_wd, h2, nm_num, nm_int]
theorem sp_count_no {k : String} {r : List Str} (hw : ∀ x ∈ r, Wd x) (hk : Wd (S k)) (h1 : k ≠ "want") (h2 : k ≠ "seat") (hl : r.length ≤ 100) {l : Int} {n : Nat} (hn : 5 ≤ n) {st : Store} : callN tb L con kit n "" "count_row" [Rw (S k :: r), .int l, .str (mk b)] st = .ok .non st := by
  obtain ⟨m, rfl, e⟩ := callN_at (n := n) (L := L) (con := con) (kit := kit) (st := st) t_count_row (ds := [Rw (S k :: r), .int l, .str (mk b)]) rfl (by omega)
  rw [e]
  clear e
  have hm : 4 ≤ m := by omega
  have hw' := eq_true hw
  have hl' : r.length + 1 ≤ sizeLine := by unfold sizeLine; omega
  simp [d_count_row, Rw, sp_fitsD hm, hk, hw', hl', h1, h2]
theorem sp_claim_row {w : List Str} {v : Int → D} (h : ClmRow w v) {l : Int} {n : Nat} (hn : 6 ≤ n) {st : Store} : callN tb L con kit n "" "claim_row" [Rw w, .int l] st = .ok (v l) st := by
  obtain ⟨m, rfl, e⟩ := callN_at (n := n) (L := L) (con := con) (kit := kit) (st := st) t_claim_row (ds := [Rw w, .int l]) rfl (by omega)
  rw [e]
  clear e
  have hm : 4 ≤ m := by omega
  have hm5 : 5 ≤ m := by omega
  have w1 : Wd (Str.ofString "more") := wd_lit (by decide)
  have j1 : binV .Add (.str (Str.ofString "more ")) (.str (Str.ofString "want")) = some (.str (Str.ofString "more want")) := by
    rw [add_str (by rw [S_len, S_len]; decide)]; congr 2
  have j2 : binV .Add (.str (Str.ofString "more ")) (.str (Str.ofString "seat")) = some (.str (Str.ofString "more seat")) := by
    rw [add_str (by rw [S_len, S_len]; decide)]; congr 2
  have mk0 : mk false = Str.ofString "R" := rfl
  cases h with
  | cnt h =>
    have e1 := sp_count (L := L) (kit := kit) h (l := l) hm5 (st := st)
    rw [mk0] at e1
    cases h with
    | want h1 h2 =>
      have h3 := ref_fits h1
      rw [mk0, wf_R] at h3
      try simp at e1
      simp [d_claim_row, e1, sp_fitsD hm, h1.1, h3, nm_wd, h2, nm_num, nm_int]
    | seat h1 h2 =>
      have h3 := ref_fits h1
      rw [mk0, wf_R] at h3
      try simp at e1
      simp [d_claim_row, e1, sp_fitsD hm, h1.1, h3, nm_wd, h2, nm_num, nm_int]
  | @mwant r a h1 h2 =>
    have e1 := sp_count_no (L := L) (kit := kit) (b := false) (k := "more") (r := [S "want", r, Nm a]) (by simp [h1.1, nm_wd h2]) w1 (by decide) (by decide) (by simp) (l := l) hm5 (st := st)
    rw [mk0] at e1
    have h3 := ref_fits h1
    rw [mk0, wf_R] at h3
    try simp at e1
    simp [d_claim_row, e1, sp_fitsD hm, h1.1, h3, nm_wd, h2, nm_num, nm_int, j1]
  | @mseat r a h1 h2 =>
    have e1 := sp_count_no (L := L) (kit := kit) (b := false) (k := "more") (r := [S "seat", r, Nm a]) (by simp [h1.1, nm_wd h2]) w1 (by decide) (by decide) (by simp) (l := l) hm5 (st := st)
    rw [mk0] at e1
    have h3 := ref_fits h1
    rw [mk0, wf_R] at h3
    try simp at e1
    simp [d_claim_row, e1, sp_fitsD hm, h1.1, h3, nm_wd, h2, nm_num, nm_int, j2]
  | @within a h2 =>
    have e1 := sp_count_no (L := L) (kit := kit) (b := false) (k := "within") (r := [Nm a]) (by simp [nm_wd h2]) (by simp) (by decide) (by decide) (by simp) (l := l) hm5 (st := st)
    rw [mk0] at e1
    try simp at e1
    simp [d_claim_row, e1, sp_fitsD hm, nm_wd, h2, nm_num, nm_int]
  | @shares a h2 =>
    have e1 := sp_count_no (L := L) (kit := kit) (b := false) (k := "shares") (r := [Nm a]) (by simp [nm_wd h2]) (by simp) (by decide) (by decide) (by simp) (l := l) hm5 (st := st)
    rw [mk0] at e1
    try simp at e1
    simp [d_claim_row, e1, sp_fitsD hm, nm_wd, h2, nm_num, nm_int]
  | @wires r a h1 h2 =>
    have e1 := sp_count_no (L := L) (kit := kit) (b := false) (k := "wires") (r := [r, Nm a]) (by simp [h1.1, nm_wd h2]) (by simp) (by decide) (by decide) (by simp) (l := l) hm5 (st := st)
    rw [mk0] at e1
    have h3 := ref_fits h1
    rw [mk0, wf_R] at h3
    try simp at e1
    simp [d_claim_row, e1, sp_fitsD hm, h1.1, h3, nm_wd, h2, nm_num, nm_int]
end
end Fg

set_option maxHeartbeats 4000000
/-! Pr4: items read: blocks. -/
namespace Fg
open PySem PySem.Spec PyProof.Rows L2 TL
section
variable {P : List Str → (Int → D) → Prop}
theorem Rows.len {ws : List (List Str)} {vs : Int → List D} (h : Rows P ws vs) : ∀ l, (vs l).length = ws.length := by
  induction h with
  | nil => simp
  | cons h _ ih => intro l; simp [ih]
theorem Rows.nr {ws : List (List Str)} {vs : Int → List D} (h : Rows P ws vs) (hP : ∀ w v, P w v → ∀ l, D.nr (v l) = true) : ∀ l, D.nrs (vs l) = true := by
  induction h with
  | nil => simp
  | cons h _ ih => intro l; simp [hP _ _ h, ih]
end
/-- a name as a word -/
def NmOk (x : Str) : Prop := Wd x ∧ isName x = true
inductive PortRow (b : Bool) : List Str → (Int → D) → Prop
  | plug {p r : Str} : NmOk p → RefOk b r → PortRow b [S "plug", p, r] (fun l => .tup [.str (S "plug"), .int l, .str p, .str r])
  | sock {p r : Str} : NmOk p → RefOk b r → PortRow b [S "socket", p, r] (fun l => .tup [.str (S "socket"), .int l, .str p, .str r])
section
variable {L : Nat} {kit : TyK → TyK → Option Bool} {b : Bool}
theorem PortRow.nr {w : List Str} {v : Int → D} (h : PortRow b w v) (l : Int) : D.nr (v l) = true := by cases h <;> simp
theorem PortRow.wd {w : List Str} {v : Int → D} (h : PortRow b w v) : ∀ x ∈ w, Wd x := by
  cases h with
  | plug h1 h2 => simp [h1.1, h2.1]
  | sock h1 h2 => simp [h1.1, h2.1]
theorem loop_claim {rows : List (List Str)} {m : Nat} (hm : 6 ≤ m) {rest : List (List Str)} {hd ln : Option D} {ws : List (List Str)} {vs : Int → List D} (h : Rows ClmRow ws vs) : ∀ {a : Nat} {fs : List D} {k : Nat} {st : Store}, rows.drop a = ws ++ rest → fs.length + ws.length ≤ 1000 →
    whlL (whC (cfN tb L con kit m) wc_claim_block_0) (evSs (cfN tb L con kit m) wb_claim_block_0) (k + ws.length) [some (Rs rows), some (.int a), hd, ln, some (.ref st.length)] (st ++ [.lst fs])
      = whlL (whC (cfN tb L con kit m) wc_claim_block_0) (evSs (cfN tb L con kit m) wb_claim_block_0) k [some (Rs rows), some (.int (a + ws.length : Nat)), hd, ln, some (.ref st.length)] (st ++ [.lst (fs ++ vs (a + 1))]) := by
  induction h with
  | nil => intro a fs k st hr hl; simp
  | @cons w v ws vs h hs ih =>
    intro a fs k st hr hl
    have g := drop_at hr
    have lt := drop_lt hr
    obtain ⟨kw, rw_, ew, ne⟩ := h.ne
    have nrv := h.nr (a + 1)
    have e1 := sp_claim_row (L := L) (kit := kit) h (l := (a : Int) + 1) hm (st := st ++ [.lst fs])
    have hl2 : fs.length < sizeLine := by simp at hl; unfold sizeLine; omega
    have q : cmpV (st ++ [.lst fs]) .NotEq (Rw w) (.lst [.str (Str.ofString "end"), .str (Str.ofString "claim")]) = some true := by
      rw [cmp_neW (by simpa using h.wd) (by simp), ew]
      simp [ne]
    have ap := bm_append (st := st ++ [.lst fs]) (n := st.length) (xs := fs) (y := v (a + 1)) (c := false) (by simp) hl2
    have ih' := ih (a := a + 1) (fs := fs ++ [v (a + 1)]) (k := k) (st := st) (by rw [drop_next hr]; rfl) (by simp at hl ⊢; omega)
    rw [List.length_cons, ← Nat.add_assoc, whl_go (st' := st ++ [.lst (fs ++ [v (a + 1)])]) (sl' := [some (Rs rows), some (.int (a + 1)), hd, ln, some (.ref st.length)]) (by simp [whC, wc_claim_block_0, lt, g, q]) (by simp [wb_claim_block_0, g, e1, nrv, ap])]
    have c1 : ((a + 1 : Nat) : Int) = (a : Int) + 1 := by omega
    rw [c1] at ih'
    rw [ih']
    rw [show a + 1 + ws.length = a + (ws.length + 1) by omega]
    simp
theorem sp_claim {rows : List (List Str)} {nm : Str} (hn0 : NmOk nm) {ws rest : List (List Str)} {vs : Int → List D} (h : Rows ClmRow ws vs) (hl : ws.length ≤ 500) {a : Nat} (hr : rows.drop a = [S "claim", nm] :: (ws ++ [S "end", S "claim"] :: rest)) (hL : 1000 ≤ L) {n : Nat} (hn : 7 ≤ n) {st : Store} :
    shut st (callN tb L con kit n "" "claim_block" [Rs rows, .int a] st) = .ok (.tup [.tup [.str (S "claim"), .int (a + 1), .str nm, .tup (vs (a + 2))], .int (a + ws.length + 2)]) st := by
  obtain ⟨m, rfl, e0⟩ := callN_at (n := n) (L := L) (con := con) (kit := kit) (st := st) t_claim_block (ds := [Rs rows, .int a]) rfl (by omega)
  rw [e0]
  clear e0
  have hm : 6 ≤ m := by omega
  have hm4 : 4 ≤ m := by omega
  have g := drop_at hr
  have lt := drop_lt hr
  have hr1 := drop_next hr
  have hr2 := drop_next' hr1
  obtain ⟨k, rfl⟩ : ∃ k, L = (k + 1) + ws.length := ⟨L - 1 - ws.length, by omega⟩
  have h1 := loop_claim (L := k + 1 + ws.length) (kit := kit) hm (hd := some (Rw [S "claim", nm])) (ln := some (.int (a + 1))) h (a := a + 1) (fs := []) (k := k + 1) (st := st) hr1 (by simp; omega)
  have nrv := h.nr (fun w v h l => h.nr l) (a + 2)
  have c1 : (((a + 1 : Nat) : Int) + 1) = a + 2 := by omega
  rw [c1, List.nil_append] at h1
  generalize hz : a + 1 + ws.length = z at *
  have c2 : (a : Int) + ws.length + 2 = z + 1 := by omega
  have g2 := drop_at hr2
  have lt2 := drop_lt hr2
  have q : cmpV (st ++ [.lst (vs (a + 2))]) .NotEq (Rw [S "end", S "claim"]) (.lst [.str (Str.ofString "end"), .str (Str.ofString "claim")]) = some false := by
    rw [cmp_neW (by simp) (by simp)]; simp
  rw [whl_end (by simp [whC, wc_claim_block_0, lt2, g2, q])] at h1
  have t := tuple_ref (st := st ++ [.lst (vs (a + 2))]) (n := st.length) (xs := vs (a + 2)) (by simp)
  have lt3 : ¬ ((rows.length : Int) ≤ z) := by omega
  have hn1 := hn0.1
  have hn2 := hn0.2
  rw [c2]
  simp [d_claim_block, g, sp_fitsD hm4, hn1, hn2]
  simp at h1
  rw [h1]
  simp [lt3, t, nrv]
theorem sp_proof {rows : List (List Str)} {nm : Str} (hn0 : NmOk nm) {ws rest : List (List Str)} {vs : Int → List D} (h : Body false ws vs) {a : Nat} (hr : rows.drop a = [S "proof", nm] :: (ws ++ [S "end", S "proof"] :: rest)) (hL : 1000 ≤ L) {n : Nat} (hn : 9 ≤ n) {st : Store} :
    shut st (callN tb L con kit n "" "proof_block" [Rs rows, .int a] st) = .ok (.tup [.tup [.str (S "proof"), .int (a + 1), .str nm, .tup (vs (a + 2))], .int (a + ws.length + 2)]) st := by
  obtain ⟨m, rfl, e0⟩ := callN_at (n := n) (L := L) (con := con) (kit := kit) (st := st) t_proof_block (ds := [Rs rows, .int a]) rfl (by omega)
  rw [e0]
  clear e0
  have hm : 8 ≤ m := by omega
  have hm4 : 4 ≤ m := by omega
  have g := drop_at hr
  have hr1 := drop_next hr
  have h1 := sp_proof_body (kit := kit) h (e := "proof") (by simp) hr1 hL hm (st := st)
  have c1 : (((a + 1 : Nat) : Int) + 1) = a + 2 := by omega
  have nrv := h.nr (a + 2)
  have c2 : (((a + 1 + ws.length : Nat) : Int) + 1) = a + ws.length + 2 := by omega
  rw [c1, c2] at h1
  have hn1 := hn0.1
  have hn2 := hn0.2
  have mk0 : mk false = Str.ofString "R" := rfl
  rw [mk0] at h1
  simp at h1
  simp [d_proof_block, g, sp_fitsD hm4, hn1, hn2, h1, nrv]
theorem loop_kind {rows : List (List Str)} {m : Nat} (hm : 4 ≤ m) {rest : List (List Str)} {hd ln : Option D} {ws : List (List Str)} {vs : Int → List D} (h : Rows (PortRow b) ws vs) : ∀ {a : Nat} {fs : List D} {k : Nat} {x : Option D} {st : Store}, rows.drop a = ws ++ rest → fs.length + ws.length ≤ 1000 →
    ∃ x', whlL (whC (cfN tb L con kit m) wc_kind_block_0) (evSs (cfN tb L con kit m) wb_kind_block_0) (k + ws.length) [some (Rs rows), some (.int a), some (.str (mk b)), hd, ln, some (.ref st.length), x] (st ++ [.lst fs])
      = whlL (whC (cfN tb L con kit m) wc_kind_block_0) (evSs (cfN tb L con kit m) wb_kind_block_0) k [some (Rs rows), some (.int (a + ws.length : Nat)), some (.str (mk b)), hd, ln, some (.ref st.length), x'] (st ++ [.lst (fs ++ vs (a + 1))]) := by
  induction h with
  | nil => intro a fs k x st hr hl; exact ⟨x, by simp⟩
  | @cons w v ws vs h hs ih =>
    intro a fs k x st hr hl
    have g := drop_at hr
    have lt := drop_lt hr
    have nrv := h.nr (a + 1)
    have hl2 : fs.length < sizeLine := by simp at hl; unfold sizeLine; omega
    have q : cmpV (st ++ [.lst fs]) .NotEq (Rw w) (.lst [.str (Str.ofString "end"), .str (Str.ofString "kind")]) = some true := by
      rw [cmp_neW (by simpa using h.wd) (by simp)]
      cases h <;> simp
    have ap := bm_append (st := st ++ [.lst fs]) (n := st.length) (xs := fs) (y := v (a + 1)) (c := false) (by simp) hl2
    obtain ⟨x', ih'⟩ := ih (a := a + 1) (fs := fs ++ [v (a + 1)]) (k := k) (x := some (Rw w)) (st := st) (by rw [drop_next hr]; rfl) (by simp at hl ⊢; omega)
    refine ⟨x', ?_⟩
    have step : evSs (cfN tb L con kit m) wb_kind_block_0 [some (Rs rows), some (.int a), some (.str (mk b)), hd, ln, some (.ref st.length), x] (st ++ [.lst fs])
        = .nx [some (Rs rows), some (.int (a + 1)), some (.str (mk b)), hd, ln, some (.ref st.length), some (Rw w)] (st ++ [.lst (fs ++ [v (a + 1)])]) := by
      cases h with
      | plug h1 h2 => simp [wb_kind_block_0, g, sp_fitsD hm, h1.1, h1.2, h2.1, ref_fits h2, ap]
      | sock h1 h2 => simp [wb_kind_block_0, g, sp_fitsD hm, h1.1, h1.2, h2.1, ref_fits h2, ap]
    rw [List.length_cons, ← Nat.add_assoc, whl_go (by simp [whC, wc_kind_block_0, lt, g, q]) step]
    have c1 : ((a + 1 : Nat) : Int) = (a : Int) + 1 := by omega
    rw [c1] at ih'
    rw [ih']
    rw [show a + 1 + ws.length = a + (ws.length + 1) by omega]
    simp
theorem sp_kind {rows : List (List Str)} {nm : Str} (hn0 : NmOk nm) {ws rest : List (List Str)} {vs : Int → List D} (h : Rows (PortRow b) ws vs) (hl : ws.length ≤ 500) {a : Nat} (hr : rows.drop a = [S "kind", nm] :: (ws ++ [S "end", S "kind"] :: rest)) (hL : 1000 ≤ L) {n : Nat} (hn : 5 ≤ n) {st : Store} :
    shut st (callN tb L con kit n "" "kind_block" [Rs rows, .int a, .str (mk b)] st) = .ok (.tup [.tup [.str (S "kind"), .int (a + 1), .str nm, .tup (vs (a + 2))], .int (a + ws.length + 2)]) st := by
  obtain ⟨m, rfl, e0⟩ := callN_at (n := n) (L := L) (con := con) (kit := kit) (st := st) t_kind_block (ds := [Rs rows, .int a, .str (mk b)]) rfl (by omega)
  rw [e0]
  clear e0
  have hm : 4 ≤ m := by omega
  have g := drop_at hr
  have lt := drop_lt hr
  have hr1 := drop_next hr
  have hr2 := drop_next' hr1
  obtain ⟨k, rfl⟩ : ∃ k, L = (k + 1) + ws.length := ⟨L - 1 - ws.length, by omega⟩
  obtain ⟨x', h1⟩ := loop_kind (L := k + 1 + ws.length) (kit := kit) hm (hd := some (Rw [S "kind", nm])) (ln := some (.int (a + 1))) h (a := a + 1) (fs := []) (k := k + 1) (x := none) (st := st) hr1 (by simp; omega)
  have nrv := h.nr (fun w v h l => h.nr l) (a + 2)
  have c1 : (((a + 1 : Nat) : Int) + 1) = a + 2 := by omega
  rw [c1, List.nil_append] at h1
  generalize hz : a + 1 + ws.length = z at *
  have c2 : (a : Int) + ws.length + 2 = z + 1 := by omega
  have g2 := drop_at hr2
  have lt2 := drop_lt hr2
  have q : cmpV (st ++ [.lst (vs (a + 2))]) .NotEq (Rw [S "end", S "kind"]) (.lst [.str (Str.ofString "end"), .str (Str.ofString "kind")]) = some false := by
    rw [cmp_neW (by simp) (by simp)]; simp
  rw [whl_end (by simp [whC, wc_kind_block_0, lt2, g2, q])] at h1
  have t := tuple_ref (st := st ++ [.lst (vs (a + 2))]) (n := st.length) (xs := vs (a + 2)) (by simp)
  have lt3 : ¬ ((rows.length : Int) ≤ z) := by omega
  have hn1 := hn0.1
  have hn2 := hn0.2
  rw [c2]
  simp [d_kind_block, g, sp_fitsD hm, hn1, hn2]
  simp at h1
  rw [h1]
  simp [lt3, t, nrv]
/-- an item of one line -/
inductive Line : List Str → (Int → D) → Prop
  | use {x : Str} : NmOk x → Line [S "use", x] (fun l => .tup [.str (S "use"), .int l, .str x])
  | tie {x : Str} : NmOk x → Line [S "tie", x] (fun l => .tup [.str (S "tie"), .int l, .str x])
  | show_ {xs : List Str} : (∀ x ∈ xs, NmOk x) → xs ≠ [] → xs.length ≤ 38 → Line (S "show" :: xs) (fun l => .tup [.str (S "show"), .int l, .tup (xs.map .str)])
theorem Line.nr {w : List Str} {v : Int → D} (h : Line w v) (l : Int) : D.nr (v l) = true := by cases h <;> simp
theorem sp_line {rows : List (List Str)} {w : List Str} {v : Int → D} (h : Line w v) {a : Nat} {rest : List (List Str)} (hr : rows.drop a = w :: rest) {n : Nat} (hn : 5 ≤ n) {st : Store} :
    shut st (callN tb L con kit n "" "line_item" [Rs rows, .int a] st) = .ok (.tup [v (a + 1), .int (a + 1)]) st := by
  obtain ⟨m, rfl, e0⟩ := callN_at (n := n) (L := L) (con := con) (kit := kit) (st := st) t_line_item (ds := [Rs rows, .int a]) rfl (by omega)
  rw [e0]
  clear e0
  have hm : 4 ≤ m := by omega
  have g := drop_at hr
  cases h with
  | use h => simp [d_line_item, g, sp_fitsD hm, h.1, h.2]
  | tie h => simp [d_line_item, g, sp_fitsD hm, h.1, h.2]
  | @show_ xs h h0 hl =>
    have w1 := eq_true (show ∀ x ∈ xs, Wd x from fun x hx => (h x hx).1)
    have l1 : 0 < xs.length := List.length_pos_iff.mpr h0
    have l2 : (1 : Int) < xs.length + 1 := by omega
    have l3 : xs.length + 1 ≤ sizeLine := by unfold sizeLine; omega
    have l4 : xs.length ≤ sizeLine := by unfold sizeLine; omega
    simp [d_line_item, g, sp_fitsD hm, w1, l1, l2, l3]
    rw [lc_free fun k => .bl (isName k)]
    · have q5 : (xs.all fun k => isName k) = true := by
        rw [List.all_eq_true]; exact fun x hx => (h x hx).2
      simp only [R.bnd_ok, l4, List.length_map, if_true, alloc_f, ev_nil, all_map, newR_f, q5, R.of_some, truth_bl]
      simp
    · intro x hx
      simp [lcb, sp_is_name (h x hx).1.le' (show 1 ≤ m by omega)]
end
end Fg

set_option maxHeartbeats 4000000
/-! Pr5: rules, modules, texts read. -/
namespace Fg
open PySem PySem.Spec PyProof.Rows L2 TL
inductive Thing : List (List Str) → (Int → D) → Prop
  | tie {x : Str} : NmOk x → Thing [[S "tie", x]] (fun l => .tup [.str (S "tie"), .int l, .str x])
  | kind {nm : Str} {ws : List (List Str)} {vs : Int → List D} : NmOk nm → Rows (PortRow true) ws vs → ws.length ≤ 500 → Thing ([S "kind", nm] :: (ws ++ [[S "end", S "kind"]])) (fun l => .tup [.str (S "kind"), .int l, .str nm, .tup (vs (l + 1))])
/-- items one behind the other -/
inductive Seqs (P : List (List Str) → (Int → D) → Prop) : Nat → List (List Str) → (Int → List D) → Prop
  | nil : Seqs P 0 [] (fun _ => [])
  | cons {n : Nat} {w : List (List Str)} {v : Int → D} {ws : List (List Str)} {vs : Int → List D} : P w v → Seqs P n ws vs → Seqs P (n + 1) (w ++ ws) (fun l => v l :: vs (l + w.length))
section
variable {P : List (List Str) → (Int → D) → Prop}
theorem Seqs.len {n : Nat} {ws : List (List Str)} {vs : Int → List D} (h : Seqs P n ws vs) : ∀ l, (vs l).length = n := by
  induction h with
  | nil => simp
  | cons h _ ih => intro l; simp [ih]
theorem Seqs.nr {n : Nat} {ws : List (List Str)} {vs : Int → List D} (h : Seqs P n ws vs) (hP : ∀ w v, P w v → ∀ l, D.nr (v l) = true) : ∀ l, D.nrs (vs l) = true := by
  induction h with
  | nil => simp
  | cons h _ ih => intro l; simp [hP _ _ h, ih]
end
section
variable {L : Nat} {kit : TyK → TyK → Option Bool} {b : Bool}
theorem Thing.nr {w : List (List Str)} {v : Int → D} (h : Thing w v) (l : Int) : D.nr (v l) = true := by
  cases h with
  | tie => simp
  | kind _ h => simp [h.nr fun w v h l => h.nr l]
/-- the first word of what follows is none of these -/
def HeadNot (ks : List String) (rows : List (List Str)) : Prop := ∃ k w r, rows = (k :: w) :: r ∧ ∀ x ∈ ks, k ≠ S x
theorem loop_things {rows : List (List Str)} (hL : 1000 ≤ L) {m : Nat} (hm : 5 ≤ m) {rest : List (List Str)} {hd ln x6 x7 x8 : Option D} {q : Nat} {ws : List (List Str)} {vs : Int → List D} (h : Seqs Thing q ws vs) : ∀ {a : Nat} {fs : List D} {k : Nat} {x : Option D} {st : Store}, rows.drop a = ws ++ rest → fs.length + q ≤ 1000 →
    ∃ x', whlL (whC (cfN tb L con kit m) wc_rule_block_1) (evSs (cfN tb L con kit m) wb_rule_block_1) (k + q) [some (Rs rows), some (.int a), hd, ln, some (.ref st.length), x, x6, x7, x8] (st ++ [.lst fs])
      = whlL (whC (cfN tb L con kit m) wc_rule_block_1) (evSs (cfN tb L con kit m) wb_rule_block_1) k [some (Rs rows), some (.int (a + ws.length : Nat)), hd, ln, some (.ref st.length), x', x6, x7, x8] (st ++ [.lst (fs ++ vs (a + 1))]) := by
  induction h with
  | nil => intro a fs k x st hr hl; exact ⟨x, by simp⟩
  | @cons q w v ws vs h hs ih =>
    intro a fs k x st hr hl
    rw [List.append_assoc] at hr
    have hr2 := drop_next' hr
    have nrv := h.nr (a + 1)
    have hl2 : fs.length < sizeLine := by unfold sizeLine; omega
    have ap := bm_append (st := st ++ [.lst fs]) (n := st.length) (xs := fs) (y := v (a + 1)) (c := false) (by simp) hl2
    obtain ⟨x', ih'⟩ := ih (a := a + w.length) (fs := fs ++ [v (a + 1)]) (k := k) (x := some (v (a + 1))) (st := st) hr2 (by simp at hl ⊢; omega)
    refine ⟨x', ?_⟩
    have step : whC (cfN tb L con kit m) wc_rule_block_1 [some (Rs rows), some (.int a), hd, ln, some (.ref st.length), x, x6, x7, x8] (st ++ [.lst fs]) = .ok true (st ++ [.lst fs]) ∧ evSs (cfN tb L con kit m) wb_rule_block_1 [some (Rs rows), some (.int a), hd, ln, some (.ref st.length), x, x6, x7, x8] (st ++ [.lst fs])
        = .nx [some (Rs rows), some (.int (a + w.length : Nat)), hd, ln, some (.ref st.length), some (v (a + 1)), x6, x7, x8] (st ++ [.lst (fs ++ [v (a + 1)])]) := by
      cases h with
      | tie h =>
        have g := drop_at hr
        have lt := drop_lt hr
        have e1 := sp_line (L := L) (kit := kit) (.tie h) hr hm (st := st ++ [.lst fs])
        exact ⟨by simp [whC, wc_rule_block_1, lt, g], by simp [wb_rule_block_1, g, e1, ap]⟩
      | @kind nm ws2 vs2 h h2 h3 =>
        have g := drop_at hr
        have lt := drop_lt hr
        have e1 := sp_kind (kit := kit) h h2 h3 (a := a) (rest := ws ++ rest) (by rw [hr]; simp) hL hm (st := st ++ [.lst fs])
        have mk1 : mk true = Str.ofString "N" := rfl
        rw [mk1] at e1
        have c3 : (a : Int) + 1 + 1 = a + 2 := by omega
        simp only [c3] at ap ⊢
        have c4 : (a : Int) + ws2.length + 2 = a + (ws2.length + 1 + 1) := by omega
        exact ⟨by simp [whC, wc_rule_block_1, lt, g], by simp [wb_rule_block_1, g, e1, ap, c4]⟩
    rw [← Nat.add_assoc, whl_go step.1 step.2]
    rw [ih']
    rw [List.length_append, ← Nat.add_assoc, show ((a + w.length : Nat) : Int) + 1 = a + 1 + w.length by omega]
    simp
theorem loop_counts {rows : List (List Str)} {m : Nat} (hm : 5 ≤ m) {rest : List (List Str)} {hd ln x4 x5 x8 : Option D} {t0 : D} {ws : List (List Str)} {vs : Int → List D} (h : Rows (CntRow true) ws vs) : ∀ {a : Nat} {fs : List D} {k : Nat} {x : Option D} {st : Store}, rows.drop a = ws ++ rest → fs.length + ws.length ≤ 1000 →
    ∃ x', whlL (whC (cfN tb L con kit m) wc_rule_block_0) (evSs (cfN tb L con kit m) wb_rule_block_0) (k + ws.length) [some (Rs rows), some (.int a), hd, ln, x4, x5, some (.ref (st.length + 1)), x, x8] (st ++ [t0, .lst fs])
      = whlL (whC (cfN tb L con kit m) wc_rule_block_0) (evSs (cfN tb L con kit m) wb_rule_block_0) k [some (Rs rows), some (.int (a + ws.length : Nat)), hd, ln, x4, x5, some (.ref (st.length + 1)), x', x8] (st ++ [t0, .lst (fs ++ vs (a + 1))]) := by
  induction h with
  | nil => intro a fs k x st hr hl; exact ⟨x, by simp⟩
  | @cons w v ws vs h hs ih =>
    intro a fs k x st hr hl
    have g := drop_at hr
    have lt := drop_lt hr
    have nrv := h.nr (a + 1)
    have hl2 : fs.length < sizeLine := by simp at hl; unfold sizeLine; omega
    have ap := bm_append (st := st ++ [t0, .lst fs]) (n := st.length + 1) (xs := fs) (y := v (a + 1)) (c := false) (by simp) hl2
    have e1 := sp_count (L := L) (kit := kit) h (l := (a : Int) + 1) hm (st := st ++ [t0, .lst fs])
    have mk1 : mk true = Str.ofString "N" := rfl
    rw [mk1] at e1
    obtain ⟨x', ih'⟩ := ih (a := a + 1) (fs := fs ++ [v (a + 1)]) (k := k) (x := some (v (a + 1))) (st := st) (by rw [drop_next hr]; rfl) (by simp at hl ⊢; omega)
    refine ⟨x', ?_⟩
    have step : whC (cfN tb L con kit m) wc_rule_block_0 [some (Rs rows), some (.int a), hd, ln, x4, x5, some (.ref (st.length + 1)), x, x8] (st ++ [t0, .lst fs]) = .ok true (st ++ [t0, .lst fs]) ∧ evSs (cfN tb L con kit m) wb_rule_block_0 [some (Rs rows), some (.int a), hd, ln, x4, x5, some (.ref (st.length + 1)), x, x8] (st ++ [t0, .lst fs])
        = .nx [some (Rs rows), some (.int (a + 1)), hd, ln, x4, x5, some (.ref (st.length + 1)), some (v (a + 1)), x8] (st ++ [t0, .lst (fs ++ [v (a + 1)])]) := by
      cases h with
      | want h1 h2 => exact ⟨by simp [whC, wc_rule_block_0, lt, g], by simp [wb_rule_block_0, g, e1, ap]⟩
      | seat h1 h2 => exact ⟨by simp [whC, wc_rule_block_0, lt, g], by simp [wb_rule_block_0, g, e1, ap]⟩
    rw [List.length_cons, ← Nat.add_assoc, whl_go step.1 step.2]
    have c1 : ((a + 1 : Nat) : Int) = (a : Int) + 1 := by omega
    rw [c1] at ih'
    rw [ih']
    rw [show a + 1 + ws.length = a + (ws.length + 1) by omega]
    simp
theorem Body.head {ws : List (List Str)} {vs : Int → List D} (h : Body true ws vs) (e : Str) (rest : List (List Str)) : HeadNot ["tie", "kind", "want", "seat"] (ws ++ [S "end", e] :: rest) := by
  cases h with
  | search => exact ⟨_, _, _, rfl, by simp⟩
  | by_ h => cases h
  | rows h hl =>
    cases h with
    | nil => exact ⟨_, _, _, rfl, by simp⟩
    | cons h hs => cases h <;> exact ⟨_, _, _, rfl, by simp⟩
  | rest h hl =>
    cases h with
    | nil => exact ⟨_, _, _, rfl, by simp⟩
    | cons h hs => cases h <;> exact ⟨_, _, _, rfl, by simp⟩
theorem HeadNot.sub {ks ls : List String} {rows : List (List Str)} (h : HeadNot ks rows) (hs : ∀ x ∈ ls, x ∈ ks) : HeadNot ls rows := by
  obtain ⟨k, w, r, e, h⟩ := h
  exact ⟨k, w, r, e, fun x hx => h x (hs x hx)⟩
theorem sp_rule {rows : List (List Str)} {nm : Str} (hn0 : NmOk nm) {q : Nat} {tws cws bws rest : List (List Str)} {tvs cvs bvs : Int → List D} (ht : Seqs Thing q tws tvs) (hc : Rows (CntRow true) cws cvs) (hb : Body true bws bvs) (hq : q ≤ 300) (hcl : cws.length ≤ 300)
    {a : Nat} (hr : rows.drop a = [S "rule", nm] :: (tws ++ (cws ++ (bws ++ [S "end", S "rule"] :: rest)))) (hL : 1000 ≤ L) {n : Nat} (hn : 9 ≤ n) {st : Store} :
    shut st (callN tb L con kit n "" "rule_block" [Rs rows, .int a] st) = .ok (.tup [.tup [.str (S "rule"), .int (a + 1), .str nm, .tup (tvs (a + 2)), .tup (cvs (a + 2 + tws.length)), .tup (bvs (a + 2 + tws.length + cws.length))], .int (a + 2 + tws.length + cws.length + bws.length)]) st := by
  obtain ⟨m, rfl, e0⟩ := callN_at (n := n) (L := L) (con := con) (kit := kit) (st := st) t_rule_block (ds := [Rs rows, .int a]) rfl (by omega)
  rw [e0]
  clear e0
  have hm : 8 ≤ m := by omega
  have hm4 : 4 ≤ m := by omega
  have g := drop_at hr
  have lt := drop_lt hr
  have hr1 := drop_next hr
  have hr2 := drop_next' hr1
  have hr3 := drop_next' hr2
  have hd2 : HeadNot ["want", "seat"] (bws ++ [S "end", S "rule"] :: rest) := (hb.head _ rest).sub (by simp)
  have hd1 : HeadNot ["tie", "kind"] (cws ++ (bws ++ [S "end", S "rule"] :: rest)) := by
    cases hc with
    | nil => exact (hb.head _ rest).sub (by simp)
    | cons h hs => cases h <;> exact ⟨_, _, _, rfl, by simp⟩
  obtain ⟨k1, hk1⟩ : ∃ k, L = (k + 1) + q := ⟨L - 1 - q, by omega⟩
  obtain ⟨k2, hk2⟩ : ∃ k, L = (k + 1) + cws.length := ⟨L - 1 - cws.length, by omega⟩
  obtain ⟨x', h1⟩ := loop_things (L := L) (kit := kit) hL (m := m) (by omega) (hd := some (Rw [S "rule", nm])) (ln := some (.int (a + 1))) (x6 := none) (x7 := none) (x8 := none) ht (a := a + 1) (fs := []) (k := k1 + 1) (x := none) (st := st) hr1 (by simp; omega)
  rw [← hk1] at h1
  have c1 : (((a + 1 : Nat) : Int) + 1) = a + 2 := by omega
  rw [c1, List.nil_append] at h1
  have nrt := ht.nr (fun w v h l => h.nr l) (a + 2)
  have nrc := hc.nr (fun w v h l => h.nr l) (a + 2 + tws.length)
  have nrb := hb.nr (a + 2 + tws.length + cws.length)
  obtain ⟨x'', h2⟩ := loop_counts (L := L) (kit := kit) (m := m) (by omega) (hd := some (Rw [S "rule", nm])) (ln := some (.int (a + 1))) (x4 := some (.ref st.length)) (x5 := x') (x8 := none) (t0 := .lst (tvs (a + 2))) hc (a := a + 1 + tws.length) (fs := []) (k := k2 + 1) (x := none) (st := st) hr2 (by simp; omega)
  rw [← hk2] at h2
  have h3 := sp_proof_body (kit := kit) hb (e := "rule") (by simp) hr3 hL hm (st := st ++ [.lst (tvs (a + 2)), .lst (cvs (a + 2 + tws.length))])
  have c2 : (((a + 1 + tws.length : Nat) : Int) + 1) = a + 2 + tws.length := by omega
  have c3 : (((a + 1 + tws.length + cws.length : Nat) : Int) + 1) = a + 2 + tws.length + cws.length := by omega
  have c4 : (((a + 1 + tws.length + cws.length + bws.length : Nat) : Int) + 1) = a + 2 + tws.length + cws.length + bws.length := by omega
  rw [c2, List.nil_append] at h2
  rw [c3, c4] at h3
  generalize hz : a + 1 + tws.length = z at *
  generalize hy : z + cws.length = y at *
  obtain ⟨kw1, w1, r1, er1, n1⟩ := hd1
  rw [er1] at hr2
  have g1 := drop_at hr2
  have lt1 := drop_lt hr2
  obtain ⟨kw2, w2, r2, er2, n2⟩ := hd2
  rw [er2] at hr3
  have g2 := drop_at hr3
  have lt2 := drop_lt hr3
  simp only [List.mem_cons, List.not_mem_nil, or_false, forall_eq_or_imp, forall_eq] at n1 n2
  rw [whl_end (by simp [whC, wc_rule_block_1, lt1, g1, n1])] at h1
  rw [whl_end (by simp [whC, wc_rule_block_0, lt2, g2, n2])] at h2
  have t1 := tuple_ref (st := st ++ [.lst (tvs (a + 2)), .lst (cvs (a + 2 + tws.length))]) (n := st.length) (xs := tvs (a + 2)) (by simp)
  have t2 := tuple_ref (st := st ++ [.lst (tvs (a + 2)), .lst (cvs (a + 2 + tws.length))]) (n := st.length + 1) (xs := cvs (a + 2 + tws.length)) (by simp)
  have hn1 := hn0.1
  have hn2 := hn0.2
  have mk1 : mk true = Str.ofString "N" := rfl
  rw [mk1] at h3
  have h3' := congrArg (shut (st ++ [.lst (tvs (a + 2)), .lst (cvs (a + 2 + tws.length))])) h3
  rw [shut_nr' (by simp [nrb])] at h3'
  simp at h1 h2
  simp [d_rule_block, g, sp_fitsD hm4, hn1, hn2]
  rw [h1]
  simp
  rw [h2]
  simp [h3', t1, t2, nrt, nrc, nrb]
/-- the items of a module -/
inductive Item : List (List Str) → (Int → D) → Prop
  | line {w : List Str} {v : Int → D} : Line w v → Item [w] v
  | kind {nm : Str} {ws : List (List Str)} {vs : Int → List D} : NmOk nm → Rows (PortRow false) ws vs → ws.length ≤ 500 → Item ([S "kind", nm] :: (ws ++ [[S "end", S "kind"]])) (fun l => .tup [.str (S "kind"), .int l, .str nm, .tup (vs (l + 1))])
  | claim {nm : Str} {ws : List (List Str)} {vs : Int → List D} : NmOk nm → Rows ClmRow ws vs → ws.length ≤ 500 → Item ([S "claim", nm] :: (ws ++ [[S "end", S "claim"]])) (fun l => .tup [.str (S "claim"), .int l, .str nm, .tup (vs (l + 1))])
  | proof {nm : Str} {ws : List (List Str)} {vs : Int → List D} : NmOk nm → Body false ws vs → Item ([S "proof", nm] :: (ws ++ [[S "end", S "proof"]])) (fun l => .tup [.str (S "proof"), .int l, .str nm, .tup (vs (l + 1))])
  | rule {nm : Str} {q : Nat} {tws cws bws : List (List Str)} {tvs cvs bvs : Int → List D} : NmOk nm → Seqs Thing q tws tvs → Rows (CntRow true) cws cvs → Body true bws bvs → q ≤ 300 → cws.length ≤ 300 →
      Item ([S "rule", nm] :: (tws ++ (cws ++ (bws ++ [[S "end", S "rule"]])))) (fun l => .tup [.str (S "rule"), .int l, .str nm, .tup (tvs (l + 1)), .tup (cvs (l + 1 + tws.length)), .tup (bvs (l + 1 + tws.length + cws.length))])
theorem Item.nr {w : List (List Str)} {v : Int → D} (h : Item w v) (l : Int) : D.nr (v l) = true := by
  cases h with
  | line h => exact h.nr l
  | kind _ h => simp [h.nr fun w v h l => h.nr l]
  | claim _ h => simp [h.nr fun w v h l => h.nr l]
  | proof _ h => simp [h.nr]
  | rule _ h1 h2 h3 => simp [h1.nr fun w v h l => h.nr l, h2.nr fun w v h l => h.nr l, h3.nr]
theorem sp_item {rows : List (List Str)} {w : List (List Str)} {v : Int → D} (h : Item w v) {a : Nat} {rest : List (List Str)} (hr : rows.drop a = w ++ rest) (hL : 1000 ≤ L) {n : Nat} (hn : 10 ≤ n) {st : Store} :
    shut st (callN tb L con kit n "" "item_at" [Rs rows, .int a] st) = .ok (.tup [v (a + 1), .int (a + w.length : Nat)]) st := by
  obtain ⟨m, rfl, e0⟩ := callN_at (n := n) (L := L) (con := con) (kit := kit) (st := st) t_item_at (ds := [Rs rows, .int a]) rfl (by omega)
  rw [e0]
  clear e0
  have nrv := h.nr (a + 1)
  cases h with
  | line h =>
    have e1 := sp_line (L := L) (kit := kit) h hr (n := m) (by omega) (st := st)
    have g := drop_at hr
    cases h with
    | use h => simp [d_item_at, g, e1]
    | tie h => simp [d_item_at, g, e1]
    | show_ h h0 hl => simp [d_item_at, g, e1]
  | @kind nm ws vs h1 h2 h3 =>
    have hr' : rows.drop a = [S "kind", nm] :: (ws ++ [S "end", S "kind"] :: rest) := by rw [hr]; simp
    have g := drop_at hr'
    have e1 := sp_kind (kit := kit) h1 h2 h3 hr' hL (n := m) (by omega) (st := st)
    have mk1 : mk false = Str.ofString "R" := rfl
    have c1 : (a : Int) + 1 + 1 = a + 2 := by omega
    have c2 : (a : Int) + ws.length + 2 = a + (ws.length + 1 + 1) := by omega
    rw [mk1] at e1
    simp only [c1] at nrv ⊢
    simp at nrv
    simp [d_item_at, g, e1, nrv, c2]
  | @claim nm ws vs h1 h2 h3 =>
    have hr' : rows.drop a = [S "claim", nm] :: (ws ++ [S "end", S "claim"] :: rest) := by rw [hr]; simp
    have g := drop_at hr'
    have e1 := sp_claim (kit := kit) h1 h2 h3 hr' hL (n := m) (by omega) (st := st)
    have c1 : (a : Int) + 1 + 1 = a + 2 := by omega
    have c2 : (a : Int) + ws.length + 2 = a + (ws.length + 1 + 1) := by omega
    simp only [c1] at nrv ⊢
    simp at nrv
    simp [d_item_at, g, e1, nrv, c2]
  | @proof nm ws vs h1 h2 =>
    have hr' : rows.drop a = [S "proof", nm] :: (ws ++ [S "end", S "proof"] :: rest) := by rw [hr]; simp
    have g := drop_at hr'
    have e1 := sp_proof (kit := kit) h1 h2 hr' hL (n := m) (by omega) (st := st)
    have c1 : (a : Int) + 1 + 1 = a + 2 := by omega
    have c2 : (a : Int) + ws.length + 2 = a + (ws.length + 1 + 1) := by omega
    simp only [c1] at nrv ⊢
    simp at nrv
    simp [d_item_at, g, e1, nrv, c2]
  | @rule nm q tws cws bws tvs cvs bvs h1 h2 h3 h4 h5 h6 =>
    have hr' : rows.drop a = [S "rule", nm] :: (tws ++ (cws ++ (bws ++ [S "end", S "rule"] :: rest))) := by rw [hr]; simp
    have g := drop_at hr'
    have e1 := sp_rule (kit := kit) h1 h2 h3 h4 h5 h6 hr' hL (n := m) (by omega) (st := st)
    have c1 : (a : Int) + 1 + 1 = a + 2 := by omega
    have c2 : (a : Int) + 2 + tws.length + cws.length + bws.length = a + (tws.length + (cws.length + (bws.length + 1)) + 1) := by omega
    simp only [c1] at nrv ⊢
    simp at nrv
    simp [d_item_at, g, e1, nrv, c2]
end
end Fg

set_option maxHeartbeats 4000000
/-! Pr6: modules and texts read. -/
namespace Fg
open PySem PySem.Spec PyProof.Rows L2 TL
section
variable {L : Nat} {kit : TyK → TyK → Option Bool} {b : Bool}
theorem Line.wd {w : List Str} {v : Int → D} (h : Line w v) : ∀ x ∈ w, Wd x := by
  have w1 : Wd (Str.ofString "show") := wd_lit (by decide)
  cases h with
  | use h => simp [h.1]
  | tie h => simp [h.1]
  | show_ h =>
    intro x hx
    rcases List.mem_cons.mp hx with rfl | hx
    · simp
    · exact (h x hx).1
theorem Item.first {w : List (List Str)} {v : Int → D} (h : Item w v) : ∃ k r rs, w = (k :: r) :: rs ∧ k ≠ S "end" ∧ ∀ x ∈ k :: r, Wd x := by
  cases h with
  | line h =>
    have hw := h.wd
    cases h <;> exact ⟨_, _, _, rfl, by simp, hw⟩
  | kind h => exact ⟨_, _, _, rfl, by simp, by simp [h.1]⟩
  | claim h => exact ⟨_, _, _, rfl, by simp, by simp [h.1]⟩
  | proof h => exact ⟨_, _, _, rfl, by simp, by simp [h.1]⟩
  | rule h => exact ⟨_, _, _, rfl, by simp, by simp [h.1]⟩
theorem loop_module {rows : List (List Str)} (hL : 1000 ≤ L) {m : Nat} (hm : 10 ≤ m) {rest : List (List Str)} {nm : Option D} {q : Nat} {ws : List (List Str)} {vs : Int → List D} (h : Seqs Item q ws vs) : ∀ {a : Nat} {fs : List D} {k : Nat} {x : Option D} {st : Store}, rows.drop a = ws ++ rest → fs.length + q ≤ 1000 →
    ∃ x', whlL (whC (cfN tb L con kit m) wc_module_at_0) (evSs (cfN tb L con kit m) wb_module_at_0) (k + q) [some (Rs rows), some (.int a), nm, some (.ref st.length), x] (st ++ [.lst fs])
      = whlL (whC (cfN tb L con kit m) wc_module_at_0) (evSs (cfN tb L con kit m) wb_module_at_0) k [some (Rs rows), some (.int (a + ws.length : Nat)), nm, some (.ref st.length), x'] (st ++ [.lst (fs ++ vs (a + 1))]) := by
  induction h with
  | nil => intro a fs k x st hr hl; exact ⟨x, by simp⟩
  | @cons q w v ws vs h hs ih =>
    intro a fs k x st hr hl
    rw [List.append_assoc] at hr
    have hr2 := drop_next' hr
    have nrv := h.nr (a + 1)
    have hl2 : fs.length < sizeLine := by unfold sizeLine; omega
    have ap := bm_append (st := st ++ [.lst fs]) (n := st.length) (xs := fs) (y := v (a + 1)) (c := false) (by simp) hl2
    obtain ⟨x', ih'⟩ := ih (a := a + w.length) (fs := fs ++ [v (a + 1)]) (k := k) (x := some (v (a + 1))) (st := st) hr2 (by simp at hl ⊢; omega)
    refine ⟨x', ?_⟩
    have e1 := sp_item (kit := kit) h hr hL hm (st := st ++ [.lst fs])
    obtain ⟨kw, r, rs, ew, ne, hw⟩ := h.first
    have hr' := hr
    rw [ew] at hr'
    have g := drop_at hr'
    have lt := drop_lt hr'
    have qq : cmpV (st ++ [.lst fs]) .NotEq (Rw (kw :: r)) (.lst [.str (Str.ofString "end"), .str (Str.ofString "module")]) = some true := by
      rw [cmp_neW (by simpa using hw) (by simp)]
      simp [ne]
    generalize hz : a + w.length = z at *
    rw [← Nat.add_assoc, whl_go (st' := st ++ [.lst (fs ++ [v (a + 1)])]) (sl' := [some (Rs rows), some (.int z), nm, some (.ref st.length), some (v (a + 1))]) (by simp [whC, wc_module_at_0, lt, g, qq]) (by simp [wb_module_at_0, e1, ap])]
    rw [ih']
    rw [List.length_append, ← Nat.add_assoc, hz, show (z : Int) + 1 = a + 1 + w.length by omega]
    simp
inductive Mod (nm : Str) : List (List Str) → (Int → D) → Prop
  | mk {q : Nat} {ws : List (List Str)} {vs : Int → List D} : NmOk nm → Seqs Item q ws vs → q ≤ 500 → Mod nm ([S "module", nm] :: (ws ++ [[S "end", S "module"]])) (fun l => .tup [.str nm, .tup (vs (l + 1))])
theorem Mod.nr {nm : Str} {w : List (List Str)} {v : Int → D} (h : Mod nm w v) (l : Int) : D.nr (v l) = true := by
  cases h with
  | mk _ h => simp [h.nr fun w v h l => h.nr l]
theorem sp_module {rows : List (List Str)} {nm : Str} (hn0 : NmOk nm) {q : Nat} {ws rest : List (List Str)} {vs : Int → List D} (h : Seqs Item q ws vs) (hl : q ≤ 500) {a : Nat} (hr : rows.drop a = [S "module", nm] :: (ws ++ [S "end", S "module"] :: rest)) (hL : 1000 ≤ L) {n : Nat} (hn : 11 ≤ n) {st : Store} :
    shut st (callN tb L con kit n "" "module_at" [Rs rows, .int a] st) = .ok (.tup [.str nm, .tup (vs (a + 2)), .int (a + ws.length + 2 : Nat)]) st := by
  obtain ⟨m, rfl, e0⟩ := callN_at (n := n) (L := L) (con := con) (kit := kit) (st := st) t_module_at (ds := [Rs rows, .int a]) rfl (by omega)
  rw [e0]
  clear e0
  have hm : 10 ≤ m := by omega
  have hm4 : 4 ≤ m := by omega
  have g := drop_at hr
  have lt := drop_lt hr
  have hr1 := drop_next hr
  have hr2 := drop_next' hr1
  obtain ⟨k, hk⟩ : ∃ k, L = (k + 1) + q := ⟨L - 1 - q, by omega⟩
  obtain ⟨x', h1⟩ := loop_module (L := L) (kit := kit) hL hm (nm := some (.str nm)) h (a := a + 1) (fs := []) (k := k + 1) (x := none) (st := st) hr1 (by simp; omega)
  rw [← hk] at h1
  have nrv := h.nr (fun w v h l => h.nr l) (a + 2)
  have c1 : (((a + 1 : Nat) : Int) + 1) = a + 2 := by omega
  rw [c1, List.nil_append] at h1
  have c2 : a + ws.length + 2 = a + 1 + ws.length + 1 := by omega
  rw [c2]
  generalize hz : a + 1 + ws.length = z at *
  have g2 := drop_at hr2
  have lt2 := drop_lt hr2
  have q : cmpV (st ++ [.lst (vs (a + 2))]) .NotEq (Rw [S "end", S "module"]) (.lst [.str (Str.ofString "end"), .str (Str.ofString "module")]) = some false := by
    rw [cmp_neW (by simp) (by simp)]; simp
  rw [whl_end (by simp [whC, wc_module_at_0, lt2, g2, q])] at h1
  have t := tuple_ref (st := st ++ [.lst (vs (a + 2))]) (n := st.length) (xs := vs (a + 2)) (by simp)
  have lt3 : ¬ ((rows.length : Int) ≤ z) := by omega
  have hn1 := hn0.1
  have hn2 := hn0.2
  simp [d_module_at, g, sp_fitsD hm4, hn1, hn2]
  simp at h1
  rw [h1]
  simp [lt3, t, nrv]
/-- a word that a text may hold -/
def Wk (w : Str) : Prop := Wd w ∧ 32 ∉ tl w ∧ 10 ∉ tl w ∧ (isNum w = true → w.length ≤ 31 ∧ ∃ n : Nat, intText? w = some (n : Int) ∧ n ≤ 10 ^ 30)
theorem sp_great {w : Str} (h : Wk w) {n : Nat} (hn : 2 ≤ n) {st : Store} : callN tb L con kit n "" "too_great" [.str w] st = .ok (.bl false) st := by
  obtain ⟨m, rfl, e0⟩ := callN_at (n := n) (L := L) (con := con) (kit := kit) (st := st) t_too_great (ds := [.str w]) rfl (by omega)
  rw [e0]
  clear e0
  obtain ⟨hw, _, _, h2⟩ := h
  by_cases hq : isNum w = true
  · obtain ⟨h3, k, h4, h5⟩ := h2 hq
    have l1 : ¬ ((31 : Int) < w.length) := by omega
    have l2 : ¬ (1000000000000000000000000000000 < (k : Int)) := by
      have : (10 : Nat) ^ 30 = 1000000000000000000000000000000 := by decide
      omega
    have i1 := int_str (st := st) h4 (by omega)
    simp [d_too_great, sp_is_number hw.le' (show 1 ≤ m by omega), hq, len_str hw.le', l1, l2, i1, k_NUMBER]
  · have hq' : isNum w = false := by simpa using hq
    simp [d_too_great, sp_is_number hw.le' (show 1 ≤ m by omega), hq']
/-- the rows of a text that is let -/
structure TxtOk (rows : List (List Str)) : Prop where
  ne : rows ≠ []
  len : rows.length ≤ 600
  row : ∀ r ∈ rows, r ≠ [] ∧ r.length ≤ 40 ∧ ∀ w ∈ r, Wk w
def lineOf (r : List Str) : Str := Txt.join (S " ") r
def textOf (rows : List (List Str)) : Str := Txt.join (S "\n") (rows.map lineOf)
theorem join_len (y : Str) (M : Nat) : ∀ {ps : List Str}, (∀ p ∈ ps, p.length ≤ M) → (Txt.join y ps).length ≤ ps.length * (M + y.length) := by
  intro ps
  rw [join_eq]
  induction ps with
  | nil => intro _; exact Nat.zero_le _
  | cons p ps ih =>
    intro h
    have h1 := h p (by simp)
    have h2 := ih fun q hq => h q (by simp [hq])
    cases ps with
    | nil =>
      show p.length ≤ _
      simp; omega
    | cons q r =>
      show (p ++ y ++ Str.join y (q :: r)).length ≤ _
      rw [len_app, len_app]
      rw [List.length_cons, Nat.succ_mul]
      omega
theorem join_free {y : Str} {c : Nat} (hy : c ∉ tl y) : ∀ {ps : List Str}, (∀ p ∈ ps, c ∉ tl p) → c ∉ tl (Txt.join y ps) := by
  intro ps
  rw [join_eq]
  induction ps with
  | nil => intro _; show c ∉ tl Str.empty; simp [Str.empty]
  | cons p ps ih =>
    intro h
    have h1 := h p (by simp)
    have h2 := ih fun q hq => h q (by simp [hq])
    cases ps with
    | nil => exact h1
    | cons q r =>
      show c ∉ tl (p ++ y ++ Str.join y (q :: r))
      rw [tl_append, tl_append]
      intro hm
      rcases List.mem_append.mp hm with hm | hm
      · rcases List.mem_append.mp hm with hm | hm
        · exact h1 hm
        · exact hy hm
      · exact h2 hm
theorem line_len {r : List Str} (h : r.length ≤ 40 ∧ ∀ w ∈ r, Wk w) : (lineOf r).length ≤ 1640 := by
  have := join_len (S " ") 40 (ps := r) fun p hp => (h.2 p hp).1.1
  have e : (S " ").length = 1 := S_len " "
  unfold lineOf
  rw [e] at this
  have h1 := h.1
  calc _ ≤ r.length * 41 := this
    _ ≤ 40 * 41 := Nat.mul_le_mul_right _ h1
    _ = 1640 := rfl
theorem text_len {rows : List (List Str)} (h : TxtOk rows) : (textOf rows).length ≤ 984600 := by
  have := join_len (S "\n") 1640 (ps := rows.map lineOf) fun p hp => by
    obtain ⟨r, hr, rfl⟩ := List.mem_map.mp hp
    exact line_len (h.row r hr).2
  have e : (S "\n").length = 1 := S_len "\n"
  unfold textOf
  rw [e, List.length_map] at this
  have h1 := h.len
  calc _ ≤ rows.length * 1641 := this
    _ ≤ 600 * 1641 := Nat.mul_le_mul_right _ h1
    _ = 984600 := rfl
theorem split_text {rows : List (List Str)} (h : TxtOk rows) : Txt.split (textOf rows) (S "\n") = rows.map lineOf := by
  unfold textOf
  refine split_join (s := 10) (S := []) (by rw [tl_ofString]; rfl) (by decide +kernel) (by simpa using h.ne) fun p hp => ?_
  obtain ⟨r, hr, rfl⟩ := List.mem_map.mp hp
  exact join_free (by rw [tl_ofString]; decide) fun w hw => ((h.row r hr).2.2 w hw).2.2.1
theorem split_line {r : List Str} (h0 : r ≠ []) (h : ∀ w ∈ r, Wk w) : Txt.split (lineOf r) (S " ") = r := by
  unfold lineOf
  exact split_join (s := 32) (S := []) (by rw [tl_ofString]; rfl) (by decide +kernel) h0 fun w hw => (h w hw).2.1
theorem nrs_rows {rows : List (List Str)} : D.nrs (rows.map Rw) = true := by
  induction rows with
  | nil => rfl
  | cons r rows ih => simp [ih, Rw]
theorem sp_rows_of {rows : List (List Str)} (h : TxtOk rows) {n : Nat} (hn : 3 ≤ n) {st : Store} : shut st (callN tb L con kit n "" "rows_of" [.str (textOf rows)] st) = .ok (Rs rows) st := by
  obtain ⟨m, rfl, e0⟩ := callN_at (n := n) (L := L) (con := con) (kit := kit) (st := st) t_rows_of (ds := [.str (textOf rows)]) rfl (by omega)
  rw [e0]
  clear e0
  have tlen := text_len h
  have s1 := bm_split (st := st) (a := textOf rows) (b := S "\n") (x := .str (textOf rows)) (by rw [S_len]; rfl) (by unfold sizeLine; omega)
  rw [split_text h] at s1
  have hl := h.len
  have l1 : ¬ ((600 : Int) < rows.length) := by omega
  have l2 : rows.length ≤ sizeLine := by unfold sizeLine; omega
  simp at s1
  simp [d_rows_of, s1, k_LINES, l1]
  have hm2 : 2 ≤ m := by omega
  rw [lc_free (ds := rows) (e := D.str ∘ lineOf) Rw]
  · simp [l2]
    rw [lc_free (ds := rows) (e := Rw) fun r => .bl false]
    · have a1 : bltV st "any" [.lst (rows.map fun r => .bl false)] = some (.bl (rows.any fun r => false)) := any_map
      simp only [R.bnd_ok, List.length_map, l2, if_true, alloc_f, ev_nil, a1, newR_f, R.of_some, truth_bl]
      simp
      rw [lc_free (ds := rows) (e := Rw) fun r => .bl false]
      · simp only [R.bnd_ok, List.length_map, l2, if_true, alloc_f, ev_nil, a1, newR_f, R.of_some, truth_bl]
        simp
        exact shut_nr (by simp; exact nrs_rows)
      · intro r hr
        obtain ⟨h0, h1, h2⟩ := h.row r hr
        have l3 : r.length ≤ sizeLine := by unfold sizeLine; omega
        simp [lcb, Rw]
        rw [lc_free (ds := r) (e := D.str) fun w => .bl false]
        · have a2 : bltV st "any" [.lst (r.map fun r => .bl false)] = some (.bl (r.any fun r => false)) := any_map
          simp only [R.bnd_ok, List.length_map, l3, if_true, alloc_f, ev_nil, a2, newR_f, R.of_some, truth_bl]
          simp
        · intro w hw
          simp [lcb, sp_great (h2 w hw) hm2]
    · intro r hr
      obtain ⟨h0, h1, h2⟩ := h.row r hr
      have l3 : ¬ ((40 : Int) < r.length) := by omega
      simp [lcb, Rw, k_WORDS, l3]
  · intro r hr
    obtain ⟨h0, h1, h2⟩ := h.row r hr
    have ll := line_len ⟨h1, h2⟩
    have s2 := bm_split (st := st) (a := lineOf r) (b := S " ") (x := .str (lineOf r)) (by rw [S_len]; rfl) (by unfold sizeLine; omega)
    rw [split_line h0 h2] at s2
    simp [lcb, s2]
inductive Mods : List Str → List (List Str) → (Int → List D) → Prop
  | nil : Mods [] [] (fun _ => [])
  | cons {nm : Str} {ns : List Str} {w : List (List Str)} {v : Int → D} {ws : List (List Str)} {vs : Int → List D} : Mod nm w v → Mods ns ws vs → Mods (nm :: ns) (w ++ ws) (fun l => v l :: vs (l + w.length))
theorem Mods.nr {ns : List Str} {ws : List (List Str)} {vs : Int → List D} (h : Mods ns ws vs) : ∀ l, D.nrs (vs l) = true := by
  induction h with
  | nil => simp
  | cons h _ ih => intro l; simp [h.nr, ih]
/-- named blocks -/
inductive Bks : List Str → List D → Prop
  | nil : Bks [] []
  | cons {x : Str} {ns : List Str} {v : D} {fs : List D} : Bks ns fs → Bks (x :: ns) (.tup [.str x, v] :: fs)
theorem Bks.app {ns ms : List Str} {fs gs : List D} (h : Bks ns fs) (h2 : Bks ms gs) : Bks (ns ++ ms) (fs ++ gs) := by
  induction h with
  | nil => exact h2
  | cons _ ih => exact .cons ih
theorem lc_names {C : Cf} {sl : Slots} {st : Store} {i j : Nat} {h : Hold} (hi : i < sl.length) (hj : j < sl.length) (ij : i ≠ j) (hh : h.ok st) {ns : List Str} {fs : List D} (hb : Bks ns fs) :
    lcLoop (lcBody C sl [i, j] (.tp (.cons (.nm i) (.cons (.nm j) .nil))) (.con (.bl true)) (.var i)) h fs st = .ok (ns.map .str) st := by
  induction hb with
  | nil => simp only [lcLoop, hh, if_true, List.map_nil]
  | @cons x ns v fs hb ih =>
    have e : lcBody C sl [i, j] (.tp (.cons (.nm i) (.cons (.nm j) .nil))) (.con (.bl true)) (.var i) (.tup [.str x, v]) st = .ok (some (.str x)) st := by
      simp [lcb, hi, hj, List.getElem?_set, ij.symm]
    simp only [lcLoop, hh, if_true, e, ih, List.map_cons]
end
end Fg

set_option maxHeartbeats 4000000
/-! Pr7: whole texts read; the tree's tellers. -/
namespace Fg
open PySem PySem.Spec PyProof.Rows L2 TL
section
variable {L : Nat} {kit : TyK → TyK → Option Bool} {b : Bool}
theorem Mod.val {nm : Str} {w : List (List Str)} {v : Int → D} (h : Mod nm w v) (l : Int) : ∃ x, v l = .tup [.str nm, x] := by
  cases h with
  | mk _ h => exact ⟨_, rfl⟩
theorem Bks.len {ns : List Str} {fs : List D} (h : Bks ns fs) : ns.length = fs.length := by
  induction h with
  | nil => rfl
  | cons _ ih => simp [ih]
theorem loop_read {rows : List (List Str)} (hL : 1000 ≤ L) {m : Nat} (hm : 11 ≤ m) {rest : List (List Str)} {tx : Option D} {ns : List Str} {ws : List (List Str)} {vs : Int → List D} (h : Mods ns ws vs) : ∀ {a : Nat} {pre : List Str} {fs : List D} {k : Nat} {x y : Option D} {st : Store}, rows.drop a = ws ++ rest → Bks pre fs → (pre ++ ns).Nodup → fs.length + ns.length ≤ 1000 →
    ∃ x' y' fs', fs' = fs ++ vs (a + 1) ∧ whlL (whC (cfN tb L con kit m) wc_read_text_0) (evSs (cfN tb L con kit m) wb_read_text_0) (k + ns.length) [tx, some (Rs rows), some (.ref st.length), some (.int a), x, y] (st ++ [.lst fs])
      = whlL (whC (cfN tb L con kit m) wc_read_text_0) (evSs (cfN tb L con kit m) wb_read_text_0) k [tx, some (Rs rows), some (.ref st.length), some (.int (a + ws.length : Nat)), x', y'] (st ++ [.lst fs']) := by
  induction h with
  | nil => intro a pre fs k x y st hr hb hd hl; exact ⟨x, y, fs, by simp, by simp⟩
  | @cons nm ns w v ws vs h hs ih =>
    intro a pre fs k x y st hr hb hd hl
    rw [List.append_assoc] at hr
    have hr2 := drop_next' hr
    have nrv := h.nr (a + 1)
    have hl2 : fs.length < sizeLine := by unfold sizeLine; omega
    have hb2 : Bks (pre ++ [nm]) (fs ++ [v (a + 1)]) := by
      obtain ⟨x, e⟩ := h.val (a + 1)
      rw [e]
      exact hb.app (.cons .nil)
    have hfl : ns.length + 1 = (nm :: ns).length := rfl
    obtain ⟨x', y', fs', ef, ih'⟩ := ih (a := a + w.length) (pre := pre ++ [nm]) (fs := fs ++ [v (a + 1)]) (k := k) (x := some (.str nm)) (y := match v (a + 1) with | .tup [_, z] => some z | _ => none) (st := st) hr2 hb2 (by simpa using hd) (by simp at hl ⊢; omega)
    refine ⟨x', y', fs', ?_, ?_⟩
    · rw [ef, show ((a + w.length : Nat) : Int) + 1 = a + 1 + w.length by omega]; simp
    have hnot : pre.contains nm = false := by
      have := (List.nodup_append.mp hd).2.2
      simpa using fun hm => this nm hm nm (by simp) rfl
    have seqf : seqI (.ref st.length) (st ++ [.lst fs]) = some (fs, .live st.length (.lst fs)) := by
      unfold seqI
      rw [seqOf_ref (xs := fs) (by simp)]
      simp [hold]
    have hpl : pre.length ≤ sizeLine := by rw [hb.len]; unfold sizeLine; omega
    have inq : inD (st ++ [.lst fs]) (.str nm) (.lst (pre.map .str)) = some false := by rw [in_Ls, hnot]
    cases h with
    | @mk q iws ivs h1 h2 h3 =>
      have hr' : rows.drop a = [S "module", nm] :: (iws ++ [S "end", S "module"] :: (ws ++ rest)) := by rw [hr]; simp
      have g := drop_at hr'
      have lt := drop_lt hr'
      have hn1 := h1.1
      have qq : cmpV (st ++ [.lst fs]) .NotEq (Rw [S "module", nm]) (.lst [.str (Str.ofString "end"), .str (Str.ofString "book")]) = some true := by
        rw [cmp_neW (by simp [hn1]) (by simp)]
        simp
      have e1 := sp_module (kit := kit) h1 h2 h3 hr' hL hm (st := st ++ [.lst fs])
      have c1 : (a : Int) + 1 + 1 = a + 2 := by omega
      have ap := bm_append (st := st ++ [.lst fs]) (n := st.length) (xs := fs) (y := .tup [.str nm, .tup (ivs (a + 2))]) (c := false) (by simp) hl2
      have c2 : a + ([S "module", nm] :: (iws ++ [[S "end", S "module"]])).length = a + iws.length + 2 := by simp; omega
      rw [c2] at ih'
      rw [List.length_append, ← Nat.add_assoc, c2]
      simp only [c1] at ih'
      generalize hz : a + iws.length + 2 = z at *
      have ln := fun st' (hh : (Hold.live st.length (.lst fs)).ok st') => lc_names (C := cfN tb L con kit m) (sl := [tx, some (Rs rows), some (.ref st.length), some (.int a), x, y]) (i := 4) (j := 5) (st := st') (by simp) (by simp) (by decide) hh hb
      have ln' := ln (st ++ [.lst fs]) (by simp)
      rw [show k + (nm :: ns).length = (k + ns.length) + 1 by simp; omega, whl_go (st' := st ++ [.lst (fs ++ [.tup [.str nm, .tup (ivs (a + 2))]])]) (sl' := [tx, some (Rs rows), some (.ref st.length), some (.int z), some (.str nm), some (.tup (ivs (a + 2)))]) (by simp [whC, wc_read_text_0, lt, g, qq]) (by
        simp [wb_read_text_0, g, seqf, ln', hpl, inq, e1, ap])]
      rw [ih']
theorem sp_tree_init {x y : D} {st : Store} {n : Nat} (hn : 1 ≤ n) : callN tb L con kit n "Tree" "__init__" [.ref st.length, x, y] (st ++ [.obj "Tree" []]) = .ok .non (st ++ [.obj "Tree" [("called", x), ("blocks", y)]]) := by
  obtain ⟨m, rfl, e0⟩ := callN_at (n := n) (L := L) (con := con) (kit := kit) (st := st ++ [.obj "Tree" []]) t_Tree_init (ds := [.ref st.length, x, y]) rfl (by omega)
  rw [e0]
  clear e0
  simp [d_Tree_init, fldS, putA]
theorem sp_read_text {rows ws : List (List Str)} {bn : Str} {ns : List Str} {vs : Int → List D} (hb : NmOk bn) (hm0 : Mods ns ws vs) (hd : ns.Nodup) (hl : ns.length ≤ 300) (e : rows = [S "book", bn] :: (ws ++ [[S "end", S "book"]])) (ht : TxtOk rows) (hL : 1000 ≤ L) {n : Nat} (hn : 12 ≤ n) {st : Store} :
    shut st (callN tb L con kit n "" "read_text" [.str (textOf rows)] st) = .ok (.obj "Tree" [("called", .str bn), ("blocks", .lst (vs 2))]) st := by
  obtain ⟨m, rfl, e0⟩ := callN_at (n := n) (L := L) (con := con) (kit := kit) (st := st) t_read_text (ds := [.str (textOf rows)]) rfl (by omega)
  rw [e0]
  clear e0
  have hm : 11 ≤ m := by omega
  have hm4 : 4 ≤ m := by omega
  have e1 := sp_rows_of (L := L) (kit := kit) ht (n := m) (by omega) (st := st)
  have hr : rows.drop 1 = ws ++ [[S "end", S "book"]] := by rw [e]; rfl
  have g0 : rows[0]? = some [S "book", bn] := by rw [e]; rfl
  obtain ⟨k, hk⟩ : ∃ k, L = (k + 1) + ns.length := ⟨L - 1 - ns.length, by omega⟩
  obtain ⟨x', y', fs', ef, h1⟩ := loop_read (L := L) (kit := kit) hL hm (tx := some (.str (textOf rows))) hm0 (a := 1) (pre := []) (fs := []) (k := k + 1) (x := none) (y := none) (st := st) hr .nil (by simpa using hd) (by simp; omega)
  rw [← hk] at h1
  have ef' : fs' = vs 2 := by rw [ef]; rfl
  subst ef'
  have hr2 := drop_next' hr
  have hlen : rows.length = 1 + ws.length + 1 := by rw [e]; simp; omega
  generalize hz : 1 + ws.length = z at *
  have g2 := drop_at hr2
  have lt2 := drop_lt hr2
  have q : cmpV (st ++ [.lst (vs 2)]) .NotEq (Rw [S "end", S "book"]) (.lst [.str (Str.ofString "end"), .str (Str.ofString "book")]) = some false := by
    rw [cmp_neW (by simp) (by simp)]; simp
  rw [whl_end (by simp [whC, wc_read_text_0, lt2, g2, q])] at h1
  have nrv := hm0.nr 2
  have hb1 := hb.1
  have hb2 := hb.2
  have lt3 : ¬ ((rows.length : Int) ≤ z) := by omega
  have lt4 : ¬ ((z : Int) + 1 < rows.length) := by omega
  have i1 := sp_tree_init (L := L) (kit := kit) (x := .str bn) (y := .ref st.length) (st := st ++ [.lst (vs 2)]) (n := m) (by omega)
  have m1 : shut (st ++ [.lst (vs 2)]) (makeR (cfN tb L con kit m) "Tree" [.str bn, .ref st.length] (st ++ [.lst (vs 2)])) = .ok (.obj "Tree" [("called", .str bn), ("blocks", .ref st.length)]) (st ++ [.lst (vs 2)]) := by
    unfold makeR
    simp only [cfN_call]
    rw [i1, R.bind_ok, shut_ok rfl .rfl]
    simp [D.sub, D.subF, shutG]
  have m2 : shut st (.ok (.obj "Tree" [("called", .str bn), ("blocks", .ref st.length)]) (st ++ [.lst (vs 2)])) = .ok (.obj "Tree" [("called", .str bn), ("blocks", .lst (vs 2))]) st := by
    rw [shut_ok rfl .rfl]
    simp [D.sub, D.subF, shutG]
    exact sub_nr.subs_nr _ nrv
  simp at h1
  simp [d_read_text, e1, g0, sp_fitsD hm4, hb1, hb2]
  rw [h1]
  simp [lt3, lt4, g0, m1, m2]
end
end Fg

set_option maxHeartbeats 4000000
/-! Pv: rows written. -/
namespace Fg
open PySem PySem.Spec PyProof.Rows L2 TL
def LC {α : Type} (r : R (Option D)) (k : Store → R (List D)) (t : Tg k := ⟨⟩) : R (List D) := match r with
  | .ok o st1 => (match k st1 with | .ok r st2 => .ok (match o with | some x => x :: r | none => r) st2 | _ => .no)
  | _ => .no
def LC2 (o : Option D) (r : R (List D)) : R (List D) := match r with | .ok r st2 => .ok (match o with | some x => x :: r | none => r) st2 | _ => .no
@[simp] theorem LC_ok {o : Option D} {st : Store} {k : Store → R (List D)} {t : Tg k} : LC (α := Unit) (.ok o st) k t = LC2 o (k st) := rfl
@[simp] theorem LC2_some {x : D} {r : List D} {st : Store} : LC2 (some x) (.ok r st) = .ok (x :: r) st := rfl
theorem lcLoop_cons {f : D → Store → R (Option D)} {d : D} {ds : List D} {st : Store} : lcLoop f .free (d :: ds) st = LC (α := Unit) (f d st) (lcLoop f .free ds) := by
  simp only [lcLoop, Hold.free_ok, if_true]; rfl
theorem lcLoop_nil {f : D → Store → R (Option D)} {st : Store} : lcLoop f .free [] st = .ok [] st := by
  simp only [lcLoop, Hold.free_ok, if_true]
def strD : D → Str
  | .str x => x | _ => Str.empty
@[simp] theorem strD_str {x : Str} : strD (.str x) = x := rfl
@[simp] theorem strD_map {ws : List Str} : (ws.map D.str).map strD = ws := by
  rw [List.map_map]; exact List.map_id' ws
theorem sum_le {M : Nat} : ∀ {ws : List Str}, (∀ w ∈ ws, w.length ≤ M) → (ws.map (·.length)).sum ≤ ws.length * M
  | [], _ => by simp
  | w :: ws, h => by
    have := sum_le (ws := ws) fun v hv => h v (by simp [hv])
    have := h w (by simp)
    simp only [List.map_cons, List.sum_cons, List.length_cons, Nat.succ_mul]
    omega
theorem bm_joinW {xs : List D} {b : D} {x : D} {st : Store} (hb : seqOf st b = some xs) (h : okW xs) (hl : xs.length ≤ 1000) : bmR "join" false x st (bmV st "join" (.str (Str.ofString " ")) [b]) = .ok (.str (lineOf (xs.map strD))) st := by
  obtain ⟨ws, rfl, hw⟩ := okW_strs h
  rw [strD_map]
  refine bm_join hb ?_
  have h1 := sum_le (ws := ws) (M := 100) fun w hw' => (hw w hw').l100
  have e : (Str.ofString " ").length = 1 := S_len " "
  rw [e]
  simp at hl
  omega
theorem app_assoc (x y z : Str) : x ++ y ++ z = x ++ (y ++ z) := ext_tl (by rw [tl_append, tl_append, tl_append, tl_append, List.append_assoc])
theorem S_app (a b : String) : S (a ++ b) = S a ++ S b := ext_tl (by rw [tl_append, tl_ofString, tl_ofString, tl_ofString, String.toList_append, List.map_append])
theorem S_cat {a b c : String} (h : a ++ b = c) : S c = S a ++ S b := by rw [← h, S_app]
theorem line_one {a : Str} : lineOf [a] = a := by unfold lineOf; rw [join_eq]; rfl
theorem line_cons {a b : Str} {r : List Str} : lineOf (a :: b :: r) = a ++ (S " " ++ lineOf (b :: r)) := by
  unfold lineOf; rw [join_eq, join_eq, ← app_assoc]; rfl
theorem line_cons' {a : Str} {r : List Str} (h : r ≠ []) : lineOf (a :: r) = a ++ (S " " ++ lineOf r) := by
  cases r with
  | nil => exact absurd rfl h
  | cons b r => exact line_cons
theorem empty_app (x : Str) : Str.empty ++ x = x := ext_tl (by rw [tl_append]; rfl)
theorem nm_str {a : Nat} (h : NumOk a) {st : Store} : bltV st "str" [.int (a : Int)] = some (.str (Nm a)) := by
  refine str_int ?_
  have h1 : a ≤ 10 ^ 30 := h
  have h2 : a < 2 ^ 1920 := Nat.lt_of_le_of_lt h1 (by decide +kernel)
  rw [Int.natAbs_natCast]
  by_cases h0 : a = 0
  · subst h0; decide
  · exact (Nat.log2_lt h0).mpr h2
theorem wd_str {x : Str} (h : Wd x) {st : Store} : bltV st "str" [.str x] = some (.str x) := str_str h.le'
section
variable {L : Nat} {kit : TyK → TyK → Option Bool} {b : Bool}
theorem wd_mw : Wd (Str.ofString "more want") := wd_lit (by decide)
theorem wd_ms : Wd (Str.ofString "more seat") := wd_lit (by decide)
theorem sp_claim_line {w : List Str} {v : Int → D} (h : ClmRow w v) {l : Int} {n : Nat} (hn : 1 ≤ n) {st : Store} : callN tb L con kit n "" "claim_line_of" [v l] st = .ok (.str (lineOf w)) st := by
  obtain ⟨m, rfl, e⟩ := callN_at (n := n) (L := L) (con := con) (kit := kit) (st := st) t_claim_line_of (ds := [v l]) rfl (by omega)
  rw [e]
  clear e
  have m1 : Str.ofString "more want" = S "more" ++ S " " ++ S "want" := by show S "more want" = _; rw [S_cat (show "more " ++ "want" = "more want" by decide), S_cat (show "more" ++ " " = "more " by decide)]
  have m2 : Str.ofString "more seat" = S "more" ++ S " " ++ S "seat" := by show S "more seat" = _; rw [S_cat (show "more " ++ "seat" = "more seat" by decide), S_cat (show "more" ++ " " = "more " by decide)]
  cases h with
  | cnt h =>
    cases h with
    | want h1 h2 => simp [d_claim_line_of, lcLoop_cons, lcLoop_nil, lcb, wd_str h1.1, nm_str h2, add_lst, bm_joinW, h1.1, nm_wd h2]
    | seat h1 h2 => simp [d_claim_line_of, lcLoop_cons, lcLoop_nil, lcb, wd_str h1.1, nm_str h2, add_lst, bm_joinW, h1.1, nm_wd h2]
  | mwant h1 h2 =>
    simp [d_claim_line_of, lcLoop_cons, lcLoop_nil, lcb, wd_str h1.1, nm_str h2, add_lst, bm_joinW, h1.1, nm_wd h2, wd_mw]
    simp only [line_cons, line_one, m1, app_assoc]
  | mseat h1 h2 =>
    simp [d_claim_line_of, lcLoop_cons, lcLoop_nil, lcb, wd_str h1.1, nm_str h2, add_lst, bm_joinW, h1.1, nm_wd h2, wd_ms]
    simp only [line_cons, line_one, m2, app_assoc]
  | within h2 => simp [d_claim_line_of, lcLoop_cons, lcLoop_nil, lcb, nm_str h2, add_lst, bm_joinW, nm_wd h2]
  | shares h2 => simp [d_claim_line_of, lcLoop_cons, lcLoop_nil, lcb, nm_str h2, add_lst, bm_joinW, nm_wd h2]
  | wires h1 h2 => simp [d_claim_line_of, lcLoop_cons, lcLoop_nil, lcb, wd_str h1.1, nm_str h2, add_lst, bm_joinW, h1.1, nm_wd h2]
theorem sp_port_words {xs : List D} (h : okW xs) (hl : xs.length ≤ 1000) {n : Nat} (hn : 1 ≤ n) {st : Store} : callN tb L con kit n "" "port_words" [.tup xs] st = .ok (.str (lineOf (xs.map strD))) st := by
  obtain ⟨m, rfl, e⟩ := callN_at (n := n) (L := L) (con := con) (kit := kit) (st := st) t_port_words (ds := [.tup xs]) rfl (by omega)
  rw [e]
  clear e
  simp [d_port_words, bm_joinW (seqOf_tup (xs := xs)) h hl]
theorem InP.port {ws : List Str} {v : D} (h : InP b ws v) : v = .tup (ws.map .str) := by cases h <;> rfl
theorem OutP.port {ws : List Str} {v : D} (h : OutP b ws v) : v = .tup (ws.map .str) := by cases h <;> rfl
theorem InP.ne {ws : List Str} {v : D} (h : InP b ws v) : ws ≠ [] := by cases h <;> simp
theorem OutP.ne {ws : List Str} {v : D} (h : OutP b ws v) : ws ≠ [] := by cases h <;> simp
theorem line_app {x y : List Str} (hx : x ≠ []) (hy : y ≠ []) : lineOf (x ++ y) = lineOf x ++ (S " " ++ lineOf y) := by
  induction x with
  | nil => exact absurd rfl hx
  | cons a x ih =>
    cases x with
    | nil =>
      cases y with
      | nil => exact absurd rfl hy
      | cons c y => rw [List.singleton_append, line_cons, line_one]
    | cons a2 x =>
      have := ih (by simp)
      rw [List.cons_append, List.cons_append, line_cons, ← List.cons_append, this, line_cons, app_assoc, app_assoc]
/-- parts of a written line, each a text -/
theorem evJ_all {C : Cf} {σ : Slots} : ∀ {es : IEs} {acc : Str} {st st' : Store} {ys : List Str}, evEs C σ es st = .ok (ys.map .str) st' → acc.length + (ys.map (·.length)).sum ≤ sizeLine → evJ C σ es acc st = .ok (ys.foldl (· ++ ·) acc) st'
  | .nil, acc, st, st', ys, h, hl => by
    simp at h
    obtain ⟨h1, h2⟩ := h
    cases ys with
    | nil => subst h2; simp
    | cons _ _ => simp at h1
  | .cons e es, acc, st, st', ys, h, hl => by
    rw [ev_cons] at h
    cases he : (evX C σ e).v st with
    | ok x st1 =>
      rw [he, R.bnd_ok] at h
      cases hs : evEs C σ es st1 with
      | ok xs st2 =>
        rw [hs, R.bnd_ok] at h
        injection h with h1 h2
        subst h2
        cases ys with
        | nil => simp at h1
        | cons y ys =>
          simp only [List.map_cons, List.cons.injEq] at h1
          obtain ⟨rfl, rfl⟩ := h1
          simp only [List.map_cons, List.sum_cons] at hl
          rw [ev_Jcons, he, R.bnd_ok]
          show (if (acc ++ y).length ≤ sizeLine then _ else _) = _
          rw [if_pos (by rw [len_app]; omega), evJ_all hs (by rw [len_app]; omega)]
          rfl
      | exc x st => rw [hs] at h; cases h
      | no => rw [hs] at h; cases h
    | exc x st => rw [he] at h; cases h
    | no => rw [he] at h; cases h
theorem sp_line_row {w : List Str} {v : Int → D} (h : PRow b w v) {l : Int} {n : Nat} (hn : 2 ≤ n) {st : Store} : callN tb L con kit n "" "proof_line_of" [v l] st = .ok (.str (lineOf w)) st := by
  obtain ⟨m, rfl, e⟩ := callN_at (n := n) (L := L) (con := con) (kit := kit) (st := st) t_proof_line_of (ds := [v l]) rfl (by omega)
  rw [e]
  clear e
  have s1 : Str.ofString "lanes " = S "lanes" ++ S " " := S_cat (by decide)
  have s2 : Str.ofString "at " = S "at" ++ S " " := S_cat (by decide)
  have s3 : Str.ofString " to " = S " " ++ (S "to" ++ S " ") := by show S " to " = _; rw [S_cat (show " " ++ "to " = " to " by decide), S_cat (show "to" ++ " " = "to " by decide)]
  cases h with
  | @lanesQ r h1 =>
    have a1 := add_str (x := Str.ofString "lanes ") (y := r) (by have := h1.1.1; rw [S_len]; show 6 + _ ≤ _; unfold sizeLine; omega)
    have a2 := add_str (x := Str.ofString "lanes " ++ r) (y := Str.ofString " ") (by have := h1.1.1; rw [len_app, S_len, S_len]; show 6 + _ + 1 ≤ _; unfold sizeLine; omega)
    have a3 := add_str (x := Str.ofString "lanes " ++ r ++ Str.ofString " ") (y := Str.ofString "?") (by have := h1.1.1; rw [len_app, len_app, S_len, S_len, S_len]; show 6 + _ + 1 + 1 ≤ _; unfold sizeLine; omega)
    simp [d_proof_line_of, a1, a2, a3]
    simp only [line_cons, line_one, s1, app_assoc]
  | @lanes r a h1 h2 =>
    have a1 := add_str (x := Str.ofString "lanes ") (y := r) (by have := h1.1.1; rw [S_len]; show 6 + _ ≤ _; unfold sizeLine; omega)
    have a2 := add_str (x := Str.ofString "lanes " ++ r) (y := Str.ofString " ") (by have := h1.1.1; rw [len_app, S_len, S_len]; show 6 + _ + 1 ≤ _; unfold sizeLine; omega)
    have a3 := add_str (x := Str.ofString "lanes " ++ r ++ Str.ofString " ") (y := Nm a) (by have := h1.1.1; have := nm_len h2; rw [len_app, len_app, S_len, S_len]; show 6 + _ + 1 + _ ≤ _; unfold sizeLine; omega)
    simp [d_proof_line_of, a1, a2, a3, nm_str h2]
    simp only [line_cons, line_one, s1, app_assoc]
  | @at_ iw ow iv ov r a c d h1 hi ho h2 h3 h4 =>
    have e1 := sp_port_words (L := L) (kit := kit) (xs := iw.map .str) (by simpa using hi.wd) (by have := hi.len; simp; omega) (n := m) (by omega) (st := st)
    have e2 := sp_port_words (L := L) (kit := kit) (xs := ow.map .str) (by simpa using ho.wd) (by have := ho.len; simp; omega) (n := m) (by omega) (st := st)
    rw [strD_map] at e1 e2
    have hiv := hi.port
    have hov := ho.port
    subst hiv hov
    have li := line_len (r := iw)
    have w1 := h1.1
    have li : (lineOf iw).length ≤ 300 := by
      have := join_len (S " ") 100 (ps := iw) fun p hp => (hi.wd p hp).l100
      have e : (S " ").length = 1 := S_len " "
      unfold lineOf
      rw [e] at this
      have : iw.length * (100 + 1) ≤ 2 * (100 + 1) := Nat.mul_le_mul_right _ hi.len
      omega
    have lo : (lineOf ow).length ≤ 300 := by
      have := join_len (S " ") 100 (ps := ow) fun p hp => (ho.wd p hp).l100
      have e : (S " ").length = 1 := S_len " "
      unfold lineOf
      rw [e] at this
      have : ow.length * (100 + 1) ≤ 2 * (100 + 1) := Nat.mul_le_mul_right _ ho.len
      omega
    have t1 := str_str (x := lineOf iw) (st := st) (by unfold sizeLine; omega)
    have t2 := str_str (x := lineOf ow) (st := st) (by unfold sizeLine; omega)
    simp [d_proof_line_of, -ev_Jcons, -ev_Jnil]
    rw [evJ_all (ys := [S "at ", r, S " ", lineOf iw, S " ", Nm a, S " ", Nm c, S " to ", lineOf ow, S " ", Nm d]) (st' := st)]
    · simp
      simp only [empty_app, s2, s3, app_assoc]
      rw [line_cons]
      have hne := hi.ne
      have hno := ho.ne
      rw [show r :: (iw ++ (Nm a :: Nm c :: S "to" :: (ow ++ [Nm d]))) = [r] ++ (iw ++ (Nm a :: Nm c :: S "to" :: (ow ++ [Nm d]))) from rfl, line_app (by simp) (by simp), line_one, line_app hne (by simp), line_cons, line_cons]
      rw [show (S "to" :: (ow ++ [Nm d])) = [S "to"] ++ (ow ++ [Nm d]) from rfl, line_app (by simp) (by simp), line_one, line_app hno (by simp), line_one]
    · simp [wd_str w1, e1, e2, t1, t2, nm_str, h2, h3, h4]
    · have := w1.1
      have := nm_len h2
      have := nm_len h3
      have := nm_len h4
      have e1 : (S " ").length = 1 := S_len " "
      have e2 : (S "at ").length = 3 := S_len "at "
      have e3 : (S " to ").length = 4 := S_len " to "
      have e4 : Str.empty.length = 0 := rfl
      simp only [List.map_cons, List.map_nil, List.sum_cons, List.sum_nil, e1, e2, e3, e4]
      unfold sizeLine
      omega
theorem okW_Wd {ws : List Str} (h : ∀ w ∈ ws, Wd w) : okW (ws.map .str) := okW_map.mpr h
theorem sp_line_by {w : List Str} {v : Int → D} (h : ByRow w v) {l : Int} {n : Nat} (hn : 2 ≤ n) {st : Store} : callN tb L con kit n "" "proof_line_of" [v l] st = .ok (.str (lineOf w)) st := by
  obtain ⟨m, rfl, e⟩ := callN_at (n := n) (L := L) (con := con) (kit := kit) (st := st) t_proof_line_of (ds := [v l]) rfl (by omega)
  rw [e]
  clear e
  have s1 : S "by " = S "by" ++ S " " := S_cat (by decide)
  cases h with
  | @mk r ks ns h1 h2 h3 h4 h5 h6 h7 =>
    have w1 : ∀ k ∈ ks, Wd k := fun k h => (h3 k h).1
    have w2 : ∀ k ∈ ns, Wd k := fun k h => (h4 k h).1
    have a1 := add_lst (xs := [.str r]) (ys := ks.map .str) (by simp; unfold sizeLine; omega)
    have a2 := add_lst (xs := [.str r] ++ ks.map .str) (ys := [.str (S "with")]) (by simp; unfold sizeLine; omega)
    have a3 := add_lst (xs := [.str r] ++ ks.map .str ++ [.str (S "with")]) (ys := ns.map .str) (by simp; unfold sizeLine; omega)
    have j := bm_joinW (st := st) (x := .str (S " ")) (xs := (r :: (ks ++ (S "with" :: ns))).map .str) (b := .lst ((r :: (ks ++ (S "with" :: ns))).map .str)) rfl (okW_Wd (by
      intro x hx
      simp only [List.mem_cons, List.mem_append] at hx
      rcases hx with rfl | hx | rfl | hx
      · exact h2
      · exact w1 _ hx
      · simp
      · exact w2 _ hx)) (by simp; omega)
    rw [strD_map] at j
    have ll := join_len (S " ") 100 (ps := r :: (ks ++ (S "with" :: ns))) (by
      intro x hx
      simp only [List.mem_cons, List.mem_append] at hx
      rcases hx with rfl | hx | rfl | hx
      · exact h2.l100
      · exact (w1 _ hx).l100
      · rw [S_len]; decide
      · exact (w2 _ hx).l100)
    have e0 : (S " ").length = 1 := S_len " "
    rw [e0] at ll
    simp only [List.length_cons, List.length_append] at ll
    have a4 := add_str (x := S "by ") (y := lineOf (r :: (ks ++ (S "with" :: ns)))) (by
      have e1 : (S "by ").length = 3 := S_len "by "
      rw [e1]; unfold lineOf; unfold sizeLine
      have : (ks.length + (ns.length + 1) + 1) * (100 + 1) ≤ 100 * 101 := Nat.mul_le_mul_right _ (by omega)
      omega)
    simp at a1 a2 a3 j a4
    simp [d_proof_line_of, a1, a2, a3, j, a4]
    rw [line_cons' (a := S "by") (by simp), s1, app_assoc]
end
end Fg

set_option maxHeartbeats 4000000
/-! Pv2: items and texts written. -/
namespace Fg
open PySem PySem.Spec PyProof.Rows L2 TL
inductive F2 {α β : Type} (P : α → β → Prop) : List α → List β → Prop
  | nil : F2 P [] []
  | cons {x : α} {y : β} {xs : List α} {ys : List β} : P x y → F2 P xs ys → F2 P (x :: xs) (y :: ys)
theorem F2.app {α β : Type} {P : α → β → Prop} {xs xs' : List α} {ys ys' : List β} (h : F2 P xs ys) (h2 : F2 P xs' ys') : F2 P (xs ++ xs') (ys ++ ys') := by
  induction h with
  | nil => exact h2
  | cons a _ ih => exact .cons a ih
theorem F2.imp {α β : Type} {P Q : α → β → Prop} (hpq : ∀ x y, P x y → Q x y) {xs : List α} {ys : List β} (h : F2 P xs ys) : F2 Q xs ys := by
  induction h with
  | nil => exact .nil
  | cons a _ ih => exact .cons (hpq _ _ a) ih
theorem F2.len {α β : Type} {P : α → β → Prop} {xs : List α} {ys : List β} (h : F2 P xs ys) : xs.length = ys.length := by
  induction h with
  | nil => rfl
  | cons _ _ ih => simp [ih]
theorem lc_f2 {f : D → Store → R (Option D)} {st : Store} {ds ys : List D} (h : F2 (fun d y => f d st = .ok (some y) st) ds ys) : lcLoop f .free ds st = .ok ys st := by
  induction h with
  | nil => exact lcLoop_nil
  | cons a _ ih => rw [lcLoop_cons, a, LC_ok, ih, LC2_some]
/-- the lines of rows -/
def Lns (rows : List (List Str)) : List D := (rows.map lineOf).map .str
@[simp] theorem Lns_nil : Lns [] = [] := rfl
@[simp] theorem Lns_cons {w : List Str} {ws : List (List Str)} : Lns (w :: ws) = .str (lineOf w) :: Lns ws := rfl
@[simp] theorem Lns_app {ws vs : List (List Str)} : Lns (ws ++ vs) = Lns ws ++ Lns vs := by simp [Lns]
@[simp] theorem Lns_len {ws : List (List Str)} : (Lns ws).length = ws.length := by simp [Lns]
@[simp] theorem nrs_Lns {ws : List (List Str)} : D.nrs (Lns ws) = true := by unfold Lns; exact nr_strs
/-- lines and rows by a writer of one row -/
def LinF (f : D → Store → R D) (n : Nat) (d y : D) : Prop := ∀ st, f d st = .ok y st
section
variable {L : Nat} {kit : TyK → TyK → Option Bool} {b : Bool}
theorem add_kw {k c : String} (h : k ++ " " = c) (hk : k.length ≤ 20) {x : Str} (hx : Wd x) : binV .Add (.str (Str.ofString c)) (.str x) = some (.str (lineOf [S k, x])) := by
  rw [add_str]
  · rw [line_cons, line_one, ← app_assoc]
    congr 3
    exact S_cat h
  · have e : (Str.ofString c).length = k.length + 1 := by
      have := S_len c
      rw [show (Str.ofString c).length = c.length from this, ← h, String.length_append]; rfl
    have := hx.1
    rw [e]; unfold sizeLine; omega
theorem rows_f2 {P : List Str → (Int → D) → Prop} {Q : D → D → Prop} (hp : ∀ w v l, P w v → Q (v l) (.str (lineOf w))) {ws : List (List Str)} {vs : Int → List D} (h : Rows P ws vs) : ∀ l, F2 Q (vs l) (Lns ws) := by
  induction h with
  | nil => intro l; exact .nil
  | cons h _ ih => intro l; exact .cons (hp _ _ _ h) (ih _)
theorem prows_f2 {Q : D → D → Prop} (hp : ∀ w v l, PRow b w v → Q (v l) (.str (lineOf w))) {ws : List (List Str)} {vs : Int → List D} (h : PRows b ws vs) : ∀ l, F2 Q (vs l) (Lns ws) := by
  induction h with
  | nil => intro l; exact .nil
  | cons h _ ih => intro l; exact .cons (hp _ _ _ h) (ih _)
theorem sp_line_word {x : String} (h1 : x ≠ "lanes") (h2 : x ≠ "at") (h3 : x ≠ "by") {l : Int} {n : Nat} (hn : 2 ≤ n) {st : Store} : callN tb L con kit n "" "proof_line_of" [.tup [.str (S x), .int l]] st = .ok (.str (lineOf [S x])) st := by
  obtain ⟨m, rfl, e⟩ := callN_at (n := n) (L := L) (con := con) (kit := kit) (st := st) t_proof_line_of (ds := [.tup [.str (S x), .int l]]) rfl (by omega)
  rw [e]
  clear e
  simp [d_proof_line_of, h1, h2, h3, line_one]
def WL (L : Nat) (kit : TyK → TyK → Option Bool) (n : Nat) (f : String) (d y : D) : Prop := ∃ x, y = .str x ∧ ∀ st, callN tb L con kit n "" f [d] st = .ok (.str x) st
theorem body_f2 {n : Nat} (hn : 2 ≤ n) {ws : List (List Str)} {vs : Int → List D} (h : Body b ws vs) (l : Int) : F2 (WL L kit n "proof_line_of") (vs l) (Lns ws) := by
  cases h with
  | search => exact .cons ⟨_, rfl, fun st => sp_line_word (by decide) (by decide) (by decide) hn⟩ .nil
  | by_ _ h => exact .cons ⟨_, rfl, fun st => sp_line_by h hn⟩ .nil
  | rows h => exact prows_f2 (fun w v l h => ⟨_, rfl, fun st => sp_line_row h hn⟩) h l
  | rest h =>
    rw [Lns_app]
    exact (prows_f2 (fun w v l h => ⟨_, rfl, fun st => sp_line_row h hn⟩) h l).app (.cons ⟨_, rfl, fun st => sp_line_word (by decide) (by decide) (by decide) hn⟩ .nil)
theorem Body.len {ws : List (List Str)} {vs : Int → List D} (h : Body b ws vs) : ws.length ≤ 501 := by
  cases h with
  | search => simp
  | by_ => simp
  | rows h hl => omega
  | rest h hl => simp; omega
theorem sp_proof_lines {n : Nat} (hn : 3 ≤ n) {ws : List (List Str)} {vs : Int → List D} (h : Body b ws vs) {l : Int} {st : Store} : callN tb L con kit n "" "proof_lines" [.tup (vs l)] st = .ok (.lst (Lns ws)) st := by
  obtain ⟨m, rfl, e⟩ := callN_at (n := n) (L := L) (con := con) (kit := kit) (st := st) t_proof_lines (ds := [.tup (vs l)]) rfl (by omega)
  rw [e]
  clear e
  have hl := h.len
  simp [d_proof_lines]
  rw [lc_f2 (ys := Lns ws) ((body_f2 (L := L) (kit := kit) (n := m) (by omega) h l).imp fun d y hy => ?_)]
  · have : ws.length ≤ sizeLine := by unfold sizeLine; omega
    simp [this]
  · obtain ⟨x, rfl, hy⟩ := hy
    simp [lcb, hy]
theorem sp_kind_lines {nm : Str} (hn0 : NmOk nm) {ws : List (List Str)} {vs : Int → List D} (h : Rows (PortRow b) ws vs) (hl : ws.length ≤ 500) {l l2 : Int} {n : Nat} (hn : 1 ≤ n) {st : Store} :
    callN tb L con kit n "" "kind_lines" [.tup [.str (S "kind"), .int l, .str nm, .tup (vs l2)]] st = .ok (.lst (Lns ([S "kind", nm] :: (ws ++ [[S "end", S "kind"]])))) st := by
  obtain ⟨m, rfl, e⟩ := callN_at (n := n) (L := L) (con := con) (kit := kit) (st := st) t_kind_lines (ds := [.tup [.str (S "kind"), .int l, .str nm, .tup (vs l2)]]) rfl (by omega)
  rw [e]
  clear e
  have k1 := add_kw (k := "kind") (c := "kind ") (by decide) (by decide) hn0.1
  have k2 : S "end kind" = lineOf [S "end", S "kind"] := by
    rw [line_cons, line_one, ← app_assoc, ← S_app, ← S_app]; congr 1
  have b1 := add_lst (xs := [.str (lineOf [S "kind", nm])]) (ys := Lns ws) (by simp; unfold sizeLine; omega)
  have b2 := add_lst (xs := [.str (lineOf [S "kind", nm])] ++ Lns ws) (ys := [.str (S "end kind")]) (by simp; unfold sizeLine; omega)
  have F : F2 (fun d y => lcBody (cfN tb L con kit m) [some (.tup [.str (S "kind"), .int l, .str nm, .tup (vs l2)]), none, none, none, none, none] [2, 3, 4, 5] (.tp (.cons (.nm 2) (.cons (.nm 3) (.cons (.nm 4) (.cons (.nm 5) .nil))))) (.con (.bl true)) (.bin false .Add (.bin false .Add (.bin false .Add (.bin false .Add (.var 2) (.con (.str (Str.ofString " ")))) (.var 4)) (.con (.str (Str.ofString " ")))) (.var 5)) d st = .ok (some y) st) (vs l2) (Lns ws) := by
    refine rows_f2 (fun w v l h => ?_) h l2
    have key : ∀ (k : String) (p r : Str), k.length ≤ 10 → Wd p → Wd r → lcBody (cfN tb L con kit m) [some (.tup [.str (S "kind"), .int l, .str nm, .tup (vs l2)]), none, none, none, none, none] [2, 3, 4, 5] (.tp (.cons (.nm 2) (.cons (.nm 3) (.cons (.nm 4) (.cons (.nm 5) .nil))))) (.con (.bl true)) (.bin false .Add (.bin false .Add (.bin false .Add (.bin false .Add (.var 2) (.con (.str (Str.ofString " ")))) (.var 4)) (.con (.str (Str.ofString " ")))) (.var 5)) (.tup [.str (S k), .int l, .str p, .str r]) st = .ok (some (.str (lineOf [S k, p, r]))) st := by
      intro k p r hk hp hr
      have e0 : (S " ").length = 1 := S_len " "
      have e1 := S_len k
      have hp := hp.1
      have hr := hr.1
      have a1 := add_str (x := S k) (y := S " ") (by rw [e0, e1]; unfold sizeLine; omega)
      have a2 := add_str (x := S k ++ S " ") (y := p) (by rw [len_app, e0, e1]; unfold sizeLine; omega)
      have a3 := add_str (x := S k ++ S " " ++ p) (y := S " ") (by rw [len_app, len_app, e0, e1]; unfold sizeLine; omega)
      have a4 := add_str (x := S k ++ S " " ++ p ++ S " ") (y := r) (by rw [len_app, len_app, len_app, e0, e1]; unfold sizeLine; omega)
      simp [lcb, a1, a2, a3, a4]
      simp only [line_cons, line_one, app_assoc]
    cases h with
    | plug h1 h2 => exact key "plug" _ _ (by decide) h1.1 h2.1
    | sock h1 h2 => exact key "socket" _ _ (by decide) h1.1 h2.1
  have ll : ws.length ≤ sizeLine := by unfold sizeLine; omega
  rw [k2] at b2
  simp at b1 b2
  simp [d_kind_lines]
  rw [lc_f2 F]
  have k2' : Str.ofString "end kind" = lineOf [S "end", S "kind"] := k2
  simp [ll, k1, k2', b1, b2]
theorem end_line {k c : String} (h : "end " ++ k = c) : Str.ofString c = lineOf [S "end", S k] := by
  rw [line_cons, line_one, ← app_assoc, ← S_app, ← S_app]
  show S c = S ("end" ++ " " ++ k)
  rw [show "end" ++ " " = "end " by decide, h]
theorem sp_line_lines {w : List Str} {v : Int → D} (h : Line w v) {l : Int} {n : Nat} (hn : 1 ≤ n) {st : Store} : callN tb L con kit n "" "item_lines" [v l] st = .ok (.lst (Lns [w])) st := by
  obtain ⟨m, rfl, e⟩ := callN_at (n := n) (L := L) (con := con) (kit := kit) (st := st) t_item_lines (ds := [v l]) rfl (by omega)
  rw [e]
  clear e
  have e0 : (S " ").length = 1 := S_len " "
  cases h with
  | @use x h =>
    have e1 := S_len "use"
    have hp := h.1.1
    have a1 := add_str (x := S "use") (y := S " ") (by rw [e0, e1]; decide)
    have a2 := add_str (x := S "use" ++ S " ") (y := x) (by rw [len_app, e0, e1]; show 3 + 1 + _ ≤ _; unfold sizeLine; omega)
    simp [d_item_lines, a1, a2]
    simp only [line_cons, line_one, app_assoc]
  | @tie x h =>
    have e1 := S_len "tie"
    have hp := h.1.1
    have a1 := add_str (x := S "tie") (y := S " ") (by rw [e0, e1]; decide)
    have a2 := add_str (x := S "tie" ++ S " ") (y := x) (by rw [len_app, e0, e1]; show 3 + 1 + _ ≤ _; unfold sizeLine; omega)
    simp [d_item_lines, a1, a2]
    simp only [line_cons, line_one, app_assoc]
  | @show_ xs h h0 hl =>
    have j := bm_joinW (st := st) (x := .str (S " ")) (xs := xs.map .str) (b := .tup (xs.map .str)) rfl (okW_Wd fun x hx => (h x hx).1) (by simp; omega)
    rw [strD_map] at j
    have ll := join_len (S " ") 100 (ps := xs) fun x hx => (h x hx).1.l100
    rw [e0] at ll
    have e1 := S_len "show "
    have a1 := add_str (x := S "show ") (y := lineOf xs) (by
      rw [e1]; show 5 + _ ≤ _; unfold lineOf; unfold sizeLine
      have : xs.length * (100 + 1) ≤ 38 * 101 := Nat.mul_le_mul_right _ hl
      omega)
    have s1 : S "show " = S "show" ++ S " " := S_cat (by decide)
    simp [d_item_lines, j, a1]
    rw [s1, line_cons' h0, app_assoc]
theorem sp_thing_lines {w : List (List Str)} {v : Int → D} (h : Thing w v) {l : Int} {n : Nat} (hn : 2 ≤ n) {st : Store} : callN tb L con kit n "" "item_lines" [v l] st = .ok (.lst (Lns w)) st := by
  cases h with
  | tie h => exact sp_line_lines (.tie h) (by omega)
  | @kind nm ws vs h h2 h3 =>
    obtain ⟨m, rfl, e⟩ := callN_at (n := n) (L := L) (con := con) (kit := kit) (st := st) t_item_lines (ds := [.tup [.str (S "kind"), .int l, .str nm, .tup (vs (l + 1))]]) rfl (by omega)
    rw [e]
    clear e
    have e1 := sp_kind_lines (L := L) (kit := kit) h h2 h3 (l := l) (l2 := l + 1) (n := m) (by omega) (st := st)
    have nr : D.nr (.lst (Lns ([S "kind", nm] :: (ws ++ [[S "end", S "kind"]])))) = true := by simp [nrs_app]
    have e2 := congrArg (shut st) e1
    rw [shut_nr nr] at e2
    simp [d_item_lines, e2]
theorem forL_lines {f : Slots → Store → RS} {i j : Nat} {st : Store} {sl : Slots} : True := trivial
theorem loop_item_lines {m : Nat} (hm : 2 ≤ m) {x0 x1 x2 x3 x4 : Option D} {q : Nat} {ws : List (List Str)} {vs : Int → List D} (h : Seqs Thing q ws vs) : ∀ {l : Int} {acc : List D} {x6 : Option D} {st : Store}, acc.length + ws.length ≤ 100000 →
    ∃ x6', forL (evSs (cfN tb L con kit m) wb_item_lines_0) (.nm 6) .free (vs l) [x0, x1, x2, x3, x4, some (.lst acc), x6] st = .nx [x0, x1, x2, x3, x4, some (.lst (acc ++ Lns ws)), x6'] st := by
  induction h with
  | nil => intro l acc x6 st hl; exact ⟨x6, by rw [forL_nil (by simp)]; simp⟩
  | @cons q w v ws vs h hs ih =>
    intro l acc x6 st hl
    rw [List.length_append] at hl
    obtain ⟨x6', ih'⟩ := ih (l := l + w.length) (acc := acc ++ Lns w) (x6 := some (v l)) (st := st) (by simp; omega)
    refine ⟨x6', ?_⟩
    have e1 := sp_thing_lines (L := L) (kit := kit) h (l := l) hm (st := st)
    have nr : D.nr (.lst (Lns w)) = true := by simp
    have e2 := congrArg (shut st) e1
    rw [shut_nr nr] at e2
    have a1 := add_lst (xs := acc) (ys := Lns w) (by simp; unfold sizeLine; omega)
    rw [forL_cons (sl1 := [x0, x1, x2, x3, x4, some (.lst acc), some (v l)]) (by simp) (by simp)]
    rw [show evSs (cfN tb L con kit m) wb_item_lines_0 [x0, x1, x2, x3, x4, some (.lst acc), some (v l)] st = .nx [x0, x1, x2, x3, x4, some (.lst (acc ++ Lns w)), some (v l)] st by simp [wb_item_lines_0, e2, a1]]
    rw [RS.turn_nx, ih']
    simp
theorem clm_f2 {n : Nat} (hn : 1 ≤ n) {ws : List (List Str)} {vs : Int → List D} (h : Rows ClmRow ws vs) (l : Int) : F2 (WL L kit n "claim_line_of") (vs l) (Lns ws) := rows_f2 (fun w v l h => ⟨_, rfl, fun st => sp_claim_line h hn⟩) h l
/-- the counts of a rule are written as a claim's rows -/
theorem sp_cnt_line {w : List Str} {v : Int → D} (h : CntRow b w v) {l : Int} {n : Nat} (hn : 1 ≤ n) {st : Store} : callN tb L con kit n "" "claim_line_of" [v l] st = .ok (.str (lineOf w)) st := by
  obtain ⟨m, rfl, e⟩ := callN_at (n := n) (L := L) (con := con) (kit := kit) (st := st) t_claim_line_of (ds := [v l]) rfl (by omega)
  rw [e]
  clear e
  cases h with
  | want h1 h2 => simp [d_claim_line_of, lcLoop_cons, lcLoop_nil, lcb, wd_str h1.1, nm_str h2, add_lst, bm_joinW, h1.1, nm_wd h2]
  | seat h1 h2 => simp [d_claim_line_of, lcLoop_cons, lcLoop_nil, lcb, wd_str h1.1, nm_str h2, add_lst, bm_joinW, h1.1, nm_wd h2]
theorem cnt_f2 {n : Nat} (hn : 1 ≤ n) {ws : List (List Str)} {vs : Int → List D} (h : Rows (CntRow b) ws vs) (l : Int) : F2 (WL L kit n "claim_line_of") (vs l) (Lns ws) := rows_f2 (fun w v l h => ⟨_, rfl, fun st => sp_cnt_line h hn⟩) h l
end
end Fg

set_option maxHeartbeats 4000000
/-! Pv3: modules and texts written. -/
namespace Fg
open PySem PySem.Spec PyProof.Rows L2 TL
section
variable {L : Nat} {kit : TyK → TyK → Option Bool} {b : Bool}
theorem sp_item_lines {w : List (List Str)} {v : Int → D} (h : Item w v) (hw : w.length ≤ 1000) {l : Int} {n : Nat} (hn : 4 ≤ n) {st : Store} : callN tb L con kit n "" "item_lines" [v l] st = .ok (.lst (Lns w)) st := by
  cases h with
  | line h => exact sp_line_lines h (by omega)
  | @kind nm ws vs h h2 h3 =>
    obtain ⟨m, rfl, e⟩ := callN_at (n := n) (L := L) (con := con) (kit := kit) (st := st) t_item_lines (ds := [.tup [.str (S "kind"), .int l, .str nm, .tup (vs (l + 1))]]) rfl (by omega)
    rw [e]
    clear e
    have e1 := sp_kind_lines (L := L) (kit := kit) h h2 h3 (l := l) (l2 := l + 1) (n := m) (by omega) (st := st)
    have nr : D.nr (.lst (Lns ([S "kind", nm] :: (ws ++ [[S "end", S "kind"]])))) = true := by simp [nrs_app]
    have e2 := congrArg (shut st) e1
    rw [shut_nr nr] at e2
    simp [d_item_lines, e2]
  | @claim nm ws vs h h2 h3 =>
    obtain ⟨m, rfl, e⟩ := callN_at (n := n) (L := L) (con := con) (kit := kit) (st := st) t_item_lines (ds := [.tup [.str (S "claim"), .int l, .str nm, .tup (vs (l + 1))]]) rfl (by omega)
    rw [e]
    clear e
    have k1 := add_kw (k := "claim") (c := "claim ") (by decide) (by decide) h.1
    have k2 := end_line (k := "claim") (c := "end claim") (by decide)
    have b1 := add_lst (xs := [.str (lineOf [S "claim", nm])]) (ys := Lns ws) (by simp; unfold sizeLine; omega)
    have b2 := add_lst (xs := [.str (lineOf [S "claim", nm])] ++ Lns ws) (ys := [.str (lineOf [S "end", S "claim"])]) (by simp; unfold sizeLine; omega)
    have ll : ws.length ≤ sizeLine := by unfold sizeLine; omega
    simp at b1 b2
    simp [d_item_lines, k1]
    rw [lc_f2 (ys := Lns ws) ((clm_f2 (L := L) (kit := kit) (n := m) (by omega) h2 (l + 1)).imp fun d y hy => ?_)]
    · simp [ll, k2, b1, b2]
    · obtain ⟨x, rfl, hy⟩ := hy
      simp [lcb, hy]
  | @proof nm ws vs h h2 =>
    obtain ⟨m, rfl, e⟩ := callN_at (n := n) (L := L) (con := con) (kit := kit) (st := st) t_item_lines (ds := [.tup [.str (S "proof"), .int l, .str nm, .tup (vs (l + 1))]]) rfl (by omega)
    rw [e]
    clear e
    have hl := h2.len
    have k1 := add_kw (k := "proof") (c := "proof ") (by decide) (by decide) h.1
    have k2 := end_line (k := "proof") (c := "end proof") (by decide)
    have b1 := add_lst (xs := [.str (lineOf [S "proof", nm])]) (ys := Lns ws) (by simp; unfold sizeLine; omega)
    have b2 := add_lst (xs := [.str (lineOf [S "proof", nm])] ++ Lns ws) (ys := [.str (lineOf [S "end", S "proof"])]) (by simp; unfold sizeLine; omega)
    have e1 := sp_proof_lines (L := L) (kit := kit) (n := m) (by omega) h2 (l := l + 1) (st := st)
    simp at b1 b2
    simp [d_item_lines, k1, e1, k2, b1, b2]
  | @rule nm q tws cws bws tvs cvs bvs h h2 h3 h4 h5 h6 =>
    obtain ⟨m, rfl, e⟩ := callN_at (n := n) (L := L) (con := con) (kit := kit) (st := st) t_item_lines (ds := [.tup [.str (S "rule"), .int l, .str nm, .tup (tvs (l + 1)), .tup (cvs (l + 1 + tws.length)), .tup (bvs (l + 1 + tws.length + cws.length))]]) rfl (by omega)
    rw [e]
    clear e
    have hl := h4.len
    simp only [List.length_cons, List.length_append] at hw
    have k1 := add_kw (k := "rule") (c := "rule ") (by decide) (by decide) h.1
    have k2 := end_line (k := "rule") (c := "end rule") (by decide)
    obtain ⟨x6, lp⟩ := loop_item_lines (L := L) (kit := kit) (m := m) (by omega) (x0 := some (.tup [.str (S "rule"), .int l, .str nm, .tup (tvs (l + 1)), .tup (cvs (l + 1 + tws.length)), .tup (bvs (l + 1 + tws.length + cws.length))])) (x1 := some (.str (S "rule"))) (x2 := none) (x3 := none) (x4 := none) h2 (l := l + 1) (acc := [.str (lineOf [S "rule", nm])]) (x6 := none) (st := st) (by simp; omega)
    have b1 := add_lst (xs := .str (lineOf [S "rule", nm]) :: Lns tws) (ys := Lns cws) (by simp; unfold sizeLine; omega)
    have b2 := add_lst (xs := .str (lineOf [S "rule", nm]) :: (Lns tws ++ Lns cws)) (ys := Lns bws) (by simp; unfold sizeLine; omega)
    have b3 := add_lst (xs := .str (lineOf [S "rule", nm]) :: (Lns tws ++ Lns cws) ++ Lns bws) (ys := [.str (lineOf [S "end", S "rule"])]) (by simp; unfold sizeLine; omega)
    have e1 := sp_proof_lines (L := L) (kit := kit) (n := m) (by omega) h4 (l := l + 1 + tws.length + cws.length) (st := st)
    have ll : cws.length ≤ sizeLine := by unfold sizeLine; omega
    simp at b1 b2 b3 lp
    simp [d_item_lines, k1]
    rw [lp]
    simp
    rw [lc_f2 (ys := Lns cws) ((cnt_f2 (L := L) (kit := kit) (n := m) (by omega) h3 (l + 1 + tws.length)).imp fun d y hy => ?_)]
    · simp [ll, k2, b1, e1, b2, b3]
    · obtain ⟨x, rfl, hy⟩ := hy
      simp [lcb, hy]
theorem loop_module_lines {m : Nat} (hm : 4 ≤ m) {x0 x1 : Option D} {q : Nat} {ws : List (List Str)} {vs : Int → List D} (h : Seqs Item q ws vs) : ∀ {l : Int} {acc : List D} {x3 : Option D} {st : Store}, acc.length + ws.length ≤ 1000 →
    ∃ x3', forL (evSs (cfN tb L con kit m) wb_module_lines_0) (.nm 3) .free (vs l) [x0, x1, some (.lst acc), x3] st = .nx [x0, x1, some (.lst (acc ++ Lns ws)), x3'] st := by
  induction h with
  | nil => intro l acc x3 st hl; exact ⟨x3, by rw [forL_nil (by simp)]; simp⟩
  | @cons q w v ws vs h hs ih =>
    intro l acc x3 st hl
    rw [List.length_append] at hl
    obtain ⟨x3', ih'⟩ := ih (l := l + w.length) (acc := acc ++ Lns w) (x3 := some (v l)) (st := st) (by simp; omega)
    refine ⟨x3', ?_⟩
    have e1 := sp_item_lines (L := L) (kit := kit) h (by omega) (l := l) hm (st := st)
    have nr : D.nr (.lst (Lns w)) = true := by simp
    have e2 := congrArg (shut st) e1
    rw [shut_nr nr] at e2
    have a1 := add_lst (xs := acc) (ys := Lns w) (by simp; unfold sizeLine; omega)
    rw [forL_cons (sl1 := [x0, x1, some (.lst acc), some (v l)]) (by simp) (by simp)]
    rw [show evSs (cfN tb L con kit m) wb_module_lines_0 [x0, x1, some (.lst acc), some (v l)] st = .nx [x0, x1, some (.lst (acc ++ Lns w)), some (v l)] st by simp [wb_module_lines_0, e2, a1]]
    rw [RS.turn_nx, ih']
    simp
theorem sp_module_lines {nm : Str} (hn0 : NmOk nm) {q : Nat} {ws : List (List Str)} {vs : Int → List D} (h : Seqs Item q ws vs) (hw : ws.length ≤ 900) {l : Int} {n : Nat} (hn : 5 ≤ n) {st : Store} :
    callN tb L con kit n "" "module_lines" [.str nm, .lst (vs l)] st = .ok (.lst (Lns ([S "module", nm] :: (ws ++ [[S "end", S "module"]])))) st := by
  obtain ⟨m, rfl, e⟩ := callN_at (n := n) (L := L) (con := con) (kit := kit) (st := st) t_module_lines (ds := [.str nm, .lst (vs l)]) rfl (by omega)
  rw [e]
  clear e
  have k1 := add_kw (k := "module") (c := "module ") (by decide) (by decide) hn0.1
  have k2 := end_line (k := "module") (c := "end module") (by decide)
  obtain ⟨x3, lp⟩ := loop_module_lines (L := L) (kit := kit) (m := m) (by omega) (x0 := some (.str nm)) (x1 := some (.lst (vs l))) h (l := l) (acc := [.str (lineOf [S "module", nm])]) (x3 := none) (st := st) (by simp; omega)
  have b1 := add_lst (xs := .str (lineOf [S "module", nm]) :: Lns ws) (ys := [.str (lineOf [S "end", S "module"])]) (by simp; unfold sizeLine; omega)
  simp at b1 lp
  simp [d_module_lines, k1]
  rw [lp]
  simp [k2, b1]
/-- modules as parts told -/
inductive Parts : List (List Str) → List D → Prop
  | nil : Parts [] []
  | cons {nm : Str} {q : Nat} {w ws : List (List Str)} {vs : Int → List D} {l : Int} {ps : List D} : NmOk nm → Seqs Item q w vs → Parts ws ps → Parts ([S "module", nm] :: (w ++ ([S "end", S "module"] :: ws))) (.tup [.str nm, .lst (vs l)] :: ps)
def partD : D → D
  | .tup [x, .tup ys] => .tup [x, .lst ys] | d => d
theorem mods_parts {ns : List Str} {ws : List (List Str)} {vs : Int → List D} (h : Mods ns ws vs) : ∀ l, Parts ws ((vs l).map partD) := by
  induction h with
  | nil => intro l; exact .nil
  | @cons nm ns w v ws vs h _ ih =>
    intro l
    cases h with
    | @mk q iws ivs h1 h2 h3 =>
      have := Parts.cons (l := l + 1) h1 h2 (ih (l + ([S "module", nm] :: (iws ++ [[S "end", S "module"]])).length))
      simpa [partD] using this
@[simp] theorem tree_called {x y : D} : fldV (.obj "Tree" [("called", x), ("blocks", y)]) "called" = some x := rfl
@[simp] theorem tree_blocks {x y : D} : fldV (.obj "Tree" [("called", x), ("blocks", y)]) "blocks" = some y := rfl
theorem sp_parts {bn : Str} {ns : List Str} {ws : List (List Str)} {vs : Int → List D} (h : Mods ns ws vs) (hl : ns.length ≤ 300) {l : Int} {n : Nat} (hn : 1 ≤ n) {st : Store} :
    callN tb L con kit n "Tree" "parts" [.obj "Tree" [("called", .str bn), ("blocks", .lst (vs l))]] st = .ok (.lst ((vs l).map partD)) st := by
  obtain ⟨m, rfl, e⟩ := callN_at (n := n) (L := L) (con := con) (kit := kit) (st := st) t_Tree_parts (ds := [.obj "Tree" [("called", .str bn), ("blocks", .lst (vs l))]]) rfl (by omega)
  rw [e]
  clear e
  have ll : (vs l).length ≤ sizeLine := by
    have : ∀ {ns : List Str} {ws : List (List Str)} {vs : Int → List D}, Mods ns ws vs → ∀ l, (vs l).length = ns.length := by
      intro ns ws vs h
      induction h with
      | nil => simp
      | cons _ _ ih => intro l; simp [ih]
    rw [this h l]; unfold sizeLine; omega
  have F : ∀ {ns : List Str} {ws : List (List Str)} {vs : Int → List D}, Mods ns ws vs → ∀ (l : Int) (x : Option D), lcLoop (lcBody (cfN tb L con kit m) [x, none, none] [1, 2] (.tp (.cons (.nm 1) (.cons (.nm 2) .nil))) (.con (.bl true)) (.tup (.cons (.var 1) (.cons (.blt false "list" (.cons (.var 2) .nil)) .nil)))) .free (vs l) st = .ok ((vs l).map partD) st := by
    intro ns ws vs h
    induction h with
    | nil => intro l x; exact lcLoop_nil
    | cons h _ ih =>
      intro l x
      cases h with
      | mk h1 h2 h3 =>
        rw [List.map_cons, lcLoop_cons]
        simp [lcb, partD, ih]
  simp [d_Tree_parts]
  rw [F h]
  simp [ll]
end
end Fg

set_option maxHeartbeats 4000000
/-! Pv4: whole texts written. -/
namespace Fg
open PySem PySem.Spec PyProof.Rows L2 TL
section
variable {L : Nat} {kit : TyK → TyK → Option Bool} {b : Bool}
theorem loop_write {m : Nat} (hm : 5 ≤ m) {x0 : Option D} {ws : List (List Str)} {ps : List D} (h : Parts ws ps) : ∀ {acc : List D} {x2 x3 : Option D} {st : Store}, acc.length + ws.length ≤ 900 →
    ∃ x2' x3', forL (evSs (cfN tb L con kit m) wb_write_text_0) (.tp (.cons (.nm 2) (.cons (.nm 3) .nil))) .free ps [x0, some (.lst acc), x2, x3] st = .nx [x0, some (.lst (acc ++ Lns ws)), x2', x3'] st := by
  induction h with
  | nil => intro acc x2 x3 st hl; exact ⟨x2, x3, by rw [forL_nil (by simp)]; simp⟩
  | @cons nm q w ws vs l ps h1 h2 hs ih =>
    intro acc x2 x3 st hl
    simp only [List.length_cons, List.length_append] at hl
    obtain ⟨x2', x3', ih'⟩ := ih (acc := acc ++ Lns ([S "module", nm] :: (w ++ [[S "end", S "module"]]))) (x2 := some (.str nm)) (x3 := some (.lst (vs l))) (st := st) (by simp; omega)
    refine ⟨x2', x3', ?_⟩
    have e1 := sp_module_lines (L := L) (kit := kit) h1 h2 (by omega) (l := l) hm (st := st)
    have nr : D.nr (.lst (Lns ([S "module", nm] :: (w ++ [[S "end", S "module"]])))) = true := by simp [nrs_app]
    have e2 := congrArg (shut st) e1
    rw [shut_nr nr] at e2
    have a1 := add_lst (xs := acc) (ys := Lns ([S "module", nm] :: (w ++ [[S "end", S "module"]]))) (by simp; unfold sizeLine; omega)
    generalize hz : Lns ([S "module", nm] :: (w ++ [[S "end", S "module"]])) = z at *
    rw [forL_cons (sl1 := [x0, some (.lst acc), some (.str nm), some (.lst (vs l))]) (by simp) (by simp)]
    rw [show evSs (cfN tb L con kit m) wb_write_text_0 [x0, some (.lst acc), some (.str nm), some (.lst (vs l))] st = .nx [x0, some (.lst (acc ++ z)), some (.str nm), some (.lst (vs l))] st by simp [wb_write_text_0, e2, a1]]
    rw [RS.turn_nx, ih', ← hz]
    simp
theorem parts_nr {ws : List (List Str)} {ps : List D} (h : Parts ws ps) : D.nrs ps = true := by
  induction h with
  | nil => rfl
  | cons h1 h2 _ ih => simp [ih, h2.nr fun w v h l => h.nr l]
theorem sum_map_le {M : Nat} : ∀ {ws : List (List Str)}, (∀ w ∈ ws, (lineOf w).length ≤ M) → ((ws.map lineOf).map (·.length)).sum ≤ ws.length * M := fun h => by
  have := sum_le (ws := List.map lineOf _) (M := M) fun w hw => by
    obtain ⟨r, hr, rfl⟩ := List.mem_map.mp hw
    exact h r hr
  simpa using this
theorem sp_tree_name {bn : Str} {y : D} {n : Nat} (hn : 1 ≤ n) {st : Store} : callN tb L con kit n "Tree" "name" [.obj "Tree" [("called", .str bn), ("blocks", y)]] st = .ok (.str bn) st := by
  obtain ⟨m, rfl, e⟩ := callN_at (n := n) (L := L) (con := con) (kit := kit) (st := st) t_Tree_name (ds := [.obj "Tree" [("called", .str bn), ("blocks", y)]]) rfl (by omega)
  rw [e]
  clear e
  simp [d_Tree_name]
theorem lk_name {x y : D} : (([("called", x), ("blocks", y)] : List (String × D)).lookup "name") = none := rfl
theorem lk_parts {x y : D} : (([("called", x), ("blocks", y)] : List (String × D)).lookup "parts") = none := rfl
theorem lk_items {x y : D} : (([("called", x), ("blocks", y)] : List (String × D)).lookup "items_of") = none := rfl
theorem lk_modules {x y : D} : (([("called", x), ("blocks", y)] : List (String × D)).lookup "modules") = none := rfl
theorem sp_write_text {rows ws : List (List Str)} {bn : Str} {ns : List Str} {vs : Int → List D} (hb : NmOk bn) (hm0 : Mods ns ws vs) (hl : ns.length ≤ 300) (e : rows = [S "book", bn] :: (ws ++ [[S "end", S "book"]])) (ht : TxtOk rows) {l : Int} {n : Nat} (hn : 6 ≤ n) {st : Store} :
    callN tb L con kit n "" "write_text" [.obj "Tree" [("called", .str bn), ("blocks", .lst (vs l))]] st = .ok (.str (textOf rows)) st := by
  obtain ⟨m, rfl, e0⟩ := callN_at (n := n) (L := L) (con := con) (kit := kit) (st := st) t_write_text (ds := [.obj "Tree" [("called", .str bn), ("blocks", .lst (vs l))]]) rfl (by omega)
  rw [e0]
  clear e0
  have hp := mods_parts hm0 l
  have n1 := sp_tree_name (L := L) (kit := kit) (bn := bn) (y := .lst (vs l)) (n := m) (by omega) (st := st)
  have p1 := sp_parts (L := L) (kit := kit) (bn := bn) hm0 hl (l := l) (n := m) (by omega) (st := st)
  have nrp := parts_nr hp
  have k1 := add_kw (k := "book") (c := "book ") (by decide) (by decide) hb.1
  have k2 := end_line (k := "book") (c := "end book") (by decide)
  have hlen : rows.length = ws.length + 2 := by rw [e]; simp
  have hl6 := ht.len
  obtain ⟨x2, x3, lp⟩ := loop_write (L := L) (kit := kit) (m := m) (by omega) (x0 := some (.obj "Tree" [("called", .str bn), ("blocks", .lst (vs l))])) hp (acc := [.str (lineOf [S "book", bn])]) (x2 := none) (x3 := none) (st := st) (by simp; omega)
  have b1 := add_lst (xs := .str (lineOf [S "book", bn]) :: Lns ws) (ys := [.str (lineOf [S "end", S "book"])]) (by simp; unfold sizeLine; omega)
  have er : Lns rows = .str (lineOf [S "book", bn]) :: (Lns ws ++ [.str (lineOf [S "end", S "book"])]) := by rw [e]; simp
  have j : bmR "join" false (.str (S "\n")) st (bmV st "join" (.str (S "\n")) [.lst (Lns rows)]) = .ok (.str (textOf rows)) st := by
    refine bm_join (ws := rows.map lineOf) rfl ?_
    have h1 := sum_map_le (ws := rows) (M := 1640) fun r hr => line_len (ht.row r hr).2
    have e1 : (S "\n").length = 1 := S_len "\n"
    rw [e1, List.length_map]
    have : rows.length * 1640 ≤ 600 * 1640 := Nat.mul_le_mul_right _ hl6
    omega
  rw [er] at j
  simp at b1 lp
  simp [d_write_text, lk_name, n1, k1, lk_parts, p1, nrp]
  rw [lp]
  simp [k2, b1]
  rw [j]
  simp
theorem sp_items_of {bn nm : Str} {its : List D} (hn0 : D.nrs its = true) {n : Nat} (hn : 1 ≤ n) {st : Store} :
    callN tb L con kit n "Tree" "items_of" [.obj "Tree" [("called", .str bn), ("blocks", .lst [.tup [.str nm, .tup its]])], .str nm] st = .ok (.lst its) st := by
  obtain ⟨m, rfl, e⟩ := callN_at (n := n) (L := L) (con := con) (kit := kit) (st := st) t_Tree_items_of (ds := [.obj "Tree" [("called", .str bn), ("blocks", .lst [.tup [.str nm, .tup its]])], .str nm]) rfl (by omega)
  rw [e]
  clear e
  simp [d_Tree_items_of]
  rw [forL_cons (sl1 := [some (.obj "Tree" [("called", .str bn), ("blocks", .lst [.tup [.str nm, .tup its]])]), some (.str nm), some (.str nm), some (.tup its)]) (by simp) (by simp)]
  simp [wb_Tree_items_of_0]
end
end Fg

set_option maxHeartbeats 4000000
/-! Pl1: the law's draws. -/
namespace Fg
open PySem PySem.Spec PyProof.Rows L2 TL
/-- a source of draws -/
def Src (d : D) : Prop := ∃ a b c : Int, d = .lst [.int a, .int b, .int c]
def SrcAt (st : Store) (i : Nat) : Prop := ∃ s, st[i]? = some s ∧ Src s
/-- draws were taken at i -/
def Nxt (i : Nat) (st st' : Store) : Prop := ∃ s, Src s ∧ st' = st.set i s
theorem Src.nr {s : D} (h : Src s) : D.nr s = true := by obtain ⟨a, b, c, rfl⟩ := h; rfl
section
variable {i j : Nat} {st st1 st2 ext : Store}
theorem SrcAt.lt (h : SrcAt st i) : i < st.length := by obtain ⟨s, h, _⟩ := h; exact (List.getElem?_eq_some_iff.mp h).1
theorem Nxt.refl (h : SrcAt st i) : Nxt i st st := by
  obtain ⟨s, h, hs⟩ := h
  refine ⟨s, hs, ?_⟩
  obtain ⟨hl, e⟩ := List.getElem?_eq_some_iff.mp h
  rw [← e]; simp
theorem Nxt.trans (h : Nxt i st st1) (h2 : Nxt i st1 st2) : Nxt i st st2 := by
  obtain ⟨s, hs, rfl⟩ := h
  obtain ⟨s2, hs2, rfl⟩ := h2
  exact ⟨s2, hs2, by simp⟩
theorem Nxt.len (h : Nxt i st st1) : st1.length = st.length := by obtain ⟨s, hs, rfl⟩ := h; simp
theorem Nxt.at (h : Nxt i st st1) (h2 : SrcAt st i) : SrcAt st1 i := by
  obtain ⟨s, hs, rfl⟩ := h
  exact ⟨s, by simp [h2.lt], hs⟩
theorem Nxt.get (h : Nxt i st st1) (hj : j ≠ i) : st1[j]? = st[j]? := by
  obtain ⟨s, hs, rfl⟩ := h
  rw [List.getElem?_set_ne (Ne.symm hj)]
theorem Nxt.other (h : Nxt i st st1) (h2 : SrcAt st j) (hj : j ≠ i) : SrcAt st1 j := by
  obtain ⟨s, h3, hs⟩ := h2
  exact ⟨s, by rw [h.get hj]; exact h3, hs⟩
theorem SrcAt.app (h : SrcAt st i) : SrcAt (st ++ ext) i := by
  have := h.lt
  obtain ⟨s, h, hs⟩ := h
  exact ⟨s, by rw [List.getElem?_append_left this]; exact h, hs⟩
/-- cells behind stay -/
theorem Nxt.app (h : Nxt i (st ++ ext) st2) (hi : i < st.length) : ∃ st1, Nxt i st st1 ∧ st2 = st1 ++ ext := by
  obtain ⟨s, hs, rfl⟩ := h
  exact ⟨st.set i s, ⟨s, hs, rfl⟩, List.set_append_left _ _ hi⟩
theorem Nxt.outer (h : Nxt i st st1) : OuterOk st st1 := by
  obtain ⟨s, hs, rfl⟩ := h
  exact OuterOk.rfl.set hs.nr
theorem shut_nxt {d : D} (h : Nxt i st st1) (hd : D.nr d = true) : shut st (.ok d (st1 ++ ext)) = .ok d st1 := by
  rw [shut_ok h.len h.outer, sub_nr _ hd]
theorem shut_nxt0 {d : D} (h : Nxt i st st1) (hd : D.nr d = true) : shut st (.ok d st1) = .ok d st1 := by
  have := shut_nxt (ext := []) h hd
  rwa [List.append_nil] at this
end
section
variable {st : Store}
@[simp] theorem view_set_self {n : Nat} {c : D} (h : n < st.length) : view (st.set n c) (.ref n) = c := by simp [view, h]
theorem sto_lst {o : Nat} {xs : List D} {k : Nat} {v : D} (h : view st (.ref o) = .lst xs) (hk : k < xs.length) (hk2 : k < 1000) : stoV st (.ref o) (.int (k : Int)) v = some (st.set o (.lst (xs.set k v))) := by
  have e : ixN xs.length (k : Int) = some k := by unfold ixN; rw [if_pos (by omega), if_pos (by omega), Int.toNat_natCast]
  show (putV st (.ref o) (.int k) v).map _ = _
  unfold putV
  rw [h]
  simp only [e, Option.map_some]
  rw [if_pos ⟨by omega, by omega⟩]; rfl
theorem sto3_0 {o : Nat} {a b c v : D} (h : view st (.ref o) = .lst [a, b, c]) : stoV st (.ref o) (.int 0) v = some (st.set o (.lst [v, b, c])) := sto_lst (k := 0) h (by simp) (by decide)
theorem sto3_1 {o : Nat} {a b c v : D} (h : view st (.ref o) = .lst [a, b, c]) : stoV st (.ref o) (.int 1) v = some (st.set o (.lst [a, v, c])) := sto_lst (k := 1) h (by simp) (by decide)
theorem sto3_2 {o : Nat} {a b c v : D} (h : view st (.ref o) = .lst [a, b, c]) : stoV st (.ref o) (.int 2) v = some (st.set o (.lst [a, b, v])) := sto_lst (k := 2) h (by simp) (by decide)
@[simp] theorem sto3s_1 {o : Nat} {a b c v : D} (h : o < st.length) : stoV (st.set o (.lst [a, b, c])) (.ref o) (.int 1) v = some (st.set o (.lst [a, v, c])) := by
  rw [sto3_1 (view_set_self h), List.set_set]
@[simp] theorem idxS_lst {xs : List D} {i : Int} : idxS (.lst xs) (.int i) = atI xs i := nrfl rfl
theorem mul_log {i j : Int} (h : i.natAbs.log2 + j.natAbs.log2 < 1000000) : binV .Mult (.int i) (.int j) = some (.int (i * j)) := by
  show (if ((-(2 ^ 64) < i ∧ i < 2 ^ 64) ∨ (-(2 ^ 64) < j ∧ j < 2 ^ 64)) ∨ i.natAbs.log2 + j.natAbs.log2 < 1000000 then _ else _) = _
  rw [if_pos (.inr h)]
theorem mul_c {i j : Int} (h : (-(2 ^ 64) < i ∧ i < 2 ^ 64) ∨ (-(2 ^ 64) < j ∧ j < 2 ^ 64)) : binV .Mult (.int i) (.int j) = some (.int (i * j)) := by
  rcases h with h | h
  · exact mul_l h.1 h.2
  · exact mul_r h.1 h.2
end
section
variable {L : Nat} {kit : TyK → TyK → Option Bool} {b : Bool}
theorem sp_pick {st : Store} {i : Nat} (h : SrcAt st i) {k : Int} (hk : 0 < k) (hk2 : k.natAbs.log2 < 9000) {n : Nat} (hn : 1 ≤ n) :
    ∃ r st1, Nxt i st st1 ∧ 0 ≤ r ∧ r < k ∧ callN tb L con kit n "" "_law_pick" [.ref i, .int k] st = .ok (.int r) st1 := by
  obtain ⟨m, rfl, e⟩ := callN_at (n := n) (L := L) (con := con) (kit := kit) (st := st) t_law_pick (ds := [.ref i, .int k]) rfl (by omega)
  rw [e]
  clear e
  have hi := h.lt
  obtain ⟨s, hs, a, b, c, rfl⟩ := h
  have v0 := view_ref hs
  by_cases ha : 0 < a
  · refine ⟨a % k, st.set i (.lst [.int (a / k), .int b, .int c]), ⟨_, ⟨_, _, _, rfl⟩, rfl⟩, Int.emod_nonneg _ (by omega), Int.emod_lt_of_pos _ hk, ?_⟩
    have s0 := fun v => sto3_0 (v := v) v0
    simp [d_law_pick, v0, ha, mod_int hk, div_int hk hk2, s0]
  · have c1 : (0 : Int) < 2147483647 := by decide
    have c2 : (0 : Int) < 2147483629 := by decide
    have c3 : (0 : Int) < 8 := by decide
    have c4 : (8 : Int).natAbs.log2 < 9000 := by decide
    have m1 : ∀ x, binV .Mult (.int x) (.int 48271) = some (.int (x * 48271)) := fun x => mul_c (.inr ⟨by decide, by decide⟩)
    have m2 : ∀ x, binV .Mult (.int x) (.int 51511) = some (.int (x * 51511)) := fun x => mul_c (.inr ⟨by decide, by decide⟩)
    have m3 : ∀ x, binV .Mult (.int x) (.int 16807) = some (.int (x * 16807)) := fun x => mul_c (.inr ⟨by decide, by decide⟩)
    have m4 : ∀ x, binV .Mult (.int x) (.int 7919) = some (.int (x * 7919)) := fun x => mul_c (.inr ⟨by decide, by decide⟩)
    generalize hb : (b * 48271 + (c + 1) * 51511 + 17) % 2147483647 = b1
    refine ⟨(b1 * 16807 + (c + 1) * 7919) % 2147483629 / 8 % k, st.set i (.lst [.int a, .int b1, .int (c + 1)]), ⟨_, ⟨_, _, _, rfl⟩, rfl⟩, Int.emod_nonneg _ (by omega), Int.emod_lt_of_pos _ hk, ?_⟩
    have s2 := fun v => sto3_2 (v := v) v0
    simp [d_law_pick, v0, ha, mod_int hk, mod_int c1, mod_int c2, div_int c3 c4, m1, m2, m3, m4, hi, hb, s2]
theorem sp_pickS {st : Store} {i : Nat} (h : SrcAt st i) {k : Int} (hk : 0 < k) (hk2 : k.natAbs.log2 < 9000) {n : Nat} (hn : 1 ≤ n) :
    ∃ r st1, Nxt i st st1 ∧ 0 ≤ r ∧ r < k ∧ shut st (callN tb L con kit n "" "_law_pick" [.ref i, .int k] st) = .ok (.int r) st1 := by
  obtain ⟨r, st1, h1, h2, h3, e⟩ := sp_pick (L := L) (kit := kit) h hk hk2 hn
  exact ⟨r, st1, h1, h2, h3, by rw [e, shut_nxt0 h1 (by simp)]⟩
theorem mods_list {ns : List Int} {st : Store} {C : Cf} {sl : Slots} : lcLoop (lcBody C [sl.getD 0 none, sl.getD 1 none, none, none, none, none] [3] (.nm 3) (.con (.bl true)) (.bin false .Mod (.blt false "int" (.cons (.var 3) .nil)) (.con (.int 999983)))) .free (ns.map .int) st = .ok ((ns.map (· % 999983)).map .int) st := by
  rw [List.map_map]
  exact lc_free (fun x => .int (x % 999983)) fun x _ => by
    have c1 : (0 : Int) < 999983 := by decide
    simp [lcb, mod_int c1]
theorem sp_source {st : Store} {ns : List Int} {k : Nat} (hk : k ≤ 100) (hl : ns.length ≤ 100) {n : Nat} (hn : 1 ≤ n) :
    ∃ s, Src s ∧ callN tb L con kit n "" "_law_source" [.scr (ns.map .int), .int (k : Int)] st = .ok (.ref st.length) (st ++ [s]) := by
  obtain ⟨m, rfl, e⟩ := callN_at (n := n) (L := L) (con := con) (kit := kit) (st := st) t_law_source (ds := [.scr (ns.map .int), .int (k : Int)]) rfl (by omega)
  rw [e]
  clear e
  have p60 : binV .Pow (.int 10) (.int 60) = some (.int (10 ^ 60)) := pow_int (by decide) (by decide) (by decide)
  have p18 : binV .Pow (.int 10) (.int 18) = some (.int (10 ^ 18)) := pow_int (by decide) (by decide) (by decide)
  have mm : binV .Mult (.int (10 ^ 60)) (.int (10 ^ 60)) = some (.int (10 ^ 60 * 10 ^ 60)) := mul_log (by decide +kernel)
  have c0 : (0 : Int) < 10 ^ 60 * 10 ^ 60 := by decide +kernel
  have c2 : (0 : Int) < 2147483629 := by decide
  have m1 : ∀ x, binV .Mult (.int 2) (.int x) = some (.int (2 * x)) := fun x => mul_c (.inl ⟨by decide, by decide⟩)
  have m2 : ∀ x, binV .Mult (.int x) (.int 104711) = some (.int (x * 104711)) := fun x => mul_c (.inr ⟨by decide, by decide⟩)
  have m3 : ∀ x, binV .Mult (.int 37) (.int x) = some (.int (37 * x)) := fun x => mul_c (.inl ⟨by decide, by decide⟩)
  have m4 : ∀ x, binV .Mult (.int 29) (.int x) = some (.int (29 * x)) := fun x => mul_c (.inl ⟨by decide, by decide⟩)
  have main : ∀ (cell : Int) (x0 x3 : Option D), ∃ s, Src s ∧ (evSs (cfN tb L con kit m) (.cons i_law_source_2 (.cons i_law_source_1 (.cons i_law_source_0 .nil))) [x0, some (.int k), some (.int cell), x3, none, none] st).out = .ok (.ref st.length) (st ++ [s]) := by
    intro cell x0 x3
    generalize hs : (if cell < 0 then -cell else cell) % (10 ^ 60 * 10 ^ 60) = size
    have hsm : ∀ c : Int, 0 ≤ (2 * size + c + k * 104711 + 40009) % 2147483629 ∧ (2 * size + c + k * 104711 + 40009) % 2147483629 < 2147483629 := fun c => ⟨Int.emod_nonneg _ (by decide), Int.emod_lt_of_pos _ (by decide)⟩
    have fin : ∀ small : Int, 0 ≤ small → small < 2147483629 → binV .Mult (.int (small + 6133)) (.int (small + 99991)) = some (.int ((small + 6133) * (small + 99991))) := fun small h1 h2 => mul_c (.inl ⟨by omega, by omega⟩)
    refine ⟨.lst [.int (if (10 : Int) ^ 18 ≤ size then size else 0), .int (((2 * size + (if cell < 0 then 1 else 0) + k * 104711 + 40009) % 2147483629 + 6133) * ((2 * size + (if cell < 0 then 1 else 0) + k * 104711 + 40009) % 2147483629 + 99991) % 2147483629), .int k], ⟨_, _, _, rfl⟩, ?_⟩
    have f1 := fin _ (hsm 1).1 (hsm 1).2
    have f0 := fin _ (hsm 0).1 (hsm 0).2
    rw [Int.add_zero] at f0
    by_cases hc : cell < 0
    · have hs' : -cell % (10 ^ 60 * 10 ^ 60) = size := by rw [← hs, if_pos hc]
      by_cases hz : (10 : Int) ^ 18 ≤ size
      · simp [-Int.reducePow, p60, p18, mm, mod_int c0, mod_int c2, m1, m2, hc, hs', f1, hz]
      · simp [-Int.reducePow, p60, p18, mm, mod_int c0, mod_int c2, m1, m2, hc, hs', f1, hz]
    · have hs' : cell % (10 ^ 60 * 10 ^ 60) = size := by rw [← hs, if_neg hc]
      by_cases hz : (10 : Int) ^ 18 ≤ size
      · simp [-Int.reducePow, p60, p18, mm, mod_int c0, mod_int c2, m1, m2, hc, hs', f0, hz]
      · simp [-Int.reducePow, p60, p18, mm, mod_int c0, mod_int c2, m1, m2, hc, hs', f0, hz]
  have first : ∃ cell, evS (cfN tb L con kit m) i_law_source_3 [some (.scr (ns.map .int)), some (.int k), none, none, none, none] st = .nx [some (.scr (ns.map .int)), some (.int k), some (.int cell), none, none, none] st := by
    by_cases hk2 : (k : Int) < ns.length
    · have hk3 : k < ns.length := by omega
      refine ⟨ns[k], ?_⟩
      simp [hk2, hk3]
    · obtain ⟨ms, c8, hms⟩ : ∃ ms : List Int, cutL (ns.map D.int) none (some 8) = ms.map D.int ∧ ms.length ≤ 8 := by
        refine ⟨ns.take 8, ?_, by simp; omega⟩
        rw [show (8 : Int) = ((8 : Nat) : Int) from rfl, cutL_to, List.map_take]
      have ml := mods_list (ns := ms) (st := st) (C := cfN tb L con kit m) (sl := [some (.scr (ns.map .int)), some (.int k)])
      simp only [List.getD_cons_zero, List.getD_cons_succ] at ml
      refine ⟨37 * (ms.map (· % 999983)).sum + 29 * k + 11, ?_⟩
      have hml : ms.length ≤ sizeLine := by unfold sizeLine; omega
      have sm := sum_ints (st := st) (bs := ms.map (· % 999983))
      generalize hg : ms.map (· % 999983) = gs at *
      have hgl : gs.length ≤ sizeLine := by rw [← hg]; simpa using hml
      simp [hk2, c8]
      rw [ml]
      simp [hgl, sm, m3, m4]
  obtain ⟨cell, e1⟩ := first
  obtain ⟨s, h1, h2⟩ := main cell (some (.scr (ns.map .int))) none
  refine ⟨s, h1, ?_⟩
  show (evSs (cfN tb L con kit m) (.cons i_law_source_3 (.cons i_law_source_2 (.cons i_law_source_1 (.cons i_law_source_0 .nil)))) [some (.scr (ns.map .int)), some (.int k), none, none, none, none] st).out = _
  rw [es_cons, e1, RS.seq_nx, h2]
end
end Fg

set_option maxHeartbeats 4000000
/-! Pl2: the law's draws: orders, names, numbers. -/
namespace Fg
open PySem PySem.Spec PyProof.Rows L2 TL
section
variable {L : Nat} {kit : TyK → TyK → Option Bool} {b : Bool}
theorem app_get0' {α : Type} {st : List α} {n : Nat} {x : α} {ext : List α} (h : st.length = n) : (st ++ x :: ext)[n]? = some x := by subst h; simp
theorem app_get1' {α : Type} {st : List α} {n : Nat} {x y : α} {ext : List α} (h : st.length = n) : (st ++ x :: y :: ext)[n + 1]? = some y := by subst h; simp
theorem app_set0' {α : Type} {st : List α} {n : Nat} {x z : α} {ext : List α} (h : st.length = n) : (st ++ x :: ext).set n z = st ++ z :: ext := by subst h; simp
theorem app_set1' {α : Type} {st : List α} {n : Nat} {x y z : α} {ext : List α} (h : st.length = n) : (st ++ x :: y :: ext).set (n + 1) z = st ++ x :: z :: ext := by subst h; simp
theorem nrs_mem : ∀ {xs : List D}, (∀ x ∈ xs, D.nr x = true) → D.nrs xs = true
  | [], _ => rfl
  | x :: xs, h => by
    rw [nrs_cons, h x (by simp), nrs_mem fun y hy => h y (by simp [hy])]; rfl
theorem mem_nrs : ∀ {xs : List D}, D.nrs xs = true → ∀ x ∈ xs, D.nr x = true
  | [], _, x, hx => by simp at hx
  | y :: xs, h, x, hx => by
    simp only [nrs_cons, Bool.and_eq_true] at h
    rcases List.mem_cons.mp hx with rfl | hx
    · exact h.1
    · exact mem_nrs h.2 x hx
theorem erase_perm {α : Type} {xs : List α} {i : Nat} {y : α} (h : xs[i]? = some y) : List.Perm xs (y :: xs.eraseIdx i) := by
  obtain ⟨hl, rfl⟩ := List.getElem?_eq_some_iff.mp h
  rw [List.eraseIdx_eq_take_drop_succ]
  have : xs = xs.take i ++ xs[i] :: xs.drop (i + 1) := by
    rw [← List.drop_eq_getElem_cons hl, List.take_append_drop]
  conv => lhs; rw [this]
  exact List.perm_middle
theorem small_log {k : Int} (h0 : 0 < k) (h1 : k < 2 ^ 64) : k.natAbs.log2 < 9000 := by
  have : k.natAbs < 2 ^ 64 := by omega
  have h2 := (Nat.log2_lt (n := k.natAbs) (k := 64) (by omega)).mpr this
  omega
theorem loop_shuffle {m : Nat} (hm : 1 ≤ m) {i : Nat} {x1 : Option D} : ∀ {q : Nat} {left found : List D} {k : Nat} {st : Store} {p : Nat}, left.length = q → st.length = p → SrcAt st i → found.length + left.length ≤ 1000 →
    ∃ st1 ys, Nxt i st st1 ∧ List.Perm ys (found ++ left) ∧ whlL (whC (cfN tb L con kit m) wc_law_shuffled_0) (evSs (cfN tb L con kit m) wb_law_shuffled_0) (k + 1 + q) [some (.ref i), x1, some (.ref p), some (.ref (p + 1))] (st ++ [.lst left, .lst found])
      = .nx [some (.ref i), x1, some (.ref p), some (.ref (p + 1))] (st1 ++ [.lst [], .lst ys]) := by
  intro q
  induction q with
  | zero =>
    intro left found k st p hq hp hs hl
    have : left = [] := List.eq_nil_of_length_eq_zero hq
    subst this
    refine ⟨st, found, Nxt.refl hs, by simp, ?_⟩
    have l0 := len_ref (st := st ++ [.lst [], .lst found]) (n := p) (xs := []) (app_get0' hp)
    rw [Nat.add_zero, whl_end (by simp [whC, wc_law_shuffled_0, l0])]
  | succ q ih =>
    intro left found k st p hq hp hs hl
    have hs2 : SrcAt (st ++ [.lst left, .lst found]) i := hs.app
    obtain ⟨r, st2, n2, r0, r1, e1⟩ := sp_pickS (L := L) (kit := kit) hs2 (k := (left.length : Int)) (by omega) (small_log (by omega) (by omega)) hm
    obtain ⟨st1, n1, rfl⟩ := n2.app hs.lt
    have hp1 : st1.length = p := by rw [n1.len]; exact hp
    obtain ⟨j, rfl⟩ : ∃ j : Nat, r = j := ⟨r.toNat, by omega⟩
    have hj : j < left.length := by omega
    have hy : left[j]? = some left[j] := List.getElem?_eq_getElem hj
    have l0 := len_ref (st := st ++ [.lst left, .lst found]) (n := p) (xs := left) (app_get0' hp)
    have pop := bm_popAt (st := st1 ++ [.lst left, .lst found]) (n := p) (xs := left) (i := j) (y := left[j]) (c := false) (app_get0' hp1) hy (by omega)
    rw [app_set0' hp1] at pop
    have ap := bm_append (st := st1 ++ [.lst (left.eraseIdx j), .lst found]) (n := p + 1) (xs := found) (y := left[j]) (c := false) (app_get1' hp1) (by unfold sizeLine; omega)
    rw [app_set1' hp1] at ap
    have vw : ∀ {s : Store} {xs ys : List D}, s.length = p → view (s ++ [.lst xs, .lst ys]) (.ref p) = .lst xs := fun h => view_ref (app_get0' h)
    have vw1 : ∀ {s : Store} {xs ys : List D}, s.length = p → view (s ++ [.lst xs, .lst ys]) (.ref (p + 1)) = .lst ys := fun h => view_ref (app_get1' h)
    obtain ⟨st3, ys, n3, pm, ih'⟩ := ih (left := left.eraseIdx j) (found := found ++ [left[j]]) (k := k) (st := st1) (p := p) (by rw [List.length_eraseIdx_of_lt hj]; omega) hp1 (n1.at hs) (by rw [List.length_eraseIdx_of_lt hj]; simp; omega)
    refine ⟨st3, ys, n1.trans n3, pm.trans ?_, ?_⟩
    · have := erase_perm hy
      rw [List.append_assoc]
      exact (List.Perm.append_left found this).symm
    · have step : evSs (cfN tb L con kit m) wb_law_shuffled_0 [some (.ref i), x1, some (.ref p), some (.ref (p + 1))] (st ++ [.lst left, .lst found]) = .nx [some (.ref i), x1, some (.ref p), some (.ref (p + 1))] (st1 ++ [.lst (left.eraseIdx j), .lst (found ++ [left[j]])]) := by
        simp [wb_law_shuffled_0, vw hp, vw1 hp, vw hp1, vw1 hp1, l0, e1, pop, ap]
      rw [← Nat.add_assoc, whl_go (by simp [whC, wc_law_shuffled_0, l0]; omega) step, ih']
theorem sp_shuffledT {st : Store} {i : Nat} (h : SrcAt st i) {xs : List D} {t : D} (ht : bltV st "list" [t] = some (.lst xs)) (hx : D.nrs xs = true) (hl : xs.length ≤ 900) (hL : 1000 ≤ L) {n : Nat} (hn : 2 ≤ n) :
    ∃ ys st1, Nxt i st st1 ∧ List.Perm ys xs ∧ shut st (callN tb L con kit n "" "_law_shuffled" [.ref i, t] st) = .ok (.lst ys) st1 := by
  obtain ⟨m, rfl, e⟩ := callN_at (n := n) (L := L) (con := con) (kit := kit) (st := st) t_law_shuffled (ds := [.ref i, t]) rfl (by omega)
  rw [e]
  clear e
  obtain ⟨k, hk⟩ : ∃ k, L = k + 1 + xs.length := ⟨L - 1 - xs.length, by omega⟩
  obtain ⟨st1, ys, n1, pm, lp⟩ := loop_shuffle (L := L) (kit := kit) (m := m) (by omega) (i := i) (x1 := some t) (q := xs.length) (left := xs) (found := []) (k := k) (st := st) (p := st.length) rfl rfl h (by simp; omega)
  rw [← hk] at lp
  have nry : D.nrs ys = true := nrs_mem fun y hy => mem_nrs hx y (pm.mem_iff.mp (by simpa using hy))
  refine ⟨ys, st1, n1, by simpa using pm, ?_⟩
  simp [d_law_shuffled, ht]
  rw [lp]
  simp
  rw [← n1.len]
  have := shut_cell (st := st) (st1 := st1) (ext := [.lst [], .lst ys]) (k := 1) (c := .lst ys) n1.len n1.outer rfl (by simpa using nry)
  rw [n1.len]
  exact this
theorem sp_shuffled {st : Store} {i : Nat} (h : SrcAt st i) {xs : List D} (hx : D.nrs xs = true) (hl : xs.length ≤ 900) (hL : 1000 ≤ L) {n : Nat} (hn : 2 ≤ n) :
    ∃ ys st1, Nxt i st st1 ∧ List.Perm ys xs ∧ shut st (callN tb L con kit n "" "_law_shuffled" [.ref i, .lst xs] st) = .ok (.lst ys) st1 := sp_shuffledT h list_lst hx hl hL hn
end
end Fg

set_option maxHeartbeats 4000000
/-! Pl3: the law's names, references and numbers. -/
namespace Fg
open PySem PySem.Spec PyProof.Rows L2 TL
/-- one draw for each -/
theorem lc_draw {f : D → Store → R (Option D)} {i : Nat} {P : D → D → Prop} : ∀ {ds : List D} {st : Store}, SrcAt st i → (∀ d ∈ ds, ∀ st, SrcAt st i → ∃ y st1, Nxt i st st1 ∧ P d y ∧ f d st = .ok (some y) st1) →
    ∃ ys st1, Nxt i st st1 ∧ F2 P ds ys ∧ lcLoop f .free ds st = .ok ys st1
  | [], st, h, _ => ⟨[], st, Nxt.refl h, .nil, lcLoop_nil⟩
  | d :: ds, st, h, hf => by
    obtain ⟨y, st1, n1, p1, e1⟩ := hf d (by simp) st h
    obtain ⟨ys, st2, n2, p2, e2⟩ := lc_draw (ds := ds) (n1.at h) fun x hx => hf x (by simp [hx])
    exact ⟨y :: ys, st2, n1.trans n2, .cons p1 p2, by rw [lcLoop_cons, e1, LC_ok, e2, LC2_some]⟩
theorem F2.mem {α β : Type} {P : α → β → Prop} {xs : List α} {ys : List β} (h : F2 P xs ys) : ∀ y ∈ ys, ∃ x ∈ xs, P x y := by
  induction h with
  | nil => intro y hy; simp at hy
  | cons a _ ih =>
    intro y hy
    rcases List.mem_cons.mp hy with rfl | hy
    · exact ⟨_, by simp, a⟩
    · obtain ⟨x, hx, hp⟩ := ih y hy
      exact ⟨x, by simp [hx], hp⟩
theorem rngI_len (k : Int) : (rngI 0 k).length = k.toNat := by simp [rngI]
theorem rng1_of {k : Int} (h0 : 0 ≤ k) (h1 : k < 1000) : rng1Of (.int k) = some (rngI 0 k) := by
  show (if _ then _ else _) = _
  rw [if_pos ⟨by omega, by omega⟩]
section
variable {L : Nat} {kit : TyK → TyK → Option Bool} {b : Bool}
theorem sp_number {st : Store} {i : Nat} (h : SrcAt st i) {n : Nat} (hn : 2 ≤ n) :
    ∃ a st1, Nxt i st st1 ∧ NumOk a ∧ shut st (callN tb L con kit n "" "_law_number" [.ref i] st) = .ok (.int (a : Int)) st1 := by
  obtain ⟨m, rfl, e⟩ := callN_at (n := n) (L := L) (con := con) (kit := kit) (st := st) t_law_number (ds := [.ref i]) rfl (by omega)
  rw [e]
  clear e
  have hm : 1 ≤ m := by omega
  have p30 : binV .Pow (.int 10) (.int 30) = some (.int (10 ^ 30)) := pow_int (by decide) (by decide) (by decide)
  have p9 : binV .Pow (.int 10) (.int 9) = some (.int (10 ^ 9)) := pow_int (by decide) (by decide) (by decide)
  have p12 : binV .Pow (.int 10) (.int 12) = some (.int (10 ^ 12)) := pow_int (by decide) (by decide) (by decide)
  obtain ⟨r, st1, n1, r0, r1, e1⟩ := sp_pickS (L := L) (kit := kit) h (k := 5) (by decide) (by decide) hm
  have h1 := n1.at h
  by_cases hr : r = 0
  · subst hr
    obtain ⟨q, st2, n2, q0, q1, e2⟩ := sp_pickS (L := L) (kit := kit) h1 (k := 2) (by decide) (by decide) hm
    have n02 := n1.trans n2
    refine ⟨(10 ^ 30 - q).toNat, st2, n02, by unfold NumOk; omega, ?_⟩
    have c : (((10 ^ 30 - q).toNat : Nat) : Int) = 10 ^ 30 - q := by omega
    rw [c]
    simp [-Int.reducePow, d_law_number, e1, e2, p30]
    exact shut_nxt0 n02 rfl
  · by_cases hr4 : r < 4
    · obtain ⟨q, st2, n2, q0, q1, e2⟩ := sp_pickS (L := L) (kit := kit) h1 (k := 10) (by decide) (by decide) hm
      have n02 := n1.trans n2
      refine ⟨q.toNat, st2, n02, by unfold NumOk; omega, ?_⟩
      have c : ((q.toNat : Nat) : Int) = q := by omega
      rw [c]
      simp [-Int.reducePow, d_law_number, e1, e2, hr, hr4]
      exact shut_nxt0 n02 rfl
    · obtain ⟨q, st2, n2, q0, q1, e2⟩ := sp_pickS (L := L) (kit := kit) h1 (k := 10 ^ 9) (by decide) (by decide +kernel) hm
      obtain ⟨u, st3, n3, u0, u1, e3⟩ := sp_pickS (L := L) (kit := kit) (n2.at h1) (k := 1000) (by decide) (by decide) hm
      have n03 := (n1.trans n2).trans n3
      have m1 : binV .Mult (.int q) (.int (10 ^ 12)) = some (.int (q * 10 ^ 12)) := mul_c (.inr ⟨by decide, by decide⟩)
      refine ⟨(q * 10 ^ 12 + u).toNat, st3, n03, by unfold NumOk; omega, ?_⟩
      have c : (((q * 10 ^ 12 + u).toNat : Nat) : Int) = q * 10 ^ 12 + u := by omega
      rw [c]
      simp [-Int.reducePow, d_law_number, e1, e2, e3, hr, hr4, p9, p12, m1]
      exact shut_nxt0 n03 rfl
def kwL : List Str := [S "book", S "module", S "use", S "tie", S "kind", S "plug", S "socket", S "let", S "claim", S "want", S "seat", S "more", S "within", S "wires", S "shares", S "rule", S "proof", S "search", S "lanes", S "at", S "to", S "from", S "by", S "with", S "rest", S "show", S "end"]
theorem kwL_split : Txt.split (S "book module use tie kind plug socket let claim want seat more within wires shares rule proof search lanes at to from by with rest show end") (S " ") = kwL := by
  have e : S "book module use tie kind plug socket let claim want seat more within wires shares rule proof search lanes at to from by with rest show end" = Txt.join (S " ") kwL := by
    rw [join_eq]
    apply ext_tl
    rw [tl_join]
    decide +kernel
  rw [e]
  exact split_join (s := 32) (S := []) (by rw [tl_ofString]; rfl) (by decide +kernel) (by simp [kwL]) (fun p hp => by
    have : ∀ p ∈ kwL, 32 ∉ tl p := by decide +kernel
    exact this p hp)
theorem kw_mem (x : Str) : x ∈ kwL ↔ x ∈ kwS := ⟨fun h => (by decide +kernel : ∀ x ∈ kwL, x ∈ kwS) x h, fun h => (by decide +kernel : ∀ x ∈ kwS, x ∈ kwL) x h⟩
theorem let_ac : ∀ c ∈ letS, c < 128 := by decide +kernel
theorem dig_ac : ∀ c ∈ digS, c < 128 := by decide +kernel
/-- letters and figures, the first a letter, no keyword: a name -/
theorem name_of {w : Str} {c : Nat} {cs : List Nat} (e : tl w = c :: cs) (hc : c ∈ letS) (hcs : ∀ x ∈ cs, x ∈ letS ∨ x ∈ digS) (hl : w.length ≤ 16) (hk : w ∉ kwS) : NmOk w := by
  refine ⟨⟨by omega, fun x hx => ?_⟩, ?_⟩
  · rw [e] at hx
    rcases List.mem_cons.mp hx with rfl | hx
    · exact let_ac _ hc
    · rcases hcs _ hx with h | h
      · exact let_ac _ h
      · exact dig_ac _ h
  · unfold isName
    rw [e]
    simp only [hl, hk, hc, List.contains_eq_mem, decide_true, decide_false, Bool.not_false, Bool.true_and, List.all_cons, Bool.true_or, List.all_eq_true, Bool.or_eq_true, decide_eq_true_eq]
    exact hcs
theorem join_flat : ∀ ws : List Str, tl (Txt.join (S "") ws) = (ws.map tl).flatten := by
  intro ws
  rw [join_eq, tl_join, tl_ofString]
  have : ∀ ls : List (List Nat), joinL [] ls = ls.flatten := by
    intro ls
    induction ls with
    | nil => rfl
    | cons a r ih =>
      cases r with
      | nil => simp [joinL]
      | cons b r =>
        rw [List.flatten_cons, ← ih]
        simp [joinL]
  exact this _
theorem pick_letter {xs : List Nat} {r : Int} (h0 : 0 ≤ r) (h1 : r < xs.length) : ∃ c ∈ xs, atI xs r = some c := by
  obtain ⟨j, rfl⟩ : ∃ j : Nat, r = j := ⟨r.toNat, by omega⟩
  have hj : j < xs.length := by omega
  exact ⟨xs[j], List.getElem_mem hj, by rw [atI_nat, List.getElem?_eq_getElem hj]⟩
theorem sum_singles : ∀ zs : List Nat, ((zs.map fun x => (⟨#[x]⟩ : Str)).map (·.length)).sum = zs.length
  | [] => rfl
  | z :: zs => by
    simp only [List.map_cons, List.sum_cons, sum_singles zs, List.length_cons]
    show 1 + _ = _
    omega
theorem flat_singles : ∀ zs : List Nat, tl (Txt.join (S "") (zs.map fun x => (⟨#[x]⟩ : Str))) = zs := fun zs => by
  rw [join_flat, List.map_map]
  induction zs with
  | nil => rfl
  | cons z zs ih => rw [List.map_cons, List.flatten_cons, ih]; rfl
theorem let_len : letS.length = 52 := by decide +kernel
theorem dig_len : digS.length = 10 := by decide +kernel
theorem nm_signs {w : Str} (h : isName w = true) : ∃ c cs, tl w = c :: cs ∧ c ∈ letS ∧ (∀ x ∈ c :: cs, x ∈ letS ∨ x ∈ digS) ∧ w.length ≤ 16 := by
  unfold isName at h
  split at h
  · cases h
  · rename_i c cs e
    simp only [Bool.and_eq_true, decide_eq_true_eq, List.all_eq_true, Bool.or_eq_true] at h
    exact ⟨c, cs, e, h.1.2, h.2, h.1.1.1⟩
theorem nm_free {w : Str} (h : NmOk w) {x : Nat} (hx : x ∉ letS ++ digS) : x ∉ tl w := fun z => by
  obtain ⟨c, cs, e, _, h3, _⟩ := nm_signs h.2
  rw [e] at z
  exact hx (List.mem_append.mpr (h3 x z))
theorem sp_name {st : Store} {i : Nat} (h : SrcAt st i) {n : Nat} (hn : 2 ≤ n) :
    ∃ w st1, Nxt i st st1 ∧ NmOk w ∧ shut st (callN tb L con kit n "" "_law_name" [.ref i] st) = .ok (.str w) st1 := by
  obtain ⟨m, rfl, e⟩ := callN_at (n := n) (L := L) (con := con) (kit := kit) (st := st) t_law_name (ds := [.ref i]) rfl (by omega)
  rw [e]
  clear e
  have hm : 1 ≤ m := by omega
  generalize hlet : (Str.ofString "abcdefghijklmnopqrstuvwxyzABCDEFGHIJKLMNOPQRSTUVWXYZ") = lets
  have tll : tl lets = letS := by rw [← hlet]; rfl
  have ll : lets.length = 52 := by rw [len_tl, tll]; exact let_len
  have s1 : ∀ (x : D) st, bmR "split" false x st (bmV st "split" (.str (S "book module use tie kind plug socket let claim want seat more within wires shares rule proof search lanes at to from by with rest show end")) [.str (S " ")]) = .ok (.lst (kwL.map .str)) st := fun x st => by
    rw [bm_split (by rw [S_len]; rfl) (by rw [S_len]; decide +kernel), kwL_split]
  -- the number of further signs
  have st3 : ∃ k st1, Nxt i st st1 ∧ 0 ≤ k ∧ k ≤ 15 ∧ evS (cfN tb L con kit m) i_law_name_2 [some (.ref i), some (.str lets), some (.lst (kwL.map .str)), none, none, none] st = .nx [some (.ref i), some (.str lets), some (.lst (kwL.map .str)), some (.int k), none, none] st1 := by
    obtain ⟨r, st1, n1, r0, r1, e1⟩ := sp_pickS (L := L) (kit := kit) h (k := 8) (by decide) (by decide) hm
    by_cases hr : r = 0
    · subst hr
      exact ⟨15, st1, n1, by decide, by decide, by simp [e1]⟩
    · obtain ⟨q, st2, n2, q0, q1, e2⟩ := sp_pickS (L := L) (kit := kit) (n1.at h) (k := 5) (by decide) (by decide) hm
      exact ⟨q, st2, n1.trans n2, q0, by omega, by simp [e1, e2, hr]⟩
  obtain ⟨k, st1, n1, k0, k1, e3⟩ := st3
  -- the signs
  have st4 : ∃ w st2, Nxt i st1 st2 ∧ (∃ c cs, tl w = c :: cs ∧ c ∈ letS ∧ ∀ x ∈ cs, x ∈ letS ∨ x ∈ digS) ∧ w.length ≤ 16 ∧ evS (cfN tb L con kit m) i_law_name_1 [some (.ref i), some (.str lets), some (.lst (kwL.map .str)), some (.int k), none, none] st1 = .nx [some (.ref i), some (.str lets), some (.lst (kwL.map .str)), some (.int k), some (.str w), none] st2 := by
    obtain ⟨r, s2, n2, r0, r1, e1⟩ := sp_pickS (L := L) (kit := kit) (n1.at h) (k := 52) (by decide) (by decide) hm
    obtain ⟨c, hc, ec⟩ := pick_letter (xs := letS) r0 (by rw [let_len]; exact r1)
    have i1 := idx_str (x := lets) (i := r) (by rw [ll]; decide)
    rw [show lets.cps.toList = letS from tll, ec] at i1
    obtain ⟨ys, s3, n3, f3, e2⟩ := lc_draw (i := i) (P := fun _ y => ∃ x, (x ∈ letS ∨ x ∈ digS) ∧ y = .str ⟨#[x]⟩) (ds := rngI 0 k) (st := s2)
      (f := lcBody (cfN tb L con kit m) [some (.ref i), some (.str lets), some (.lst (kwL.map .str)), some (.int k), none, none] [5] (.nm 5) (.con (.bl true)) (.idx (.bin false .Add (.var 1) (.con (.str (Str.ofString "0123456789")))) (.call true "_law_pick" (.cons (.var 0) (.cons (.con (.int 62)) .nil))))) (n2.at (n1.at h)) (by
        intro d hd s hs
        obtain ⟨q, s', n', q0, q1, e'⟩ := sp_pickS (L := L) (kit := kit) hs (k := 62) (by decide) (by decide) hm
        have a1 := add_str (x := lets) (y := Str.ofString "0123456789") (by rw [ll, S_len]; decide)
        have tlz : tl (lets ++ Str.ofString "0123456789") = letS ++ digS := by rw [tl_append, tll]; rfl
        obtain ⟨z, hz, ez⟩ := pick_letter (xs := letS ++ digS) q0 (by rw [List.length_append, let_len, dig_len]; exact q1)
        have i2 := idx_str (x := lets ++ Str.ofString "0123456789") (i := q) (by rw [len_app, ll, S_len]; decide)
        rw [show (lets ++ Str.ofString "0123456789").cps.toList = letS ++ digS from tlz, ez] at i2
        refine ⟨.str ⟨#[z]⟩, s', n', ⟨z, List.mem_append.mp hz, rfl⟩, ?_⟩
        simp [lcb, a1, e', i2])
    have hys : ∃ zs : List Nat, ys = zs.map (fun x => .str ⟨#[x]⟩) ∧ ∀ x ∈ zs, x ∈ letS ∨ x ∈ digS := by
      clear e2
      generalize rngI 0 k = ds at f3
      induction f3 with
      | nil => exact ⟨[], rfl, by simp⟩
      | cons a _ ih =>
        obtain ⟨x, hx, rfl⟩ := a
        obtain ⟨zs, rfl, hz⟩ := ih
        exact ⟨x :: zs, rfl, by simpa using ⟨hx, hz⟩⟩
    obtain ⟨zs, hzs, hz⟩ := hys
    have hlen : zs.length ≤ 15 := by
      have := f3.len
      rw [rngI_len, hzs, List.length_map] at this
      omega
    subst hzs
    have eqs : (zs.map fun x => D.str ⟨#[x]⟩) = (zs.map fun x => (⟨#[x]⟩ : Str)).map .str := by rw [List.map_map]; rfl
    have hsum := sum_singles zs
    have j1 := bm_join (st := s3) (a := S "") (ws := zs.map fun x => (⟨#[x]⟩ : Str)) (b := .lst (zs.map fun x => .str ⟨#[x]⟩)) (x := .str (S "")) (by rw [seqOf_lst, eqs]) (by
      rw [hsum, S_len]; simp; omega)
    have tj := flat_singles zs
    generalize Txt.join (S "") (zs.map fun x => (⟨#[x]⟩ : Str)) = J at j1 tj
    have lJ : J.length = zs.length := by rw [len_tl, tj]
    have a2 := add_str (x := (⟨#[c]⟩ : Str)) (y := J) (by rw [lJ]; show 1 + _ ≤ _; unfold sizeLine; omega)
    have tw : tl ((⟨#[c]⟩ : Str) ++ J) = c :: zs := by rw [tl_append, tj]; rfl
    refine ⟨⟨#[c]⟩ ++ J, s3, n2.trans n3, ⟨c, zs, tw, hc, hz⟩, by rw [len_tl, tw, List.length_cons]; omega, ?_⟩
    have zl : zs.length ≤ sizeLine := by unfold sizeLine; omega
    have rn := rng1_of (k := k) k0 (by omega)
    simp [e1, i1, rn]
    rw [e2]
    simp [zl, j1, a2]
  obtain ⟨w, st2, n2, ⟨c, cs, tw, hc, hcs⟩, wl, e4⟩ := st4
  have n02 := n1.trans n2
  have inK : inD st2 (.str w) (.lst (kwL.map .str)) = some (kwL.contains w) := in_Ls
  have start : ∀ r, evS (cfN tb L con kit m) i_law_name_0 [some (.ref i), some (.str lets), some (.lst (kwL.map .str)), some (.int k), some (.str w), none] st2 = r → (evSs (cfN tb L con kit m) d_law_name.body (List.map some [D.ref i] ++ List.replicate (d_law_name.ns - [D.ref i].length) none) st).out = (r.seq (evSs (cfN tb L con kit m) .nil)).out := by
    intro r hr
    show (evSs (cfN tb L con kit m) (.cons i_law_name_4 (.cons i_law_name_3 (.cons i_law_name_2 (.cons i_law_name_1 (.cons i_law_name_0 .nil))))) [some (.ref i), none, none, none, none, none] st).out = _
    have f4 : evS (cfN tb L con kit m) i_law_name_4 [some (.ref i), none, none, none, none, none] st = .nx [some (.ref i), some (.str lets), none, none, none, none] st := by simp [hlet]
    have f3 : evS (cfN tb L con kit m) i_law_name_3 [some (.ref i), some (.str lets), none, none, none, none] st = .nx [some (.ref i), some (.str lets), some (.lst (kwL.map .str)), none, none, none] st := by simp [s1]
    rw [es_cons, f4, RS.seq_nx, es_cons, f3, RS.seq_nx, es_cons, e3, RS.seq_nx, es_cons, e4, RS.seq_nx, es_cons, hr]
  by_cases hk : w ∈ kwL
  · have hks := (kw_mem w).mp hk
    have l7 : w.length ≤ 7 := (by decide +kernel : ∀ x ∈ kwS, x.length ≤ 7) w hks
    have a1 := add_str (x := w) (y := Str.ofString "1") (by rw [S_len]; show _ + 1 ≤ _; unfold sizeLine; omega)
    have tw1 : tl (w ++ Str.ofString "1") = c :: (cs ++ [49]) := by rw [tl_append, tw, tl_ofString]; rfl
    refine ⟨w ++ S "1", st2, n02, name_of tw1 hc (fun x hx => ?_) ?_ ?_, ?_⟩
    · rcases List.mem_append.mp hx with hx | hx
      · exact hcs x hx
      · rw [List.mem_singleton] at hx; subst hx; exact .inr (by decide +kernel)
    · rw [len_app, S_len]; show _ + 1 ≤ _; omega
    · intro z
      have : ∀ x ∈ kwS, 49 ∉ tl x := by decide +kernel
      exact this _ z (by rw [tw1]; simp)
    · rw [start (.rt (.str (w ++ S "1")) st2) (by simp [inK, hk, a1])]
      exact shut_nxt0 n02 rfl
  · refine ⟨w, st2, n02, name_of tw hc hcs wl fun z => hk ((kw_mem w).mpr z), ?_⟩
    rw [start (.rt (.str w) st2) (by simp [inK, hk])]
    exact shut_nxt0 n02 rfl
theorem nm_ref {w : Str} (h : NmOk w) : RefOk b w := by
  refine ⟨h.1, ?_⟩
  cases b with
  | true => simpa using h.2
  | false =>
    simp only [Bool.false_eq_true, if_false]
    unfold isRef
    rw [split_one (c := 46) (by rw [tl_ofString]; rfl) (by decide +kernel) (nm_free h (by decide +kernel))]
    simp [h.2]
theorem two_ref {w v : Str} (h : NmOk w) (h2 : NmOk v) : RefOk false (w ++ S "." ++ v) := by
  obtain ⟨_, _, _, _, _, l1⟩ := nm_signs h.2
  obtain ⟨_, _, _, _, _, l2⟩ := nm_signs h2.2
  refine ⟨⟨?_, ?_⟩, ?_⟩
  · rw [len_app, len_app, S_len]; show _ + 1 + _ ≤ _; omega
  · intro x hx
    rw [tl_append, tl_append, tl_ofString] at hx
    rcases List.mem_append.mp hx with hx | hx
    · rcases List.mem_append.mp hx with hx | hx
      · exact h.1.2 x hx
      · have : x = 46 := by simpa using hx
        omega
    · exact h2.1.2 x hx
  · simp only [Bool.false_eq_true, if_false]
    unfold isRef
    rw [split_two (c := 46) (by rw [tl_ofString]; rfl) (by decide +kernel) (nm_free h (by decide +kernel)) (nm_free h2 (by decide +kernel))]
    simp [h.2, h2.2]
theorem sp_ref {st : Store} {i : Nat} (h : SrcAt st i) {n : Nat} (hn : 3 ≤ n) :
    ∃ w st1, Nxt i st st1 ∧ RefOk b w ∧ shut st (callN tb L con kit n "" "_law_ref" [.ref i, .bl b] st) = .ok (.str w) st1 := by
  obtain ⟨m, rfl, e⟩ := callN_at (n := n) (L := L) (con := con) (kit := kit) (st := st) t_law_ref (ds := [.ref i, .bl b]) rfl (by omega)
  rw [e]
  clear e
  have hm : 2 ≤ m := by omega
  cases b with
  | true =>
    obtain ⟨w, st1, n1, hw, e1⟩ := sp_name (L := L) (kit := kit) h hm
    refine ⟨w, st1, n1, nm_ref hw, ?_⟩
    simp [d_law_ref, e1]
    exact shut_nxt0 n1 rfl
  | false =>
    obtain ⟨r, st1, n1, r0, r1, e1⟩ := sp_pickS (L := L) (kit := kit) h (k := 2) (by decide) (by decide) (show 1 ≤ m by omega)
    by_cases hr : r = 0
    · subst hr
      obtain ⟨w, st2, n2, hw, e2⟩ := sp_name (L := L) (kit := kit) (n1.at h) hm
      have n02 := n1.trans n2
      refine ⟨w, st2, n02, nm_ref hw, ?_⟩
      simp [d_law_ref, e1, e2]
      exact shut_nxt0 n02 rfl
    · obtain ⟨w, st2, n2, hw, e2⟩ := sp_name (L := L) (kit := kit) (n1.at h) hm
      obtain ⟨v, st3, n3, hv, e3⟩ := sp_name (L := L) (kit := kit) (n2.at (n1.at h)) hm
      have n03 := (n1.trans n2).trans n3
      obtain ⟨_, _, _, _, _, l1⟩ := nm_signs hw.2
      obtain ⟨_, _, _, _, _, l2⟩ := nm_signs hv.2
      have a1 := add_str (x := w) (y := Str.ofString ".") (by rw [S_len]; show _ + 1 ≤ _; unfold sizeLine; omega)
      have a2 := add_str (x := w ++ Str.ofString ".") (y := v) (by rw [len_app, S_len]; show _ + 1 + _ ≤ _; unfold sizeLine; omega)
      refine ⟨w ++ S "." ++ v, st3, n03, two_ref hw hv, ?_⟩
      simp [d_law_ref, e1, e2, e3, hr, a1, a2]
      exact shut_nxt0 n03 rfl
/-- references and names may stand in a text -/
theorem ref_first {r : Str} (h : isRef r = true) : ∃ c cs, tl r = c :: cs ∧ c ∈ letS := by
  unfold isRef at h
  simp only [Bool.and_eq_true, List.all_eq_true, decide_eq_true_eq] at h
  have hj := StrLaws.join_split r (S ".")
  cases hs : Txt.split r (S ".") with
  | nil =>
    rw [hs] at hj
    have : r = Str.empty := hj.symm
    subst this
    have h2 : Txt.split Str.empty (S ".") = [Str.empty] := by decide +kernel
    rw [h2] at hs
    cases hs
  | cons p ps =>
    rw [hs] at hj h
    obtain ⟨c, cs, e, hc, _⟩ := nm_signs (h.2 p (by simp))
    cases ps with
    | nil => exact ⟨c, cs, by rw [← hj]; exact e, hc⟩
    | cons q r' =>
      refine ⟨c, cs ++ tl (S "." ++ Str.join (S ".") (q :: r')), ?_, hc⟩
      rw [← hj]
      show tl (p ++ S "." ++ Str.join (S ".") (q :: r')) = _
      rw [app_assoc, tl_append, e]; rfl
theorem let_dig : ∀ c ∈ letS, c ∉ digS := by decide +kernel
theorem ref_num {r : Str} (h : isRef r = true) : isNum r = false := by
  obtain ⟨c, cs, e, hc⟩ := ref_first h
  have := let_dig c hc
  unfold isNum
  rw [e]
  simp [this]
theorem ref_free {r : Str} (h : isRef r = true) {x : Nat} (hx : x ∉ letS ++ digS) (h46 : x ≠ 46) : x ∉ tl r := by
  unfold isRef at h
  simp only [Bool.and_eq_true, List.all_eq_true, decide_eq_true_eq] at h
  rw [← StrLaws.join_split r (S "."), ← join_eq]
  refine join_free (by rw [tl_ofString]; simpa using h46) fun p hp => ?_
  obtain ⟨c, cs, e, _, h3, _⟩ := nm_signs (h.2 p hp)
  rw [e]
  exact fun z => hx (List.mem_append.mpr (h3 x z))
theorem wk_ref {r : Str} (hw : Wd r) (h : isRef r = true) : Wk r :=
  ⟨hw, ref_free h (by decide +kernel) (by decide), ref_free h (by decide +kernel) (by decide), fun z => by rw [ref_num h] at z; cases z⟩
theorem wk_rb {r : Str} (h : RefOk b r) : Wk r := by
  cases b with
  | true =>
    have h2 : RefOk false r := nm_ref ⟨h.1, by simpa using h.2⟩
    exact wk_ref h2.1 (by simpa using h2.2)
  | false => exact wk_ref h.1 (by simpa using h.2)
theorem wk_nm {r : Str} (h : NmOk r) : Wk r := wk_rb (nm_ref (b := true) h)
theorem wk_num {a : Nat} (h : NumOk a) : Wk (Nm a) := by
  refine ⟨nm_wd h, ?_, ?_, fun _ => ⟨nm_len h, a, ?_, h⟩⟩
  · rw [tl_Nm]; exact numL_free (by decide)
  · rw [tl_Nm]; exact numL_free (by decide)
  · exact int_num (by rw [← tl_Nm, ← len_tl]; exact Nat.le_trans (nm_len h) (by decide))
def wkB (s : String) : Bool := litB s && !(s.toList.map Char.toNat).contains 32 && !(s.toList.map Char.toNat).contains 10 && !isNum (S s)
theorem wk_lit {s : String} (h : wkB s = true) : Wk (S s) := by
  simp only [wkB, Bool.and_eq_true, Bool.not_eq_true', List.contains_eq_mem, decide_eq_false_iff_not] at h
  exact ⟨wd_lit h.1.1.1, by rw [tl_ofString]; exact h.1.1.2, by rw [tl_ofString]; exact h.1.2, fun z => by rw [h.2] at z; cases z⟩
end
end Fg

set_option maxHeartbeats 4000000
/-! Pl4: the law's rows and lines. -/
namespace Fg
open PySem PySem.Spec PyProof.Rows L2 TL
section
variable {L : Nat} {kit : TyK → TyK → Option Bool} {b : Bool}
theorem ll_cnt {w : List Str} {v : Int → D} (h : CntRow b w v) {l : Int} {n : Nat} (hn : 1 ≤ n) {st : Store} : callN tb L con kit n "" "_law_line" [v l] st = .ok (.str (lineOf w)) st := by
  obtain ⟨m, rfl, e⟩ := callN_at (n := n) (L := L) (con := con) (kit := kit) (st := st) t_law_line (ds := [v l]) rfl (by omega)
  rw [e]
  clear e
  cases h with
  | want h1 h2 => simp [d_law_line, lcLoop_cons, lcLoop_nil, lcb, wd_str h1.1, nm_str h2, add_lst, bm_joinW, h1.1, nm_wd h2]
  | seat h1 h2 => simp [d_law_line, lcLoop_cons, lcLoop_nil, lcb, wd_str h1.1, nm_str h2, add_lst, bm_joinW, h1.1, nm_wd h2]
theorem ll_claim {w : List Str} {v : Int → D} (h : ClmRow w v) {l : Int} {n : Nat} (hn : 1 ≤ n) {st : Store} : callN tb L con kit n "" "_law_line" [v l] st = .ok (.str (lineOf w)) st := by
  have m1 : Str.ofString "more want" = S "more" ++ S " " ++ S "want" := by show S "more want" = _; rw [S_cat (show "more " ++ "want" = "more want" by decide), S_cat (show "more" ++ " " = "more " by decide)]
  have m2 : Str.ofString "more seat" = S "more" ++ S " " ++ S "seat" := by show S "more seat" = _; rw [S_cat (show "more " ++ "seat" = "more seat" by decide), S_cat (show "more" ++ " " = "more " by decide)]
  cases h with
  | cnt h => exact ll_cnt h hn
  | @mwant r a h1 h2 =>
    obtain ⟨m, rfl, e⟩ := callN_at (n := n) (L := L) (con := con) (kit := kit) (st := st) t_law_line (ds := [.tup [.str (S "more want"), .int l, .str r, .int a]]) rfl (by omega)
    rw [e]
    clear e
    simp [d_law_line, lcLoop_cons, lcLoop_nil, lcb, wd_str h1.1, nm_str h2, add_lst, bm_joinW, h1.1, nm_wd h2, wd_mw]
    simp only [line_cons, line_one, m1, app_assoc]
  | @mseat r a h1 h2 =>
    obtain ⟨m, rfl, e⟩ := callN_at (n := n) (L := L) (con := con) (kit := kit) (st := st) t_law_line (ds := [.tup [.str (S "more seat"), .int l, .str r, .int a]]) rfl (by omega)
    rw [e]
    clear e
    simp [d_law_line, lcLoop_cons, lcLoop_nil, lcb, wd_str h1.1, nm_str h2, add_lst, bm_joinW, h1.1, nm_wd h2, wd_ms]
    simp only [line_cons, line_one, m2, app_assoc]
  | @within a h2 =>
    obtain ⟨m, rfl, e⟩ := callN_at (n := n) (L := L) (con := con) (kit := kit) (st := st) t_law_line (ds := [.tup [.str (S "within"), .int l, .int a]]) rfl (by omega)
    rw [e]
    clear e
    simp [d_law_line, lcLoop_cons, lcLoop_nil, lcb, nm_str h2, add_lst, bm_joinW, nm_wd h2]
  | @shares a h2 =>
    obtain ⟨m, rfl, e⟩ := callN_at (n := n) (L := L) (con := con) (kit := kit) (st := st) t_law_line (ds := [.tup [.str (S "shares"), .int l, .int a]]) rfl (by omega)
    rw [e]
    clear e
    simp [d_law_line, lcLoop_cons, lcLoop_nil, lcb, nm_str h2, add_lst, bm_joinW, nm_wd h2]
  | @wires r a h1 h2 =>
    obtain ⟨m, rfl, e⟩ := callN_at (n := n) (L := L) (con := con) (kit := kit) (st := st) t_law_line (ds := [.tup [.str (S "wires"), .int l, .str r, .int a]]) rfl (by omega)
    rw [e]
    clear e
    simp [d_law_line, lcLoop_cons, lcLoop_nil, lcb, wd_str h1.1, nm_str h2, add_lst, bm_joinW, h1.1, nm_wd h2]
theorem ll_word {x : String} (h1 : x ≠ "lanes") (h2 : x ≠ "at") (h3 : x ≠ "by") (hw : Wd (S x)) {l : Int} {n : Nat} (hn : 1 ≤ n) {st : Store} : callN tb L con kit n "" "_law_line" [.tup [.str (S x), .int l]] st = .ok (.str (lineOf [S x])) st := by
  obtain ⟨m, rfl, e⟩ := callN_at (n := n) (L := L) (con := con) (kit := kit) (st := st) t_law_line (ds := [.tup [.str (S x), .int l]]) rfl (by omega)
  rw [e]
  clear e
  simp [d_law_line, h1, h2, h3, lcLoop_nil, add_lst, bm_joinW, hw]
theorem ports_len {iw : List Str} (h : ∀ p ∈ iw, Wd p) (hl : iw.length ≤ 2) : (lineOf iw).length ≤ 300 := by
  have := join_len (S " ") 100 (ps := iw) fun p hp => (h p hp).l100
  have e : (S " ").length = 1 := S_len " "
  unfold lineOf
  rw [e] at this
  have : iw.length * (100 + 1) ≤ 2 * (100 + 1) := Nat.mul_le_mul_right _ hl
  omega
theorem ll_row {w : List Str} {v : Int → D} (h : PRow b w v) {l : Int} {n : Nat} (hn : 1 ≤ n) {st : Store} : callN tb L con kit n "" "_law_line" [v l] st = .ok (.str (lineOf w)) st := by
  obtain ⟨m, rfl, e⟩ := callN_at (n := n) (L := L) (con := con) (kit := kit) (st := st) t_law_line (ds := [v l]) rfl (by omega)
  rw [e]
  clear e
  have s1 : Str.ofString "lanes " = S "lanes" ++ S " " := S_cat (by decide)
  have s2 : Str.ofString "at " = S "at" ++ S " " := S_cat (by decide)
  have s3 : Str.ofString " to " = S " " ++ (S "to" ++ S " ") := by show S " to " = _; rw [S_cat (show " " ++ "to " = " to " by decide), S_cat (show "to" ++ " " = "to " by decide)]
  cases h with
  | @lanesQ r h1 =>
    have a1 := add_str (x := Str.ofString "lanes ") (y := r) (by have := h1.1.1; rw [S_len]; show 6 + _ ≤ _; unfold sizeLine; omega)
    have a2 := add_str (x := Str.ofString "lanes " ++ r) (y := Str.ofString " ") (by have := h1.1.1; rw [len_app, S_len, S_len]; show 6 + _ + 1 ≤ _; unfold sizeLine; omega)
    have a3 := add_str (x := Str.ofString "lanes " ++ r ++ Str.ofString " ") (y := Str.ofString "?") (by have := h1.1.1; rw [len_app, len_app, S_len, S_len, S_len]; show 6 + _ + 1 + 1 ≤ _; unfold sizeLine; omega)
    simp [d_law_line, a1, a2, a3]
    simp only [line_cons, line_one, s1, app_assoc]
  | @lanes r a h1 h2 =>
    have a1 := add_str (x := Str.ofString "lanes ") (y := r) (by have := h1.1.1; rw [S_len]; show 6 + _ ≤ _; unfold sizeLine; omega)
    have a2 := add_str (x := Str.ofString "lanes " ++ r) (y := Str.ofString " ") (by have := h1.1.1; rw [len_app, S_len, S_len]; show 6 + _ + 1 ≤ _; unfold sizeLine; omega)
    have a3 := add_str (x := Str.ofString "lanes " ++ r ++ Str.ofString " ") (y := Nm a) (by have := h1.1.1; have := nm_len h2; rw [len_app, len_app, S_len, S_len]; show 6 + _ + 1 + _ ≤ _; unfold sizeLine; omega)
    simp [d_law_line, a1, a2, a3, nm_str h2]
    simp only [line_cons, line_one, s1, app_assoc]
  | @at_ iw ow iv ov r a c d h1 hi ho h2 h3 h4 =>
    have hiv := hi.port
    have hov := ho.port
    subst hiv hov
    have w1 := h1.1
    have hne := hi.ne
    have hno := ho.ne
    have j1 := bm_joinW (st := st) (x := .str (S " ")) (xs := iw.map .str) (b := .tup (iw.map .str)) rfl (okW_Wd hi.wd) (by have := hi.len; simp; omega)
    have j2 := bm_joinW (st := st) (x := .str (S " ")) (xs := ow.map .str) (b := .tup (ow.map .str)) rfl (okW_Wd ho.wd) (by have := ho.len; simp; omega)
    rw [strD_map] at j1 j2
    have e0 : (S " ").length = 1 := S_len " "
    have e1 : (S "at ").length = 3 := S_len "at "
    have e2 : (S " to ").length = 4 := S_len " to "
    have lr := w1.1
    have la := nm_len h2
    have lc := nm_len h3
    have ld := nm_len h4
    have li := ports_len hi.wd hi.len
    have lo := ports_len ho.wd ho.len
    have key : lineOf (S "at" :: r :: (iw ++ (Nm a :: Nm c :: S "to" :: (ow ++ [Nm d])))) = S "at" ++ (S " " ++ (r ++ (S " " ++ (lineOf iw ++ (S " " ++ (Nm a ++ (S " " ++ (Nm c ++ (S " " ++ (S "to" ++ (S " " ++ (lineOf ow ++ (S " " ++ Nm d))))))))))))) := by
      rw [line_cons]
      rw [show r :: (iw ++ (Nm a :: Nm c :: S "to" :: (ow ++ [Nm d]))) = [r] ++ (iw ++ (Nm a :: Nm c :: S "to" :: (ow ++ [Nm d]))) from rfl, line_app (by simp) (by simp), line_one, line_app hne (by simp), line_cons, line_cons]
      rw [show (S "to" :: (ow ++ [Nm d])) = [S "to"] ++ (ow ++ [Nm d]) from rfl, line_app (by simp) (by simp), line_one, line_app hno (by simp), line_one]
    rw [key]
    generalize lineOf iw = LI at *
    generalize lineOf ow = LO at *
    have a1 := add_str (x := S "at ") (y := r) (by (try simp only [len_app]); unfold sizeLine; omega)
    have a2 := add_str (x := S "at " ++ r) (y := S " ") (by (try simp only [len_app]); unfold sizeLine; omega)
    have a3 := add_str (x := S "at " ++ r ++ S " ") (y := LI) (by (try simp only [len_app]); unfold sizeLine; omega)
    have a4 := add_str (x := S "at " ++ r ++ S " " ++ LI) (y := S " ") (by (try simp only [len_app]); unfold sizeLine; omega)
    have a5 := add_str (x := S "at " ++ r ++ S " " ++ LI ++ S " ") (y := Nm a) (by (try simp only [len_app]); unfold sizeLine; omega)
    have a6 := add_str (x := S "at " ++ r ++ S " " ++ LI ++ S " " ++ Nm a) (y := S " ") (by (try simp only [len_app]); unfold sizeLine; omega)
    have a7 := add_str (x := S "at " ++ r ++ S " " ++ LI ++ S " " ++ Nm a ++ S " ") (y := Nm c) (by (try simp only [len_app]); unfold sizeLine; omega)
    have a8 := add_str (x := S "at " ++ r ++ S " " ++ LI ++ S " " ++ Nm a ++ S " " ++ Nm c) (y := S " to ") (by (try simp only [len_app]); unfold sizeLine; omega)
    have a9 := add_str (x := S "at " ++ r ++ S " " ++ LI ++ S " " ++ Nm a ++ S " " ++ Nm c ++ S " to ") (y := LO) (by (try simp only [len_app]); unfold sizeLine; omega)
    have a10 := add_str (x := S "at " ++ r ++ S " " ++ LI ++ S " " ++ Nm a ++ S " " ++ Nm c ++ S " to " ++ LO) (y := S " ") (by (try simp only [len_app]); unfold sizeLine; omega)
    have a11 := add_str (x := S "at " ++ r ++ S " " ++ LI ++ S " " ++ Nm a ++ S " " ++ Nm c ++ S " to " ++ LO ++ S " ") (y := Nm d) (by (try simp only [len_app]); unfold sizeLine; omega)
    simp [d_law_line, j1, j2, nm_str h2, nm_str h3, nm_str h4, a1, a2, a3, a4, a5, a6, a7, a8, a9, a10, a11]
    simp only [s2, s3, app_assoc]
theorem ll_by {w : List Str} {v : Int → D} (h : ByRow w v) {l : Int} {n : Nat} (hn : 1 ≤ n) {st : Store} : callN tb L con kit n "" "_law_line" [v l] st = .ok (.str (lineOf w)) st := by
  obtain ⟨m, rfl, e⟩ := callN_at (n := n) (L := L) (con := con) (kit := kit) (st := st) t_law_line (ds := [v l]) rfl (by omega)
  rw [e]
  clear e
  have s1 : Str.ofString "by " = S "by" ++ S " " := S_cat (by decide)
  have s3 : Str.ofString " with " = S " " ++ (S "with" ++ S " ") := by show S " with " = _; rw [S_cat (show " " ++ "with " = " with " by decide), S_cat (show "with" ++ " " = "with " by decide)]
  cases h with
  | @mk r ks ns h1 h2 h3 h4 h5 h6 h7 =>
    have w1 : ∀ k ∈ ks, Wd k := fun k h => (h3 k h).1
    have w2 : ∀ k ∈ ns, Wd k := fun k h => (h4 k h).1
    have j1 := bm_joinW (st := st) (x := .str (S " ")) (xs := ks.map .str) (b := .tup (ks.map .str)) rfl (okW_Wd w1) (by simp; omega)
    have j2 := bm_joinW (st := st) (x := .str (S " ")) (xs := ns.map .str) (b := .tup (ns.map .str)) rfl (okW_Wd w2) (by simp; omega)
    rw [strD_map] at j1 j2
    have e0 : (S " ").length = 1 := S_len " "
    have e1 : (S "by ").length = 3 := S_len "by "
    have e2 : (S " with ").length = 6 := S_len " with "
    have lr := h2.1
    have bl : ∀ zs : List Str, (∀ k ∈ zs, Wd k) → zs.length ≤ 36 → (lineOf zs).length ≤ 5000 := fun zs hz hzl => by
      have := join_len (S " ") 100 (ps := zs) fun p hp => (hz p hp).l100
      unfold lineOf
      rw [e0] at this
      have : zs.length * (100 + 1) ≤ 36 * (100 + 1) := Nat.mul_le_mul_right _ hzl
      omega
    have lk := bl ks w1 (by omega)
    have ln := bl ns w2 (by omega)
    have key : lineOf (S "by" :: r :: (ks ++ (S "with" :: ns))) = S "by" ++ (S " " ++ (r ++ (S " " ++ (lineOf ks ++ (S " " ++ (S "with" ++ (S " " ++ lineOf ns))))))) := by
      rw [line_cons, line_cons' (a := r) (by simp), line_app h5 (by simp), line_cons' (a := S "with") h6]
    rw [key]
    generalize lineOf ks = LK at *
    generalize lineOf ns = LN at *
    have a1 := add_str (x := S "by ") (y := r) (by (try simp only [len_app]); unfold sizeLine; omega)
    have a2 := add_str (x := S "by " ++ r) (y := S " ") (by (try simp only [len_app]); unfold sizeLine; omega)
    have a3 := add_str (x := S "by " ++ r ++ S " ") (y := LK) (by (try simp only [len_app]); unfold sizeLine; omega)
    have a4 := add_str (x := S "by " ++ r ++ S " " ++ LK) (y := S " with ") (by (try simp only [len_app]); unfold sizeLine; omega)
    have a5 := add_str (x := S "by " ++ r ++ S " " ++ LK ++ S " with ") (y := LN) (by (try simp only [len_app]); unfold sizeLine; omega)
    simp [d_law_line, j1, j2, a1, a2, a3, a4, a5]
    simp only [s1, s3, app_assoc]
end
end Fg

set_option maxHeartbeats 4000000
/-! Pl5: the law's rows drawn and numbered. -/
namespace Fg
open PySem PySem.Spec PyProof.Rows L2 TL
def renum : D → Int → D
  | .tup (h :: _ :: r), l => .tup (h :: .int l :: r)
  | d, _ => d
def num (l : Int) : List D → List D
  | [] => []
  | d :: ds => renum d l :: num (l + 1) ds
theorem num_len : ∀ {ds : List D} {l : Int}, (num l ds).length = ds.length
  | [], _ => rfl
  | d :: ds, l => by rw [num, List.length_cons, num_len, List.length_cons]
theorem num_get : ∀ {ds : List D} {l : Int} {i : Nat} (h : i < ds.length), (num l ds)[i]? = some (renum ds[i] (l + i))
  | [], _, i, h => by simp at h
  | d :: ds, l, 0, h => by simp [num]
  | d :: ds, l, i + 1, h => by
    rw [num, List.getElem?_cons_succ, num_get (by simpa using h)]
    rw [show l + 1 + (i : Int) = l + ((i + 1 : Nat) : Int) by omega]
    simp
theorem num_map {ds : List D} {l : Int} : num l ds = (List.range ds.length).map fun i => renum (ds.getD i .non) (l + i) := by
  apply List.ext_getElem?
  intro i
  by_cases h : i < ds.length
  · rw [num_get h, List.getElem?_map, List.getElem?_range h]
    simp [h]
  · rw [List.getElem?_eq_none (by rw [num_len]; omega), List.getElem?_eq_none (by simp; omega)]
/-- a row as it is drawn: its line is yet 0 -/
def Raw (P : List Str → (Int → D) → Prop) (d : D) : Prop := ∃ w v, P w v ∧ d = v 0 ∧ (∀ l, renum (v 0) l = v l) ∧ ∃ h r, v 0 = .tup (h :: .int 0 :: r)
theorem raw_rows {P : List Str → (Int → D) → Prop} : ∀ {ds : List D}, (∀ d ∈ ds, Raw P d) → ∃ ws vs, Rows P ws vs ∧ ws.length = ds.length ∧ ∀ l, num l ds = vs l
  | [], _ => ⟨[], fun _ => [], .nil, rfl, fun _ => rfl⟩
  | d :: ds, h => by
    obtain ⟨w, v, hp, rfl, hr, _⟩ := h d (by simp)
    obtain ⟨ws, vs, hs, hl, he⟩ := raw_rows (ds := ds) fun x hx => h x (by simp [hx])
    exact ⟨w :: ws, _, .cons hp hs, by simp [hl], fun l => by rw [num, hr, he]⟩
theorem rows_prows {b : Bool} {ws : List (List Str)} {vs : Int → List D} (h : Rows (PRow b) ws vs) : PRows b ws vs := by
  induction h with
  | nil => exact .nil
  | cons h _ ih => exact .cons h ih
theorem num_app : ∀ {ds es : List D} {l : Int}, num l (ds ++ es) = num l ds ++ num (l + ds.length) es
  | [], es, l => by simp [num]
  | d :: ds, es, l => by
    rw [List.cons_append, num, num_app, num, List.cons_append]
    rw [show l + 1 + (ds.length : Int) = l + ((d :: ds).length : Int) by simp; omega]
section
variable {L : Nat} {kit : TyK → TyK → Option Bool} {b : Bool}
theorem CntRow.raw {w : List Str} {v : Int → D} (h : CntRow b w v) : Raw (CntRow b) (v 0) := by
  have h' := h
  cases h <;> exact ⟨_, _, h', rfl, fun _ => rfl, _, _, rfl⟩
theorem ClmRow.raw {w : List Str} {v : Int → D} (h : ClmRow w v) : Raw ClmRow (v 0) := by
  have h' := h
  cases h with
  | cnt h => cases h <;> exact ⟨_, _, h', rfl, fun _ => rfl, _, _, rfl⟩
  | _ => exact ⟨_, _, h', rfl, fun _ => rfl, _, _, rfl⟩
theorem PRow.raw {w : List Str} {v : Int → D} (h : PRow b w v) : Raw (PRow b) (v 0) := by
  have h' := h
  cases h <;> exact ⟨_, _, h', rfl, fun _ => rfl, _, _, rfl⟩
/-- rows with a first word and a line -/
def Shp (d : D) : Prop := ∃ h r, d = .tup (h :: .int 0 :: r) ∧ D.nr d = true ∧ r.length ≤ 100
theorem sp_numbered {ds : List D} (h : ∀ d ∈ ds, Shp d) (hl : ds.length ≤ 900) {l : Int} {n : Nat} (hn : 1 ≤ n) {st : Store} :
    shut st (callN tb L con kit n "" "_law_numbered" [.lst ds, .int l] st) = .ok (.tup (num l ds)) st := by
  obtain ⟨m, rfl, e⟩ := callN_at (n := n) (L := L) (con := con) (kit := kit) (st := st) t_law_numbered (ds := [.lst ds, .int l]) rfl (by omega)
  rw [e]
  clear e
  have rn := rng1_of (k := (ds.length : Int)) (by omega) (by omega)
  have er : rngI 0 (ds.length : Int) = (List.range ds.length).map fun i => .int (i : Int) := by
    unfold rngI
    rw [show ((ds.length : Int) - 0).toNat = ds.length by omega]
    apply List.map_congr_left
    intro i _
    rw [Int.zero_add]
  have ll : ds.length ≤ sizeLine := by unfold sizeLine; omega
  have nrn : D.nrs (num l ds) = true := nrs_mem fun x hx => by
    obtain ⟨i, hi, rfl⟩ := List.getElem_of_mem hx
    have hi' : i < ds.length := by rw [num_len] at hi; exact hi
    have := num_get (l := l) hi'
    rw [List.getElem?_eq_getElem hi] at this
    have e := Option.some.inj this
    rw [e]
    obtain ⟨h1, r, e1, h2, _⟩ := h ds[i] (List.getElem_mem hi')
    rw [e1] at h2 ⊢
    simpa [renum] using h2
  simp [d_law_numbered, rn, er]
  rw [lc_free fun i => renum (ds.getD i .non) (l + (i : Int))]
  · rw [← num_map]
    simp [num_len, ll, nrn]
  · intro i hi
    have hi' : i < ds.length := by simpa using hi
    have g : ds[i]? = some ds[i] := List.getElem?_eq_getElem hi'
    obtain ⟨h1, r, e1, h2, h3⟩ := h ds[i] (List.getElem_mem hi')
    rw [e1] at g
    have gd : ds.getD i .non = .tup (h1 :: .int 0 :: r) := by simp [List.getD, g]
    have a1 := add_tup (xs := [h1, .int (l + i)]) (ys := r) (by simp; unfold sizeLine; omega)
    rw [gd]
    simp at a1
    simp [lcb, g, a1, renum]
theorem raw_shp {P : List Str → (Int → D) → Prop} (hP : ∀ w v, P w v → D.nr (v 0) = true ∧ ∀ h r, v 0 = .tup (h :: .int 0 :: r) → r.length ≤ 100) {d : D} (h : Raw P d) : Shp d := by
  obtain ⟨w, v, hp, rfl, _, h1, r, e⟩ := h
  exact ⟨h1, r, e, (hP w v hp).1, (hP w v hp).2 h1 r e⟩
theorem clm_shp {d : D} (h : Raw ClmRow d) : Shp d := raw_shp (fun w v h => ⟨h.nr 0, fun h1 r e => by
  cases h with
  | cnt h => cases h <;> (injection e with e; injection e with _ e; injection e with _ e; subst e; simp)
  | _ => injection e with e; injection e with _ e; injection e with _ e; subst e; simp⟩) h
theorem cnt_shp {d : D} (h : Raw (CntRow b) d) : Shp d := raw_shp (fun w v h => ⟨h.nr 0, fun h1 r e => by
  cases h <;> (injection e with e; injection e with _ e; injection e with _ e; subst e; simp)⟩) h
theorem prow_shp {d : D} (h : Raw (PRow b) d) : Shp d := raw_shp (fun w v h => ⟨h.nr 0, fun h1 r e => by
  cases h <;> (injection e with e; injection e with _ e; injection e with _ e; subst e; simp)⟩) h
theorem f2_all {P : D → D → Prop} {Q : D → Prop} (hq : ∀ x y, P x y → Q y) {xs ys : List D} (h : F2 P xs ys) : ∀ y ∈ ys, Q y := fun y hy => by
  obtain ⟨x, _, hp⟩ := h.mem y hy
  exact hq x y hp
theorem sp_law_claim_t {st : Store} {i : Nat} (h : SrcAt st i) (hL : 1000 ≤ L) {n : Nat} (hn : 4 ≤ n) :
    ∃ ds st1, Nxt i st st1 ∧ ds.length = 2 ∧ (∀ d ∈ ds, Raw (CntRow true) d) ∧ shut st (callN tb L con kit n "" "_law_claim" [.ref i, .bl true] st) = .ok (.lst ds) st1 := by
  obtain ⟨m, rfl, e⟩ := callN_at (n := n) (L := L) (con := con) (kit := kit) (st := st) t_law_claim (ds := [.ref i, .bl true]) rfl (by omega)
  rw [e]
  clear e
  obtain ⟨ys, st1, n1, f1, e1⟩ := lc_draw (i := i) (P := fun d y => ∃ x a, RefOk true x ∧ NumOk a ∧ y = .tup [d, .int 0, .str x, .int (a : Int)]) (ds := [.str (S "want"), .str (S "seat")]) (st := st)
    (f := lcBody (cfN tb L con kit m) [some (.ref i), some (.bl true), some (.lst [.str (S "want"), .str (S "seat")]), none, none] [4] (.nm 4) (.con (.bl true)) (.tup (.cons (.var 4) (.cons (.con (.int 0)) (.cons (.call true "_law_ref" (.cons (.var 0) (.cons (.var 1) .nil))) (.cons (.call true "_law_number" (.cons (.var 0) .nil)) .nil)))))) h (by
      intro d hd s hs
      obtain ⟨x, s1, n1, hx, e1⟩ := sp_ref (L := L) (kit := kit) (b := true) hs (n := m) (by omega)
      obtain ⟨a, s2, n2, ha, e2⟩ := sp_number (L := L) (kit := kit) (n1.at hs) (n := m) (by omega)
      exact ⟨_, s2, n1.trans n2, ⟨x, a, hx, ha, rfl⟩, by simp [lcb, e1, e2]⟩)
  have hy : ys.length = 2 ∧ ∀ y ∈ ys, Raw (CntRow true) y := by
    refine ⟨by rw [← f1.len]; rfl, ?_⟩
    cases f1 with
    | cons a1 f1 =>
      cases f1 with
      | cons a2 f1 =>
        cases f1
        obtain ⟨x1, c1, hx1, hc1, rfl⟩ := a1
        obtain ⟨x2, c2, hx2, hc2, rfl⟩ := a2
        intro y hy
        simp only [List.mem_cons, List.not_mem_nil, or_false] at hy
        rcases hy with rfl | rfl
        · exact (CntRow.want hx1 hc1).raw
        · exact (CntRow.seat hx2 hc2).raw
  have nry : D.nrs ys = true := nrs_mem fun y h => by
    obtain ⟨_, _, _, h2, _⟩ := cnt_shp (hy.2 y h)
    exact h2
  obtain ⟨zs, st2, n2, pm, e2⟩ := sp_shuffled (L := L) (kit := kit) (n1.at h) nry (by omega) hL (n := m) (by omega)
  have n02 := n1.trans n2
  have nrz : D.nrs zs = true := nrs_mem fun z hz => mem_nrs nry z (pm.mem_iff.mp hz)
  refine ⟨zs, st2, n02, by rw [pm.length_eq]; exact hy.1, fun z hz => hy.2 z (pm.mem_iff.mp hz), ?_⟩
  have ll : ys.length ≤ sizeLine := by unfold sizeLine; omega
  have a1 := add_lst (xs := ys) (ys := []) (by simp; exact ll)
  simp at a1
  simp [d_law_claim]
  rw [e1]
  simp [ll, a1, e2]
  exact shut_nxt0 n02 (by simpa using nrz)
theorem sp_law_claim_f {st : Store} {i : Nat} (h : SrcAt st i) (hL : 1000 ≤ L) {n : Nat} (hn : 4 ≤ n) :
    ∃ ds st1, Nxt i st st1 ∧ ds.length = 7 ∧ (∀ d ∈ ds, Raw ClmRow d) ∧ shut st (callN tb L con kit n "" "_law_claim" [.ref i, .bl false] st) = .ok (.lst ds) st1 := by
  obtain ⟨m, rfl, e⟩ := callN_at (n := n) (L := L) (con := con) (kit := kit) (st := st) t_law_claim (ds := [.ref i, .bl false]) rfl (by omega)
  rw [e]
  clear e
  obtain ⟨ys, st1, n1, f1, e1⟩ := lc_draw (i := i) (P := fun d y => ∃ x a, RefOk false x ∧ NumOk a ∧ y = .tup [d, .int 0, .str x, .int (a : Int)]) (ds := [.str (S "want"), .str (S "seat"), .str (S "more want"), .str (S "more seat"), .str (S "wires")]) (st := st)
    (f := lcBody (cfN tb L con kit m) [some (.ref i), some (.bl false), some (.lst [.str (S "want"), .str (S "seat"), .str (S "more want"), .str (S "more seat"), .str (S "wires")]), none, none] [4] (.nm 4) (.con (.bl true)) (.tup (.cons (.var 4) (.cons (.con (.int 0)) (.cons (.call true "_law_ref" (.cons (.var 0) (.cons (.var 1) .nil))) (.cons (.call true "_law_number" (.cons (.var 0) .nil)) .nil)))))) h (by
      intro d hd s hs
      obtain ⟨x, s1, n1, hx, e1⟩ := sp_ref (L := L) (kit := kit) (b := false) hs (n := m) (by omega)
      obtain ⟨a, s2, n2, ha, e2⟩ := sp_number (L := L) (kit := kit) (n1.at hs) (n := m) (by omega)
      exact ⟨_, s2, n1.trans n2, ⟨x, a, hx, ha, rfl⟩, by simp [lcb, e1, e2]⟩)
  obtain ⟨us, st2, n2, f2, e2⟩ := lc_draw (i := i) (P := fun d y => ∃ a, NumOk a ∧ y = .tup [d, .int 0, .int (a : Int)]) (ds := [.str (S "within"), .str (S "shares")]) (st := st1)
    (f := lcBody (cfN tb L con kit m) [some (.ref i), some (.bl false), some (.lst [.str (S "want"), .str (S "seat"), .str (S "more want"), .str (S "more seat"), .str (S "wires")]), none, none] [4] (.nm 4) (.con (.bl true)) (.tup (.cons (.var 4) (.cons (.con (.int 0)) (.cons (.call true "_law_number" (.cons (.var 0) .nil)) .nil))))) (n1.at h) (by
      intro d hd s hs
      obtain ⟨a, s2, n2, ha, e2⟩ := sp_number (L := L) (kit := kit) hs (n := m) (by omega)
      exact ⟨_, s2, n2, ⟨a, ha, rfl⟩, by simp [lcb, e2]⟩)
  have hy : (ys ++ us).length = 7 ∧ ∀ y ∈ ys ++ us, Raw ClmRow y := by
    refine ⟨by rw [List.length_append, ← f1.len, ← f2.len]; rfl, ?_⟩
    cases f1 with
    | cons a1 f1 =>
      cases f1 with
      | cons a2 f1 =>
        cases f1 with
        | cons a3 f1 =>
          cases f1 with
          | cons a4 f1 =>
            cases f1 with
            | cons a5 f1 =>
              cases f1
              cases f2 with
              | cons b1 f2 =>
                cases f2 with
                | cons b2 f2 =>
                  cases f2
                  obtain ⟨x1, c1, hx1, hc1, rfl⟩ := a1
                  obtain ⟨x2, c2, hx2, hc2, rfl⟩ := a2
                  obtain ⟨x3, c3, hx3, hc3, rfl⟩ := a3
                  obtain ⟨x4, c4, hx4, hc4, rfl⟩ := a4
                  obtain ⟨x5, c5, hx5, hc5, rfl⟩ := a5
                  obtain ⟨c6, hc6, rfl⟩ := b1
                  obtain ⟨c7, hc7, rfl⟩ := b2
                  intro y hy
                  simp only [List.cons_append, List.nil_append, List.mem_cons, List.not_mem_nil, or_false] at hy
                  rcases hy with rfl | rfl | rfl | rfl | rfl | rfl | rfl
                  · exact (ClmRow.cnt (CntRow.want hx1 hc1)).raw
                  · exact (ClmRow.cnt (CntRow.seat hx2 hc2)).raw
                  · exact (ClmRow.mwant hx3 hc3).raw
                  · exact (ClmRow.mseat hx4 hc4).raw
                  · exact (ClmRow.wires hx5 hc5).raw
                  · exact (ClmRow.within hc6).raw
                  · exact (ClmRow.shares hc7).raw
  have nry : D.nrs (ys ++ us) = true := nrs_mem fun y h => by
    obtain ⟨_, _, _, h2, _⟩ := clm_shp (hy.2 y h)
    exact h2
  obtain ⟨zs, st3, n3, pm, e3⟩ := sp_shuffled (L := L) (kit := kit) (n2.at (n1.at h)) nry (by omega) hL (n := m) (by omega)
  have n03 := (n1.trans n2).trans n3
  have nrz : D.nrs zs = true := nrs_mem fun z hz => mem_nrs nry z (pm.mem_iff.mp hz)
  refine ⟨zs, st3, n03, by rw [pm.length_eq]; exact hy.1, fun z hz => hy.2 z (pm.mem_iff.mp hz), ?_⟩
  have h7 := hy.1
  rw [List.length_append] at h7
  have l1 : ys.length ≤ sizeLine := by unfold sizeLine; omega
  have l2 : us.length ≤ sizeLine := by unfold sizeLine; omega
  have a1 := add_lst (xs := ys) (ys := us) (by unfold sizeLine; omega)
  simp [d_law_claim]
  rw [e1]
  simp [l1]
  rw [e2]
  simp [l2, a1, e3]
  exact shut_nxt0 n03 (by simpa using nrz)
end
end Fg

set_option maxHeartbeats 4000000
/-! Pl6: the law's proofs drawn. -/
namespace Fg
open PySem PySem.Spec PyProof.Rows L2 TL
section
variable {L : Nat} {kit : TyK → TyK → Option Bool} {b : Bool}
theorem law_starts {st : Store} {i : Nat} (h : SrcAt st i) {m : Nat} (hm : 3 ≤ m) :
    ∃ ss st1, Nxt i st st1 ∧ ss.length ≤ 3 ∧ (∀ s ∈ ss, ∃ w, InP b w s) ∧ evS (cfN tb L con kit m) i_law_proof_4 [some (.ref i), some (.bl b), none, none, none, none] st = .nx [some (.ref i), some (.bl b), some (.lst ss), none, none, none] st1 := by
  obtain ⟨w, st1, n1, hw, e1⟩ := sp_name (L := L) (kit := kit) h (n := m) (by omega)
  cases b with
  | true =>
    refine ⟨[.tup [.str (S "want")], .tup [.str (S "socket"), .str w]], st1, n1, by simp, ?_, ?_⟩
    · intro s hs
      simp only [List.mem_cons, List.not_mem_nil, or_false] at hs
      rcases hs with rfl | rfl
      · exact ⟨_, .want⟩
      · exact ⟨_, .sock hw.1 hw.2⟩
    · have a1 := add_lst (xs := [.tup [.str (S "want")], .tup [.str (S "socket"), .str w]]) (ys := []) (by simp)
      simp at a1
      simp [e1, a1]
  | false =>
    obtain ⟨v, st2, n2, hv, e2⟩ := sp_ref (L := L) (kit := kit) (b := false) (n1.at h) (n := m) (by omega)
    refine ⟨[.tup [.str (S "want")], .tup [.str (S "socket"), .str w], .tup [.str (S "from"), .str v]], st2, n1.trans n2, by simp, ?_, ?_⟩
    · intro s hs
      simp only [List.mem_cons, List.not_mem_nil, or_false] at hs
      rcases hs with rfl | rfl | rfl
      · exact ⟨_, .want⟩
      · exact ⟨_, .sock hw.1 hw.2⟩
      · exact ⟨_, .from_ rfl hv.1 (by simpa using hv.2)⟩
    · have a1 := add_lst (xs := [.tup [.str (S "want")], .tup [.str (S "socket"), .str w]]) (ys := [.tup [.str (S "from"), .str v]]) (by simp)
      simp at a1
      simp [e1, e2, a1]
/-- the ends of one start -/
theorem loop_ends {m : Nat} (hm : 3 ≤ m) {i p : Nat} {x2 : Option D} {s : D} {w : List Str} (hs : InP b w s) : ∀ {es : List D} {fs : List D} {x5 : Option D} {st : Store}, st.length = p → SrcAt st i → (∀ e ∈ es, ∃ w, OutP b w e) → (∀ d ∈ fs, Raw (PRow b) d) → fs.length + es.length ≤ 100 →
    ∃ fs' x5' st1, Nxt i st st1 ∧ fs'.length = fs.length + es.length ∧ (∀ d ∈ fs', Raw (PRow b) d) ∧ forL (evSs (cfN tb L con kit m) wb_law_proof_0) (.nm 5) .free es [some (.ref i), some (.bl b), x2, some (.ref p), some s, x5] (st ++ [.lst fs])
      = .nx [some (.ref i), some (.bl b), x2, some (.ref p), some s, x5'] (st1 ++ [.lst fs']) := by
  intro es
  induction es with
  | nil =>
    intro fs x5 st hp h he hf hl
    exact ⟨fs, x5, st, Nxt.refl h, by simp, hf, by rw [forL_nil (by simp)]⟩
  | cons e es ih =>
    intro fs x5 st hp h he hf hl
    obtain ⟨ow, ho⟩ := he e (by simp)
    obtain ⟨r, t1, n1', hr, e1⟩ := sp_ref (L := L) (kit := kit) (b := b) (h.app (ext := [.lst fs])) (n := m) (by omega)
    obtain ⟨st1, n1, rfl⟩ := n1'.app h.lt
    have h1 := n1.at h
    obtain ⟨a, t2, n2', ha, e2⟩ := sp_number (L := L) (kit := kit) (h1.app (ext := [.lst fs])) (n := m) (by omega)
    obtain ⟨st2, n2, rfl⟩ := n2'.app h1.lt
    have h2 := n2.at h1
    obtain ⟨c, t3, n3', hc, e3⟩ := sp_number (L := L) (kit := kit) (h2.app (ext := [.lst fs])) (n := m) (by omega)
    obtain ⟨st3, n3, rfl⟩ := n3'.app h2.lt
    have h3 := n3.at h2
    obtain ⟨d, t4, n4', hd, e4⟩ := sp_number (L := L) (kit := kit) (h3.app (ext := [.lst fs])) (n := m) (by omega)
    obtain ⟨st4, n4, rfl⟩ := n4'.app h3.lt
    have h4 := n4.at h3
    have n04 := ((n1.trans n2).trans n3).trans n4
    have hp4 : st4.length = p := by rw [n04.len]; exact hp
    have hrow : Raw (PRow b) (.tup [.str (S "at"), .int 0, .str r, s, .int (a : Int), .int (c : Int), e, .int (d : Int)]) := (PRow.at_ hr hs ho ha hc hd).raw
    have ap := bm_append (st := st4 ++ [.lst fs]) (n := p) (xs := fs) (y := .tup [.str (S "at"), .int 0, .str r, s, .int (a : Int), .int (c : Int), e, .int (d : Int)]) (c := false) (app_get0' hp4) (by unfold sizeLine; omega)
    rw [app_set0' hp4] at ap
    have vw : ∀ {s : Store} {xs : List D}, s.length = p → view (s ++ [.lst xs]) (.ref p) = .lst xs := fun h => view_ref (app_get0' h)
    obtain ⟨fs', x5', st5, n5, hfl, hf', ih'⟩ := ih (fs := fs ++ [.tup [.str (S "at"), .int 0, .str r, s, .int (a : Int), .int (c : Int), e, .int (d : Int)]]) (x5 := some e) (st := st4) hp4 h4 (fun e he' => he e (by simp [he'])) (fun d hd => by
      rcases List.mem_append.mp hd with hd | hd
      · exact hf d hd
      · rw [List.mem_singleton] at hd; subst hd; exact hrow) (by simp at hl ⊢; omega)
    refine ⟨fs', x5', st5, n04.trans n5, by rw [hfl]; simp; omega, hf', ?_⟩
    rw [forL_cons (sl1 := [some (.ref i), some (.bl b), x2, some (.ref p), some s, some e]) (by simp) (by simp)]
    rw [show evSs (cfN tb L con kit m) wb_law_proof_0 [some (.ref i), some (.bl b), x2, some (.ref p), some s, some e] (st ++ [.lst fs]) = .nx [some (.ref i), some (.bl b), x2, some (.ref p), some s, some e] (st4 ++ [.lst (fs ++ [.tup [.str (S "at"), .int 0, .str r, s, .int (a : Int), .int (c : Int), e, .int (d : Int)]])]) by
      simp [wb_law_proof_0, vw hp, vw hp4, e1, e2, e3, e4, ap]]
    rw [RS.turn_nx, ih']
/-- the inner for, its ends drawn -/
theorem law_ends {m : Nat} (hm : 3 ≤ m) {i p : Nat} {x2 : Option D} {s : D} {w : List Str} (hs : InP b w s) {fs : List D} {x5 : Option D} {st : Store} (hp : st.length = p) (h : SrcAt st i) (hf : ∀ d ∈ fs, Raw (PRow b) d) (hl : fs.length ≤ 90) :
    ∃ fs' x5' st1, Nxt i st st1 ∧ fs'.length ≤ fs.length + 3 ∧ (∀ d ∈ fs', Raw (PRow b) d) ∧ evSs (cfN tb L con kit m) wb_law_proof_1 [some (.ref i), some (.bl b), x2, some (.ref p), some s, x5] (st ++ [.lst fs])
      = .nx [some (.ref i), some (.bl b), x2, some (.ref p), some s, x5'] (st1 ++ [.lst fs']) := by
  obtain ⟨w, t1, n1', hw, e1⟩ := sp_name (L := L) (kit := kit) (h.app (ext := [.lst fs])) (n := m) (by omega)
  obtain ⟨st1, n1, rfl⟩ := n1'.app h.lt
  have h1 := n1.at h
  have hp1 : st1.length = p := by rw [n1.len]; exact hp
  cases b with
  | true =>
    obtain ⟨fs', x5', st2, n2, hfl, hf', lp⟩ := loop_ends (L := L) (kit := kit) hm (i := i) (p := p) (x2 := x2) hs (es := [.tup [.str (S "seat")], .tup [.str (S "plug"), .str w]]) (fs := fs) (x5 := x5) (st := st1) hp1 h1 (by
      intro s hs
      simp only [List.mem_cons, List.not_mem_nil, or_false] at hs
      rcases hs with rfl | rfl
      · exact ⟨_, .seat⟩
      · exact ⟨_, .plug hw.1 hw.2⟩) hf (by simp; omega)
    refine ⟨fs', x5', st2, n1.trans n2, by rw [hfl]; simp, hf', ?_⟩
    have a1 := add_lst (xs := [.tup [.str (S "seat")], .tup [.str (S "plug"), .str w]]) (ys := []) (by simp)
    simp at a1
    simp [wb_law_proof_1, e1, a1]
    rw [lp]
    simp
  | false =>
    obtain ⟨v, t2, n2', hv, e2⟩ := sp_ref (L := L) (kit := kit) (b := false) (h1.app (ext := [.lst fs])) (n := m) (by omega)
    obtain ⟨st2, n2, rfl⟩ := n2'.app h1.lt
    have h2 := n2.at h1
    have hp2 : st2.length = p := by rw [n2.len]; exact hp1
    obtain ⟨fs', x5', st3, n3, hfl, hf', lp⟩ := loop_ends (L := L) (kit := kit) hm (i := i) (p := p) (x2 := x2) hs (es := [.tup [.str (S "seat")], .tup [.str (S "plug"), .str w], .tup [.str (S "by"), .str v]]) (fs := fs) (x5 := x5) (st := st2) hp2 h2 (by
      intro s hs
      simp only [List.mem_cons, List.not_mem_nil, or_false] at hs
      rcases hs with rfl | rfl | rfl
      · exact ⟨_, .seat⟩
      · exact ⟨_, .plug hw.1 hw.2⟩
      · exact ⟨_, .by_ rfl hv.1 (by simpa using hv.2)⟩) hf (by simp; omega)
    refine ⟨fs', x5', st3, (n1.trans n2).trans n3, by rw [hfl]; simp, hf', ?_⟩
    have a1 := add_lst (xs := [.tup [.str (S "seat")], .tup [.str (S "plug"), .str w]]) (ys := [.tup [.str (S "by"), .str v]]) (by simp)
    simp at a1
    simp [wb_law_proof_1, e1, e2, a1]
    rw [lp]
    simp
theorem loop_starts {m : Nat} (hm : 3 ≤ m) {i p : Nat} {x2 : Option D} : ∀ {ss : List D} {fs : List D} {x4 x5 : Option D} {st : Store}, st.length = p → SrcAt st i → (∀ s ∈ ss, ∃ w, InP b w s) → (∀ d ∈ fs, Raw (PRow b) d) → fs.length + 3 * ss.length ≤ 90 →
    ∃ fs' x4' x5' st1, Nxt i st st1 ∧ fs'.length ≤ fs.length + 3 * ss.length ∧ (∀ d ∈ fs', Raw (PRow b) d) ∧ forL (evSs (cfN tb L con kit m) wb_law_proof_1) (.nm 4) .free ss [some (.ref i), some (.bl b), x2, some (.ref p), x4, x5] (st ++ [.lst fs])
      = .nx [some (.ref i), some (.bl b), x2, some (.ref p), x4', x5'] (st1 ++ [.lst fs']) := by
  intro ss
  induction ss with
  | nil =>
    intro fs x4 x5 st hp h he hf hl
    exact ⟨fs, x4, x5, st, Nxt.refl h, by simp, hf, by rw [forL_nil (by simp)]⟩
  | cons s ss ih =>
    intro fs x4 x5 st hp h he hf hl
    obtain ⟨w, hs⟩ := he s (by simp)
    obtain ⟨fs1, x5a, st1, n1, hl1, hf1, e1⟩ := law_ends (L := L) (kit := kit) hm (i := i) (p := p) (x2 := x2) hs (fs := fs) (x5 := x5) (st := st) hp h hf (by simp at hl; omega)
    have hp1 : st1.length = p := by rw [n1.len]; exact hp
    obtain ⟨fs2, x4', x5', st2, n2, hl2, hf2, e2⟩ := ih (fs := fs1) (x4 := some s) (x5 := x5a) (st := st1) hp1 (n1.at h) (fun s hs => he s (by simp [hs])) hf1 (by simp at hl; omega)
    refine ⟨fs2, x4', x5', st2, n1.trans n2, by simp; omega, hf2, ?_⟩
    rw [forL_cons (sl1 := [some (.ref i), some (.bl b), x2, some (.ref p), some s, x5]) (by simp) (by simp), e1, RS.turn_nx, e2]
theorem sp_law_proof {st : Store} {i : Nat} (h : SrcAt st i) (hL : 1000 ≤ L) {n : Nat} (hn : 4 ≤ n) :
    ∃ ds r st1, Nxt i st st1 ∧ ds.length ≤ 12 ∧ (∀ d ∈ ds, Raw (PRow b) d) ∧ (r = [] ∨ r = [.tup [.str (S "rest"), .int 0]]) ∧ shut st (callN tb L con kit n "" "_law_proof" [.ref i, .bl b] st) = .ok (.lst (ds ++ r)) st1 := by
  obtain ⟨m, rfl, e⟩ := callN_at (n := n) (L := L) (con := con) (kit := kit) (st := st) t_law_proof (ds := [.ref i, .bl b]) rfl (by omega)
  rw [e]
  clear e
  have hm : 3 ≤ m := by omega
  obtain ⟨ss, st1, n1, sl, hss, e1⟩ := law_starts (L := L) (kit := kit) (b := b) h hm
  have h1 := n1.at h
  -- the three first rows
  have rows3 : ∃ fs st2, Nxt i st1 st2 ∧ fs.length = 3 ∧ (∀ d ∈ fs, Raw (PRow b) d) ∧ evS (cfN tb L con kit m) i_law_proof_3 [some (.ref i), some (.bl b), some (.lst ss), none, none, none] st1 = .nx [some (.ref i), some (.bl b), some (.lst ss), some (.ref st2.length), none, none] (st2 ++ [.lst fs]) := by
    obtain ⟨r1, s1, k1, hr1, f1⟩ := sp_ref (L := L) (kit := kit) (b := b) h1 (n := m) (by omega)
    have g1 := k1.at h1
    obtain ⟨r2, s2, k2, hr2, f2⟩ := sp_ref (L := L) (kit := kit) (b := b) g1 (n := m) (by omega)
    have g2 := k2.at g1
    obtain ⟨a2, s3, k3, ha2, f3⟩ := sp_number (L := L) (kit := kit) g2 (n := m) (by omega)
    have g3 := k3.at g2
    obtain ⟨r3, s4, k4, hr3, f4⟩ := sp_ref (L := L) (kit := kit) (b := b) g3 (n := m) (by omega)
    refine ⟨[.tup [.str (S "lanes"), .int 0, .str r1, .non], .tup [.str (S "lanes"), .int 0, .str r2, .int (a2 : Int)], .tup [.str (S "lanes"), .int 0, .str r3, .int 0]], s4, ((k1.trans k2).trans k3).trans k4, rfl, ?_, ?_⟩
    · intro d hd
      simp only [List.mem_cons, List.not_mem_nil, or_false] at hd
      rcases hd with rfl | rfl | rfl
      · exact (PRow.lanesQ hr1).raw
      · exact (PRow.lanes hr2 ha2).raw
      · exact (PRow.lanes (a := 0) hr3 (by unfold NumOk; omega)).raw
    · simp [f1, f2, f3, f4]
  obtain ⟨fs, st2, n2, fl, hf, e2⟩ := rows3
  have h2 := n2.at h1
  obtain ⟨fs', x4, x5, st3, n3, fl', hf', e3⟩ := loop_starts (L := L) (kit := kit) (b := b) hm (i := i) (p := st2.length) (x2 := some (.lst ss)) (ss := ss) (fs := fs) (x4 := none) (x5 := none) (st := st2) rfl h2 hss hf (by omega)
  have h3 := n3.at h2
  have hp3 : st3.length = st2.length := n3.len
  have nrf : D.nrs fs' = true := nrs_mem fun y hy => by
    obtain ⟨_, _, _, q, _⟩ := prow_shp (hf' y hy)
    exact q
  have lr := list_ref (st := st3 ++ [.lst fs']) (n := st2.length) (xs := fs') (app_get0' hp3)
  obtain ⟨ys, t4, n4', pm, e4⟩ := sp_shuffledT (L := L) (kit := kit) (h3.app (ext := [.lst fs'])) (t := .ref st2.length) lr nrf (by omega) hL (n := m) (by omega)
  obtain ⟨st4, n4, rfl⟩ := n4'.app h3.lt
  have h4 := n4.at h3
  obtain ⟨q, t5, n5', q0, q1, e5⟩ := sp_pickS (L := L) (kit := kit) (h4.app (ext := [.lst fs'])) (k := 3) (by decide) (by decide) (n := m) (by omega)
  obtain ⟨st5, n5, rfl⟩ := n5'.app h4.lt
  have n05 := (((n1.trans n2).trans n3).trans n4).trans n5
  have nry : D.nrs ys = true := nrs_mem fun z hz => mem_nrs nrf z (pm.mem_iff.mp hz)
  have yl : ys.length ≤ 12 := by rw [pm.length_eq]; omega
  refine ⟨ys, if 0 < q then [.tup [.str (S "rest"), .int 0]] else [], st5, n05, yl, fun d hd => hf' d (pm.mem_iff.mp hd), by split <;> simp, ?_⟩
  by_cases hq : 0 < q
  · have a1 := add_lst (xs := ys) (ys := [.tup [.str (S "rest"), .int 0]]) (by simp; unfold sizeLine; omega)
    simp [d_law_proof, e1, e2]
    rw [e3]
    simp [e4, e5, hq, a1]
    exact shut_nxt n05 (by simp [nrs_app, nry])
  · have a1 := add_lst (xs := ys) (ys := []) (by simp; unfold sizeLine; omega)
    simp at a1
    simp [d_law_proof, e1, e2]
    rw [e3]
    simp [e4, e5, hq, a1]
    exact shut_nxt n05 (by simp [nrs_app, nry])
end
end Fg

set_option maxHeartbeats 4000000
/-! Pl7: the law's own sameness. -/
namespace Fg
open PySem PySem.Spec PyProof.Rows L2 TL
def tyB : List String := ["NoneType", "bool", "int", "str", "list", "tuple", "dict"]
/-- built-in types by their names -/
def kitB (a b : TyK) : Option Bool := if a.1 = false ∧ b.1 = false ∧ tyB.contains a.2 = true ∧ tyB.contains b.2 = true then some (a.2 == b.2 || (a.2 == "bool" && b.2 == "int")) else none
section
variable {st : Store} {i : Int} {x : Str} {xs : List D}
theorem isi_of {u : D} {t : String} {c : String} {r : Bool} (ht : tyN (view st u) = some (false, t)) (e : kitB (false, t) (false, c) = some r) : isiV kitB st [u, .ty c] = some r := by
  unfold isiV
  simp only [ht]
  exact e
theorem isi_of2 {u : D} {t : String} {c1 c2 : String} {r : Bool} (ht : tyN (view st u) = some (false, t)) (e : kitL kitB (false, t) [(false, c1), (false, c2)] = some r) : isiV kitB st [u, .tup [.ty c1, .ty c2]] = some r := by
  unfold isiV
  simp only [ht]
  exact e
end
inductive Pl : Nat → D → Prop
  | int {k : Nat} {a : Int} : a.natAbs.log2 < 1920 → Pl k (.int a)
  | str {k : Nat} {x : Str} : (reprText x).length ≤ sizeLine → Pl k (.str x)
  | non {k : Nat} : Pl k .non
  | tup {k : Nat} {ds : List D} : (∀ d ∈ ds, Pl k d) → ds.length ≤ 900 → Pl (k + 1) (.tup ds)
  | lst {k : Nat} {ds : List D} : (∀ d ∈ ds, Pl k d) → ds.length ≤ 900 → Pl (k + 1) (.lst ds)
section
variable {L : Nat}
theorem same_seq {C : Cf} {st : Store} {ds : List D} {sl : Slots} {a u : D} (hl : ds.length ≤ 900) (hidx : ∀ (i : Nat) d, ds[i]? = some d → (shut st (C.call "" "_law_same" [d, d] st)) = .ok (.bl true) st)
    (h0 : ∀ i : Nat, idxV (view st a) (.int (i : Int)) = ds[i]?) (h1 : ∀ i : Nat, idxV (view st u) (.int (i : Int)) = ds[i]?) (hh : C.has "" "_law_same" = true) :
    lcLoop (lcBody C [some a, some u, none, none] [3] (.nm 3) (.con (.bl true)) (.call true "_law_same" (.cons (.idx (.var 0) (.var 3)) (.cons (.idx (.var 1) (.var 3)) .nil)))) .free (rngI 0 (ds.length : Int)) st = .ok ((List.range ds.length).map fun _ => .bl true) st := by
  have er : rngI 0 (ds.length : Int) = (List.range ds.length).map fun i => .int (i : Int) := by
    unfold rngI
    rw [show ((ds.length : Int) - 0).toNat = ds.length by omega]
    apply List.map_congr_left
    intro i _
    rw [Int.zero_add]
  rw [er]
  refine lc_free (fun _ => .bl true) fun i hi => ?_
  have hi' : i < ds.length := by simpa using hi
  have g : ds[i]? = some ds[i] := List.getElem?_eq_getElem hi'
  have e := hidx i ds[i] g
  have g0 := h0 i
  have g1 := h1 i
  rw [g] at g0 g1
  simp [lcb, hh, g0, g1, e]
theorem sp_same : ∀ {k : Nat} {d : D}, Pl k d → ∀ {n : Nat}, k + 1 ≤ n → ∀ {st : Store}, callN tb L con kitB n "" "_law_same" [d, d] st = .ok (.bl true) st := by
  intro k d h
  induction h with
  | @int k a ha =>
    intro n hn st
    obtain ⟨m, rfl, e⟩ := callN_at (n := n) (L := L) (con := con) (kit := kitB) (st := st) t_law_same (ds := [.int a, .int a]) rfl (by omega)
    rw [e]
    clear e
    have i1 := isi_of (st := st) (u := .int a) (t := "int") (c := "dict") (r := false) rfl (by decide +kernel)
    have i2 := isi_of2 (st := st) (u := .int a) (t := "int") (c1 := "list") (c2 := "tuple") (r := false) rfl (by decide +kernel)
    have i3 := isi_of2 (st := st) (u := .int a) (t := "int") (c1 := "int") (c2 := "str") (r := true) rfl (by decide +kernel)
    have rp : bltV st "repr" [.int a] = some (.str (Str.ofString (toString a))) := by show (if _ then _ else _) = _; rw [if_pos ha]
    simp [d_law_same, i1, i2, i3, rp]
  | @str k x hx =>
    intro n hn st
    obtain ⟨m, rfl, e⟩ := callN_at (n := n) (L := L) (con := con) (kit := kitB) (st := st) t_law_same (ds := [.str x, .str x]) rfl (by omega)
    rw [e]
    clear e
    have i1 := isi_of (st := st) (u := .str x) (t := "str") (c := "dict") (r := false) rfl (by decide +kernel)
    have i2 := isi_of2 (st := st) (u := .str x) (t := "str") (c1 := "list") (c2 := "tuple") (r := false) rfl (by decide +kernel)
    have i3 := isi_of2 (st := st) (u := .str x) (t := "str") (c1 := "int") (c2 := "str") (r := true) rfl (by decide +kernel)
    have rp : bltV st "repr" [.str x] = some (.str (reprText x)) := by show (if _ then _ else _) = _; rw [if_pos hx]
    simp [d_law_same, i1, i2, i3, rp]
  | @non k =>
    intro n hn st
    obtain ⟨m, rfl, e⟩ := callN_at (n := n) (L := L) (con := con) (kit := kitB) (st := st) t_law_same (ds := [.non, .non]) rfl (by omega)
    rw [e]
    clear e
    have i1 := isi_of (st := st) (u := .non) (t := "NoneType") (c := "dict") (r := false) rfl (by decide +kernel)
    have i2 := isi_of2 (st := st) (u := .non) (t := "NoneType") (c1 := "list") (c2 := "tuple") (r := false) rfl (by decide +kernel)
    have rp : bltV st "repr" [.non] = some (.str (Str.ofString "None")) := rfl
    simp [d_law_same, i1, i2, rp]
  | @tup k ds hd hl ih =>
    intro n hn st
    obtain ⟨m, rfl, e⟩ := callN_at (n := n) (L := L) (con := con) (kit := kitB) (st := st) t_law_same (ds := [.tup ds, .tup ds]) rfl (by omega)
    rw [e]
    clear e
    have i1 := isi_of (st := st) (u := .tup ds) (t := "tuple") (c := "dict") (r := false) rfl (by decide +kernel)
    have i2 := isi_of2 (st := st) (u := .tup ds) (t := "tuple") (c1 := "list") (c2 := "tuple") (r := true) rfl (by decide +kernel)
    have i3 := isi_of (st := st) (u := .tup ds) (t := "tuple") (c := "list") (r := false) rfl (by decide +kernel)
    have i4 := isi_of (st := st) (u := .tup ds) (t := "tuple") (c := "tuple") (r := true) rfl (by decide +kernel)
    have rn := rng1_of (k := (ds.length : Int)) (by omega) (by omega)
    have lp := same_seq (C := cfN tb L con kitB m) (st := st) (ds := ds) (sl := []) (a := .tup ds) (u := .tup ds) hl (fun i d hi => by
      rw [cfN_call, ih d (List.mem_of_getElem? hi) (by omega), shut_bl]) (fun i => by simp) (fun i => by simp) (by simp)
    have ll : ds.length ≤ sizeLine := by unfold sizeLine; omega
    simp [d_law_same, i1, i2, i3, i4, rn]
    rw [lp]
    have a1 : bltV st "all" [.lst ((List.range ds.length).map fun _ => .bl true)] = some (.bl ((List.range ds.length).all fun _ => true)) := all_map
    simp only [R.bnd_ok, List.length_map, List.length_range, ll, if_true, alloc_f, ev_nil, a1, newR_f]
    simp
  | @lst k ds hd hl ih =>
    intro n hn st
    obtain ⟨m, rfl, e⟩ := callN_at (n := n) (L := L) (con := con) (kit := kitB) (st := st) t_law_same (ds := [.lst ds, .lst ds]) rfl (by omega)
    rw [e]
    clear e
    have i1 := isi_of (st := st) (u := .lst ds) (t := "list") (c := "dict") (r := false) rfl (by decide +kernel)
    have i2 := isi_of2 (st := st) (u := .lst ds) (t := "list") (c1 := "list") (c2 := "tuple") (r := true) rfl (by decide +kernel)
    have i3 := isi_of (st := st) (u := .lst ds) (t := "list") (c := "list") (r := true) rfl (by decide +kernel)
    have i4 := isi_of (st := st) (u := .lst ds) (t := "list") (c := "tuple") (r := false) rfl (by decide +kernel)
    have rn := rng1_of (k := (ds.length : Int)) (by omega) (by omega)
    have lp := same_seq (C := cfN tb L con kitB m) (st := st) (ds := ds) (sl := []) (a := .lst ds) (u := .lst ds) hl (fun i d hi => by
      rw [cfN_call, ih d (List.mem_of_getElem? hi) (by omega), shut_bl]) (fun i => by simp) (fun i => by simp) (by simp)
    have ll : ds.length ≤ sizeLine := by unfold sizeLine; omega
    simp [d_law_same, i1, i2, i3, i4, rn]
    rw [lp]
    have a1 : bltV st "all" [.lst ((List.range ds.length).map fun _ => .bl true)] = some (.bl ((List.range ds.length).all fun _ => true)) := all_map
    simp only [R.bnd_ok, List.length_map, List.length_range, ll, if_true, alloc_f, ev_nil, a1, newR_f]
    simp
theorem sp_same_ref {k : Nat} {ds : List D} (hd : ∀ d ∈ ds, Pl k d) (hl : ds.length ≤ 900) {n : Nat} (hn : k + 2 ≤ n) {st : Store} {p : Nat} (hp : st[p]? = some (.lst ds)) : callN tb L con kitB n "" "_law_same" [.lst ds, .ref p] st = .ok (.bl true) st := by
  obtain ⟨m, rfl, e⟩ := callN_at (n := n) (L := L) (con := con) (kit := kitB) (st := st) t_law_same (ds := [.lst ds, .ref p]) rfl (by omega)
  rw [e]
  clear e
  have vw := view_ref hp
  have ty : tyN (view st (.ref p)) = some (false, "list") := by rw [vw]; rfl
  have i1 := isi_of (st := st) (u := .ref p) (t := "list") (c := "dict") (r := false) ty (by decide +kernel)
  have i2 := isi_of2 (st := st) (u := .ref p) (t := "list") (c1 := "list") (c2 := "tuple") (r := true) ty (by decide +kernel)
  have i3 := isi_of (st := st) (u := .lst ds) (t := "list") (c := "list") (r := true) rfl (by decide +kernel)
  have i4 := isi_of (st := st) (u := .lst ds) (t := "list") (c := "tuple") (r := false) rfl (by decide +kernel)
  have i5 := isi_of (st := st) (u := .ref p) (t := "list") (c := "list") (r := true) ty (by decide +kernel)
  have i6 := isi_of (st := st) (u := .ref p) (t := "list") (c := "tuple") (r := false) ty (by decide +kernel)
  have rn := rng1_of (k := (ds.length : Int)) (by omega) (by omega)
  have lr := len_ref hp
  have lp := same_seq (C := cfN tb L con kitB m) (st := st) (ds := ds) (sl := []) (a := .lst ds) (u := .ref p) hl (fun i d hi => by
    rw [cfN_call, sp_same (hd d (List.mem_of_getElem? hi)) (by omega), shut_bl]) (fun i => by simp) (fun i => by rw [vw]; simp) (by simp)
  have ll : ds.length ≤ sizeLine := by unfold sizeLine; omega
  simp [d_law_same, i1, i2, i3, i4, i5, i6, rn, lr]
  rw [lp]
  have a1 : bltV st "all" [.lst ((List.range ds.length).map fun _ => .bl true)] = some (.bl ((List.range ds.length).all fun _ => true)) := all_map
  simp only [R.bnd_ok, List.length_map, List.length_range, ll, if_true, alloc_f, ev_nil, a1, newR_f]
  simp
end
/-- plain data of rows and items -/
theorem Pl.mono {k : Nat} {d : D} (h : Pl k d) : ∀ {j : Nat}, k ≤ j → Pl j d := by
  induction h with
  | int h => intro j _; exact .int h
  | str h => intro j _; exact .str h
  | non => intro j _; exact .non
  | tup h hl ih =>
    intro j hj
    obtain ⟨j, rfl⟩ : ∃ i, j = i + 1 := ⟨j - 1, by omega⟩
    exact .tup (fun d hd => ih d hd (by omega)) hl
  | lst h hl ih =>
    intro j hj
    obtain ⟨j, rfl⟩ : ∃ i, j = i + 1 := ⟨j - 1, by omega⟩
    exact .lst (fun d hd => ih d hd (by omega)) hl
theorem pl_wd {k : Nat} {x : Str} (h : Wd x) : Pl k (.str x) := .str (by
  have := StrLaws.reprText_len x fun c hc => by have := h.2 c hc; omega
  have := h.1
  unfold sizeLine; omega)
theorem pl_num {k a : Nat} (h : NumOk a) : Pl k (.int (a : Int)) := .int (by
  rw [Int.natAbs_natCast]
  by_cases h0 : a = 0
  · subst h0; decide
  · exact (Nat.log2_lt h0).mpr (Nat.lt_of_le_of_lt h (by decide +kernel)))
theorem pl_line {k : Nat} {l : Int} (h0 : 0 ≤ l) (h1 : l ≤ 1000) : Pl k (.int l) := by
  obtain ⟨a, rfl⟩ : ∃ a : Nat, l = a := ⟨l.toNat, by omega⟩
  exact pl_num (by unfold NumOk; omega)
end Fg

set_option maxHeartbeats 4000000
/-! Pl8: rows that a text may hold; plain rows. -/
namespace Fg
open PySem PySem.Spec PyProof.Rows L2 TL
def Gd (r : List Str) : Prop := r ≠ [] ∧ r.length ≤ 40 ∧ ∀ w ∈ r, Wk w
section
variable {b : Bool}
theorem wk_want : Wk (S "want") := wk_lit (by decide +kernel)
theorem wk_seat : Wk (S "seat") := wk_lit (by decide +kernel)
theorem wk_more : Wk (S "more") := wk_lit (by decide +kernel)
theorem wk_within : Wk (S "within") := wk_lit (by decide +kernel)
theorem wk_shares : Wk (S "shares") := wk_lit (by decide +kernel)
theorem wk_wires : Wk (S "wires") := wk_lit (by decide +kernel)
theorem wk_lanes : Wk (S "lanes") := wk_lit (by decide +kernel)
theorem wk_at : Wk (S "at") := wk_lit (by decide +kernel)
theorem wk_to : Wk (S "to") := wk_lit (by decide +kernel)
theorem wk_q : Wk (S "?") := wk_lit (by decide +kernel)
theorem wk_by : Wk (S "by") := wk_lit (by decide +kernel)
theorem wk_with : Wk (S "with") := wk_lit (by decide +kernel)
theorem wk_from : Wk (S "from") := wk_lit (by decide +kernel)
theorem wk_socket : Wk (S "socket") := wk_lit (by decide +kernel)
theorem wk_plug : Wk (S "plug") := wk_lit (by decide +kernel)
theorem wk_search : Wk (S "search") := wk_lit (by decide +kernel)
theorem wk_rest : Wk (S "rest") := wk_lit (by decide +kernel)
theorem wk_end : Wk (S "end") := wk_lit (by decide +kernel)
theorem wk_claim : Wk (S "claim") := wk_lit (by decide +kernel)
theorem wk_proof : Wk (S "proof") := wk_lit (by decide +kernel)
theorem wk_rule : Wk (S "rule") := wk_lit (by decide +kernel)
theorem wk_tie : Wk (S "tie") := wk_lit (by decide +kernel)
theorem wk_kind : Wk (S "kind") := wk_lit (by decide +kernel)
theorem wk_use : Wk (S "use") := wk_lit (by decide +kernel)
theorem wk_show : Wk (S "show") := wk_lit (by decide +kernel)
theorem wk_book : Wk (S "book") := wk_lit (by decide +kernel)
theorem wk_module : Wk (S "module") := wk_lit (by decide +kernel)
theorem CntRow.gd {w : List Str} {v : Int → D} (h : CntRow b w v) : Gd w := by
  cases h with
  | want h1 h2 => exact ⟨by simp, by simp, by simp [wk_want, wk_rb h1, wk_num h2]⟩
  | seat h1 h2 => exact ⟨by simp, by simp, by simp [wk_seat, wk_rb h1, wk_num h2]⟩
theorem ClmRow.gd {w : List Str} {v : Int → D} (h : ClmRow w v) : Gd w := by
  cases h with
  | cnt h => exact h.gd
  | mwant h1 h2 => exact ⟨by simp, by simp, by simp [wk_more, wk_want, wk_rb h1, wk_num h2]⟩
  | mseat h1 h2 => exact ⟨by simp, by simp, by simp [wk_more, wk_seat, wk_rb h1, wk_num h2]⟩
  | within h2 => exact ⟨by simp, by simp, by simp [wk_within, wk_num h2]⟩
  | shares h2 => exact ⟨by simp, by simp, by simp [wk_shares, wk_num h2]⟩
  | wires h1 h2 => exact ⟨by simp, by simp, by simp [wk_wires, wk_rb h1, wk_num h2]⟩
theorem InP.wk {w : List Str} {v : D} (h : InP b w v) : ∀ x ∈ w, Wk x := by
  cases h with
  | want => simp [wk_want]
  | sock h1 h2 => simp [wk_socket, wk_nm ⟨h1, h2⟩]
  | from_ _ h1 h2 => simp [wk_from, wk_ref h1 h2]
theorem OutP.wk {w : List Str} {v : D} (h : OutP b w v) : ∀ x ∈ w, Wk x := by
  cases h with
  | seat => simp [wk_seat]
  | plug h1 h2 => simp [wk_plug, wk_nm ⟨h1, h2⟩]
  | by_ _ h1 h2 => simp [wk_by, wk_ref h1 h2]
theorem PRow.gd {w : List Str} {v : Int → D} (h : PRow b w v) : Gd w := by
  cases h with
  | lanesQ h => exact ⟨by simp, by simp, by simp [wk_lanes, wk_q, wk_rb h]⟩
  | lanes h h2 => exact ⟨by simp, by simp, by simp [wk_lanes, wk_rb h, wk_num h2]⟩
  | at_ h hi ho h1 h2 h3 =>
    have a1 := hi.wk
    have a2 := ho.wk
    have l1 := hi.len
    have l2 := ho.len
    refine ⟨by simp, by simp; omega, fun x hx => ?_⟩
    simp only [List.mem_cons, List.mem_append, List.not_mem_nil, or_false] at hx
    rcases hx with rfl | rfl | hx | rfl | rfl | rfl | hx | rfl
    · exact wk_at
    · exact wk_rb h
    · exact a1 _ hx
    · exact wk_num h1
    · exact wk_num h2
    · exact wk_to
    · exact a2 _ hx
    · exact wk_num h3
theorem ByRow.gd {w : List Str} {v : Int → D} (h : ByRow w v) : Gd w := by
  cases h with
  | mk h1 h2 h3 h4 h5 h6 h7 =>
    refine ⟨by simp, by simp; omega, fun x hx => ?_⟩
    simp only [List.mem_cons, List.mem_append] at hx
    rcases hx with rfl | rfl | hx | rfl | hx
    · exact wk_by
    · exact wk_nm ⟨h2, h1⟩
    · exact wk_rb (h3 _ hx)
    · exact wk_with
    · exact wk_rb (h4 _ hx)
theorem Rows.gd {P : List Str → (Int → D) → Prop} (hP : ∀ w v, P w v → Gd w) {ws : List (List Str)} {vs : Int → List D} (h : Rows P ws vs) : ∀ r ∈ ws, Gd r := by
  induction h with
  | nil => simp
  | cons h _ ih =>
    intro r hr
    rcases List.mem_cons.mp hr with rfl | hr
    · exact hP _ _ h
    · exact ih r hr
theorem PRows.gd {ws : List (List Str)} {vs : Int → List D} (h : PRows b ws vs) : ∀ r ∈ ws, Gd r := by
  induction h with
  | nil => simp
  | cons h _ ih =>
    intro r hr
    rcases List.mem_cons.mp hr with rfl | hr
    · exact h.gd
    · exact ih r hr
theorem gd2 {k x : Str} (hk : Wk k) (hx : Wk x) : Gd [k, x] := ⟨by simp, by simp, by simp [hk, hx]⟩
theorem gd1 {k : Str} (hk : Wk k) : Gd [k] := ⟨by simp, by simp, by simp [hk]⟩
theorem Body.gd {ws : List (List Str)} {vs : Int → List D} (h : Body b ws vs) : ∀ r ∈ ws, Gd r := by
  cases h with
  | search => simp [gd1 wk_search]
  | by_ _ h => simp [h.gd]
  | rows h => exact h.gd
  | rest h =>
    intro r hr
    rcases List.mem_append.mp hr with hr | hr
    · exact h.gd r hr
    · rw [List.mem_singleton] at hr; subst hr; exact gd1 wk_rest
/-- plain rows -/
theorem InP.pl {w : List Str} {v : D} (h : InP b w v) : Pl 1 v := by
  rw [h.port]
  have := h.len
  refine .tup (fun d hd => ?_) (by simp; omega)
  obtain ⟨x, hx, rfl⟩ := List.mem_map.mp hd
  exact pl_wd (h.wd x hx)
theorem OutP.pl {w : List Str} {v : D} (h : OutP b w v) : Pl 1 v := by
  rw [h.port]
  have := h.len
  refine .tup (fun d hd => ?_) (by simp; omega)
  obtain ⟨x, hx, rfl⟩ := List.mem_map.mp hd
  exact pl_wd (h.wd x hx)
theorem pl_lit {k : Nat} {s : String} (h : litB s = true) : Pl k (.str (S s)) := pl_wd (wd_lit h)
theorem CntRow.pl {w : List Str} {v : Int → D} (h : CntRow b w v) {l : Int} (h0 : 0 ≤ l) (h1 : l ≤ 1000) : Pl 1 (v l) := by
  cases h with
  | want a c => exact .tup (by simp [pl_wd a.1, pl_num c, pl_line h0 h1, pl_wd]) (by simp)
  | seat a c => exact .tup (by simp [pl_wd a.1, pl_num c, pl_line h0 h1, pl_wd]) (by simp)
theorem ClmRow.pl {w : List Str} {v : Int → D} (h : ClmRow w v) {l : Int} (h0 : 0 ≤ l) (h1 : l ≤ 1000) : Pl 1 (v l) := by
  cases h with
  | cnt h => exact h.pl h0 h1
  | mwant a c => exact .tup (by simp [pl_wd a.1, pl_num c, pl_line h0 h1, pl_wd, wd_mw]) (by simp)
  | mseat a c => exact .tup (by simp [pl_wd a.1, pl_num c, pl_line h0 h1, pl_wd, wd_ms]) (by simp)
  | within c => exact .tup (by simp [pl_num c, pl_line h0 h1, pl_wd]) (by simp)
  | shares c => exact .tup (by simp [pl_num c, pl_line h0 h1, pl_wd]) (by simp)
  | wires a c => exact .tup (by simp [pl_wd a.1, pl_num c, pl_line h0 h1, pl_wd]) (by simp)
theorem PRow.pl {w : List Str} {v : Int → D} (h : PRow b w v) {l : Int} (h0 : 0 ≤ l) (h1 : l ≤ 1000) : Pl 2 (v l) := by
  cases h with
  | lanesQ a => exact .tup (by simp [pl_wd a.1, pl_line h0 h1, pl_wd, Pl.non]) (by simp)
  | lanes a c => exact .tup (by simp [pl_wd a.1, pl_num c, pl_line h0 h1, pl_wd]) (by simp)
  | at_ a hi ho c1 c2 c3 =>
    refine .tup ?_ (by simp)
    have p1 := hi.pl
    have p2 := ho.pl
    intro d hd
    simp only [List.mem_cons, List.not_mem_nil, or_false] at hd
    rcases hd with rfl | rfl | rfl | rfl | rfl | rfl | rfl | rfl
    · exact pl_lit (by decide)
    · exact pl_line h0 h1
    · exact pl_wd a.1
    · exact p1
    · exact pl_num c1
    · exact pl_num c2
    · exact p2
    · exact pl_num c3
theorem ByRow.pl {w : List Str} {v : Int → D} (h : ByRow w v) {l : Int} (h0 : 0 ≤ l) (h1 : l ≤ 1000) : Pl 2 (v l) := by
  cases h with
  | mk a1 a2 a3 a4 a5 a6 a7 =>
    refine .tup ?_ (by simp)
    intro d hd
    simp only [List.mem_cons, List.not_mem_nil, or_false] at hd
    rcases hd with rfl | rfl | rfl | rfl | rfl
    · exact pl_lit (by decide)
    · exact pl_line h0 h1
    · exact pl_wd a2
    · refine .tup (fun d hd => ?_) (by simp; omega)
      obtain ⟨x, hx, rfl⟩ := List.mem_map.mp hd
      exact pl_wd (a3 x hx).1
    · refine .tup (fun d hd => ?_) (by simp; omega)
      obtain ⟨x, hx, rfl⟩ := List.mem_map.mp hd
      exact pl_wd (a4 x hx).1
theorem Rows.pl {P : List Str → (Int → D) → Prop} {k : Nat} (hP : ∀ w v, P w v → ∀ l, 0 ≤ l → l ≤ 1000 → Pl k (v l)) {ws : List (List Str)} {vs : Int → List D} (h : Rows P ws vs) : ∀ {l : Int}, 0 ≤ l → l + ws.length ≤ 1000 → ∀ d ∈ vs l, Pl k d := by
  induction h with
  | nil => simp
  | @cons w v ws vs h _ ih =>
    intro l h0 h1 d hd
    simp only [List.length_cons] at h1
    rcases List.mem_cons.mp hd with rfl | hd
    · exact hP _ _ h l h0 (by omega)
    · exact ih (by omega) (by omega) d hd
theorem PRows.pl {ws : List (List Str)} {vs : Int → List D} (h : PRows b ws vs) : ∀ {l : Int}, 0 ≤ l → l + ws.length ≤ 1000 → ∀ d ∈ vs l, Pl 2 d := by
  induction h with
  | nil => simp
  | @cons w v ws vs h _ ih =>
    intro l h0 h1 d hd
    simp only [List.length_cons] at h1
    rcases List.mem_cons.mp hd with rfl | hd
    · exact h.pl h0 (by omega)
    · exact ih (by omega) (by omega) d hd
theorem Body.pl {ws : List (List Str)} {vs : Int → List D} (h : Body b ws vs) {l : Int} (h0 : 0 ≤ l) (h1 : l + ws.length ≤ 1000) : ∀ d ∈ vs l, Pl 2 d := by
  cases h with
  | search =>
    intro d hd
    rw [List.mem_singleton] at hd; subst hd
    simp at h1
    exact .tup (by simp [pl_line h0 (show l ≤ 1000 by omega), pl_wd]) (by simp)
  | by_ _ h =>
    intro d hd
    rw [List.mem_singleton] at hd; subst hd
    simp at h1
    exact h.pl h0 (by omega)
  | rows h => exact h.pl h0 h1
  | @rest ws vs h _ =>
    intro d hd
    simp at h1
    rcases List.mem_append.mp hd with hd | hd
    · exact h.pl h0 (by omega) d hd
    · rw [List.mem_singleton] at hd; subst hd
      have p := pl_line (k := 1) (l := l + ws.length) (by omega) (by omega)
      exact .tup (by simp [p, pl_wd]) (by simp)
end
end Fg

set_option maxHeartbeats 4000000
/-! Pl9: the law's items drawn. -/
namespace Fg
open PySem PySem.Spec PyProof.Rows L2 TL
theorem Seqs.snoc {P : List (List Str) → (Int → D) → Prop} {q : Nat} {ws : List (List Str)} {vs : Int → List D} (h : Seqs P q ws vs) {w : List (List Str)} {v : Int → D} (hp : P w v) : Seqs P (q + 1) (ws ++ w) (fun l => vs l ++ [v (l + ws.length)]) := by
  induction h with
  | nil =>
    have := Seqs.cons hp (Seqs.nil (P := P))
    simpa using this
  | @cons q w0 v0 ws vs h0 hs ih =>
    have := Seqs.cons h0 ih
    rw [List.append_assoc]
    have e : (fun l : Int => (v0 l :: vs (l + w0.length)) ++ [v (l + ((w0 ++ ws).length : Nat))]) = fun l => v0 l :: (vs (l + w0.length) ++ [v (l + w0.length + ws.length)]) := by
      funext l
      rw [List.length_append, show l + ((w0.length + ws.length : Nat) : Int) = l + w0.length + ws.length by omega]
      rfl
    rw [e]
    exact this
theorem nx0 {s0 s1 x : D} {st1 : Store} (h : Nxt 0 [s0, s1, x] st1) : ∃ s, Src s ∧ st1 = [s, s1, x] := by obtain ⟨s, hs, rfl⟩ := h; exact ⟨s, hs, rfl⟩
theorem nx1 {s0 s1 x : D} {st1 : Store} (h : Nxt 1 [s0, s1, x] st1) : ∃ s, Src s ∧ st1 = [s0, s, x] := by obtain ⟨s, hs, rfl⟩ := h; exact ⟨s, hs, rfl⟩
@[simp] theorem view3_2 {a b c : D} : view [a, b, c] (.ref 2) = c := nrfl rfl
theorem at0 {s0 s1 x : D} (h : Src s0) : SrcAt [s0, s1, x] 0 := ⟨s0, rfl, h⟩
theorem at1 {s0 s1 x : D} (h : Src s1) : SrcAt [s0, s1, x] 1 := ⟨s1, rfl, h⟩
theorem f2_strs {Q : Str → Prop} {ds ys : List D} (h : F2 (fun _ y => ∃ x, Q x ∧ y = .str x) ds ys) : ∃ xs : List Str, ys = xs.map .str ∧ (∀ x ∈ xs, Q x) ∧ xs.length = ds.length := by
  induction h with
  | nil => exact ⟨[], rfl, by simp, rfl⟩
  | cons a _ ih =>
    obtain ⟨x, hx, rfl⟩ := a
    obtain ⟨xs, rfl, h1, h2⟩ := ih
    exact ⟨x :: xs, rfl, by simpa using ⟨hx, h1⟩, by simp [h2]⟩
theorem ByRow.raw {w : List Str} {v : Int → D} (h : ByRow w v) : Raw ByRow (v 0) := by
  have h' := h
  cases h <;> exact ⟨_, _, h', rfl, fun _ => rfl, _, _, rfl⟩
/-- what is drawn for a proof -/
def Bod (b : Bool) (ds : List D) : Prop := ∃ bws bvs, Body b bws bvs ∧ (∀ l, num l ds = bvs l) ∧ bws.length = ds.length ∧ ds.length ≤ 13 ∧ ∀ d ∈ ds, Shp d
theorem bod_proof {b : Bool} {ds r : List D} (hl : ds.length ≤ 12) (h : ∀ d ∈ ds, Raw (PRow b) d) (hr : r = [] ∨ r = [.tup [.str (S "rest"), .int 0]]) : Bod b (ds ++ r) := by
  obtain ⟨ws, vs, hp, hw, he⟩ := raw_rows h
  have hp' := rows_prows hp
  rcases hr with rfl | rfl
  · rw [List.append_nil]
    exact ⟨ws, vs, .rows hp' (by omega), he, hw, by omega, fun d hd => prow_shp (h d hd)⟩
  · refine ⟨_, _, .rest hp' (by omega), fun l => ?_, by simp [hw], by simp; omega, fun d hd => ?_⟩
    · rw [num_app, he, ← hw]; rfl
    · rcases List.mem_append.mp hd with hd | hd
      · exact prow_shp (h d hd)
      · rw [List.mem_singleton] at hd; subst hd
        exact ⟨_, _, rfl, by simp, by simp⟩
theorem bod_search {b : Bool} : Bod b [.tup [.str (S "search"), .int 0]] :=
  ⟨_, _, .search, fun l => rfl, rfl, by simp, fun d hd => by
    rw [List.mem_singleton] at hd; subst hd
    exact ⟨_, _, rfl, by simp, by simp⟩⟩
theorem bod_by {w : List Str} {v : Int → D} (h : ByRow w v) : Bod false [v 0] := by
  obtain ⟨w', v', h', e, hr, h1, r, e2⟩ := h.raw
  refine ⟨_, _, .by_ rfl h, fun l => ?_, rfl, by simp, fun d hd => ?_⟩
  · cases h; rfl
  · rw [List.mem_singleton] at hd; subst hd
    cases h
    exact ⟨_, _, rfl, by simp, by simp⟩
section
variable {L : Nat}
theorem cnt_ll {n : Nat} (hn : 1 ≤ n) {kit : TyK → TyK → Option Bool} {b : Bool} {ws : List (List Str)} {vs : Int → List D} (h : Rows (CntRow b) ws vs) (l : Int) : F2 (WL L kit n "_law_line") (vs l) (Lns ws) := rows_f2 (fun w v l h => ⟨_, rfl, fun st => ll_cnt h hn⟩) h l
theorem clm_ll {n : Nat} (hn : 1 ≤ n) {kit : TyK → TyK → Option Bool} {ws : List (List Str)} {vs : Int → List D} (h : Rows ClmRow ws vs) (l : Int) : F2 (WL L kit n "_law_line") (vs l) (Lns ws) := rows_f2 (fun w v l h => ⟨_, rfl, fun st => ll_claim h hn⟩) h l
theorem bod_ll {n : Nat} (hn : 1 ≤ n) {kit : TyK → TyK → Option Bool} {b : Bool} {ws : List (List Str)} {vs : Int → List D} (h : Body b ws vs) (l : Int) : F2 (WL L kit n "_law_line") (vs l) (Lns ws) := by
  cases h with
  | search => exact .cons ⟨_, rfl, fun st => ll_word (by decide) (by decide) (by decide) (by simp) hn⟩ .nil
  | by_ _ h => exact .cons ⟨_, rfl, fun st => ll_by h hn⟩ .nil
  | rows h => exact prows_f2 (fun w v l h => ⟨_, rfl, fun st => ll_row h hn⟩) h l
  | rest h =>
    rw [Lns_app]
    exact (prows_f2 (fun w v l h => ⟨_, rfl, fun st => ll_row h hn⟩) h l).app (.cons ⟨_, rfl, fun st => ll_word (by decide) (by decide) (by decide) (by simp) hn⟩ .nil)
/-- the items so far -/
structure Its (q : Nat) (ws : List (List Str)) (its : List D) : Prop where
  seq : ∃ vs, Seqs Item q ws vs ∧ its = vs 3
  len : ws.length ≤ 20 * q
  gd : ∀ r ∈ ws, Gd r
  pl : ∀ d ∈ its, Pl 4 d
theorem Its.snoc {q : Nat} {ws w : List (List Str)} {its : List D} {v : Int → D} (h : Its q ws its) (hi : Item w v) (hl : w.length ≤ 20) (hg : ∀ r ∈ w, Gd r) (hp : Pl 4 (v (3 + ws.length))) : Its (q + 1) (ws ++ w) (its ++ [v (3 + ws.length)]) := by
  obtain ⟨⟨vs, hs, rfl⟩, h2, h3, h4⟩ := h
  refine ⟨⟨_, hs.snoc hi, rfl⟩, by simp; omega, fun r hr => ?_, fun d hd => ?_⟩
  · rcases List.mem_append.mp hr with hr | hr
    · exact h3 r hr
    · exact hg r hr
  · rcases List.mem_append.mp hd with hd | hd
    · exact h4 d hd
    · rw [List.mem_singleton] at hd; subst hd; exact hp
theorem it_rule {m : Nat} (hm : 5 ≤ m) (hL : 1000 ≤ L) {s0 s1 : D} (h0 : Src s0) (h1 : Src s1) {its : List D} {bk mo : List Str} {q : Nat} {ws : List (List Str)} (hi : Its q ws its) (hq : q ≤ 5) (hil : its.length = q) {sc mn x7 x8 x9 x10 x11 x12 x13 x14 x15 x16 x17 x18 x19 : Option D} :
    ∃ s0' s1' y7 y8 y9 y10 y11 y12 w v, Src s0' ∧ Src s1' ∧ Item w v ∧ Its (q + 1) (ws ++ w) (its ++ [v (3 + ws.length)]) ∧
      evSs (cfN tb L con kitB m) wb_law_1 [sc, some (.ref 0), some (.ref 1), mn, some (.lst (Lns (bk :: mo :: ws))), some (.ref 2), some (.str (S "rule")), x7, x8, x9, x10, x11, x12, x13, x14, x15, x16, x17, x18, x19] [s0, s1, .lst its]
        = .ct [sc, some (.ref 0), some (.ref 1), mn, some (.lst (Lns (bk :: mo :: (ws ++ w)))), some (.ref 2), some (.str (S "rule")), y7, y8, y9, y10, y11, y12, x13, x14, x15, x16, x17, x18, x19] [s0', s1', .lst (its ++ [v (3 + ws.length)])] := by
  have hwl := hi.len
  -- the draws
  obtain ⟨nm, t1, n1, hnm, e1⟩ := sp_name (L := L) (kit := kitB) (at1 (s0 := s0) (x := .lst its) h1) (n := m) (by omega)
  obtain ⟨sa, ha, rfl⟩ := nx1 n1
  obtain ⟨cd, t2, n2, cl, hc, e2⟩ := sp_law_claim_t (L := L) (kit := kitB) (at1 (s0 := s0) (x := .lst its) ha) hL (n := m) (by omega)
  obtain ⟨sb, hb, rfl⟩ := nx1 n2
  obtain ⟨cws, cvs, hcr, cwl, hce⟩ := raw_rows hc
  obtain ⟨bd, br, t3, n3, bl, hbd, hbr, e3⟩ := sp_law_proof (L := L) (kit := kitB) (b := true) (at1 (s0 := s0) (x := .lst its) hb) hL (n := m) (by omega)
  obtain ⟨sc', hsc, rfl⟩ := nx1 n3
  obtain ⟨bws, bvs, hbo, hbe, bwl, bdl, bsh⟩ := bod_proof bl hbd hbr
  obtain ⟨ti, t4, n4, hti, e4⟩ := sp_name (L := L) (kit := kitB) (at0 (s1 := sc') (x := .lst its) h0) (n := m) (by omega)
  obtain ⟨sd, hd, rfl⟩ := nx0 n4
  generalize hP : Lns (bk :: mo :: ws) = P at *
  have hPl : P.length = ws.length + 2 := by rw [← hP]; simp
  have hPn : D.nrs P = true := by rw [← hP]; exact nrs_Lns
  have e5 := fun st => sp_numbered (L := L) (kit := kitB) (ds := cd) (fun d hd => cnt_shp (hc d hd)) (by omega) (l := (P.length : Int) + 1 + 2) (n := m) (by omega) (st := st)
  have e6 := fun st => sp_numbered (L := L) (kit := kitB) (ds := bd ++ br) bsh (by omega) (l := (P.length : Int) + 1 + 2 + 2) (n := m) (by omega) (st := st)
  rw [hce] at e5
  rw [hbe] at e6
  have cvl := hcr.len ((P.length : Int) + 1 + 2)
  rw [cwl, cl] at cvl
  have hT : Seqs Thing 1 [[S "tie", ti]] (fun l => [.tup [.str (S "tie"), .int l, .str ti]]) := by simpa using Seqs.cons (Thing.tie hti) Seqs.nil
  obtain ⟨v, hvd⟩ : ∃ v : Int → D, v = fun l => .tup [.str (S "rule"), .int l, .str nm, .tup ((fun l => [.tup [.str (S "tie"), .int l, .str ti]]) (l + 1)), .tup (cvs (l + 1 + ([[S "tie", ti]] : List (List Str)).length)), .tup (bvs (l + 1 + ([[S "tie", ti]] : List (List Str)).length + cws.length))] := ⟨_, rfl⟩
  have hItem : Item ([S "rule", nm] :: ([[S "tie", ti]] ++ (cws ++ (bws ++ [[S "end", S "rule"]])))) v := by rw [hvd]; exact Item.rule (nm := nm) hnm hT hcr hbo (by omega) (by omega)
  have k1 := add_kw (k := "rule") (c := "rule ") (by decide) (by decide) hnm.1
  have k2 := add_kw (k := "tie") (c := "tie ") (by decide) (by decide) hti.1
  have k3 := end_line (k := "rule") (c := "end rule") (by decide)
  have bvl : (bvs ((P.length : Int) + 1 + 2 + 2)).length = bws.length := by rw [← hbe, num_len, bwl]
  have f1 := (cnt_ll (L := L) (kit := kitB) (n := m) (by omega) hcr ((P.length : Int) + 1 + 2)).app (bod_ll (L := L) (kit := kitB) (n := m) (by omega) hbo ((P.length : Int) + 1 + 2 + 2))
  have b0 := add_tup (xs := cvs ((P.length : Int) + 1 + 2)) (ys := bvs ((P.length : Int) + 1 + 2 + 2)) (by rw [cvl, bvl]; unfold sizeLine; omega)
  have b1 := add_lst (xs := P) (ys := [.str (lineOf [S "rule", nm]), .str (lineOf [S "tie", ti])]) (by simp; unfold sizeLine; omega)
  have b2 := add_lst (xs := P ++ [.str (lineOf [S "rule", nm]), .str (lineOf [S "tie", ti])]) (ys := Lns cws ++ Lns bws) (by simp; unfold sizeLine; omega)
  have b3 := add_lst (xs := P ++ [.str (lineOf [S "rule", nm]), .str (lineOf [S "tie", ti])] ++ (Lns cws ++ Lns bws)) (ys := [.str (lineOf [S "end", S "rule"])]) (by simp; unfold sizeLine; omega)
  have c1 : (P.length : Int) + 1 = 3 + ws.length := by omega
  generalize hv : D.tup [.str (S "rule"), .int ((P.length : Int) + 1), .str nm, .tup [.tup [.str (S "tie"), .int ((P.length : Int) + 1 + 1), .str ti]], .tup (cvs ((P.length : Int) + 1 + 2)), .tup (bvs ((P.length : Int) + 1 + 2 + 2))] = row
  have ap := bm_append (st := [sd, sc', .lst its]) (n := 2) (xs := its) (y := row) (c := false) rfl (by unfold sizeLine; omega)
  have hrow : row = v (3 + ws.length) := by
    rw [← hv, ← c1, hvd]
    have d1 : (P.length : Int) + 1 + 2 = P.length + 1 + 1 + ((([[S "tie", ti]] : List (List Str)).length : Nat) : Int) := by simp; omega
    have d2 : (cws.length : Int) = 2 := by omega
    simp only [← d1, d2]
  have hpl : Pl 4 row := by
    rw [← hv]
    have hlines : ∀ j : Int, 0 ≤ j → j ≤ 10 → Pl 3 (.int ((P.length : Int) + 1 + j)) := fun j h0 h1 => pl_line (by omega) (by omega)
    refine .tup (fun d hd => ?_) (by simp)
    simp only [List.mem_cons, List.not_mem_nil, or_false] at hd
    rcases hd with rfl | rfl | rfl | rfl | rfl | rfl
    · exact pl_lit (by decide)
    · exact pl_line (by omega) (by omega)
    · exact pl_wd hnm.1
    · refine .tup (fun d hd => ?_) (by simp)
      rw [List.mem_singleton] at hd; subst hd
      refine .tup (fun d hd => ?_) (by simp)
      simp only [List.mem_cons, List.not_mem_nil, or_false] at hd
      rcases hd with rfl | rfl | rfl
      · exact pl_lit (by decide)
      · exact pl_line (by omega) (by omega)
      · exact pl_wd hti.1
    · refine .tup (fun d hd => ?_) (by omega)
      exact (hcr.pl (fun w v h l h0 h1 => h.pl h0 h1) (l := (P.length : Int) + 1 + 2) (by omega) (by omega) d hd).mono (by omega)
    · refine .tup (fun d hd => ?_) (by omega)
      exact hbo.pl (l := (P.length : Int) + 1 + 2 + 2) (by omega) (by omega) d hd
  have hIts := hi.snoc hItem (by simp; omega) (by
    intro r hr
    simp only [List.mem_cons, List.mem_append, List.not_mem_nil, or_false] at hr
    rcases hr with rfl | rfl | hr | hr | rfl
    · exact gd2 wk_rule (wk_nm hnm)
    · exact gd2 wk_tie (wk_nm hti)
    · exact hcr.gd (fun w v h => h.gd) r hr
    · exact hbo.gd r hr
    · exact gd2 wk_end wk_rule) (by rw [← hrow]; exact hpl)
  refine ⟨sd, sc', some (.str nm), some (.int ((P.length : Int) + 1)), some (.tup (cvs ((P.length : Int) + 1 + 2))), some (.tup (bvs ((P.length : Int) + 1 + 2 + 2))), some (.str ti), x12, _, _, hd, hsc, hItem, hIts, ?_⟩
  have er : Lns (bk :: mo :: (ws ++ ([S "rule", nm] :: ([[S "tie", ti]] ++ (cws ++ (bws ++ [[S "end", S "rule"]])))))) = P ++ (.str (lineOf [S "rule", nm]) :: .str (lineOf [S "tie", ti]) :: (Lns cws ++ (Lns bws ++ [.str (lineOf [S "end", S "rule"])]))) := by
    rw [← hP]; simp
  rw [er, ← hrow]
  have cll : cws.length + bws.length ≤ sizeLine := by unfold sizeLine; omega
  simp at b1 b2 b3 ap
  simp [wb_law_1, e1, e2, e3, e4, e5, e6, cvl, hv, ap, k1, k2, b0, b1]
  rw [lc_f2 (ys := Lns cws ++ Lns bws) (f1.imp fun d y hy => ?_)]
  · simp [cll, b2, b3, k3]
  · obtain ⟨x, rfl, hy⟩ := hy
    simp [lcb, hy]
end
end Fg

set_option maxHeartbeats 4000000
/-! Pla: the law's claims and proofs as items. -/
namespace Fg
open PySem PySem.Spec PyProof.Rows L2 TL
section
variable {L : Nat} {m : Nat} {s0 s1 : D} {its : List D} {sc mn ln x7 x8 x9 x10 x11 x12 x13 x14 x15 x16 x17 x18 x19 : Option D}
theorem ph_a (hm : 5 ≤ m) (hL : 1000 ≤ L) (h0 : Src s0) (h1 : Src s1) {x : String} (hx : x = "claim" ∨ x = "proof" ∨ x = "search" ∨ x = "by") {k : ISs} :
    ∃ ds s1', Src s1' ∧ (x = "claim" → (∀ d ∈ ds, Raw ClmRow d) ∧ ds.length = 7) ∧ (x = "proof" ∨ x = "search" → Bod false ds) ∧
      evSs (cfN tb L con kitB m) (.cons i_law_13 (.cons i_law_12 k)) [sc, some (.ref 0), some (.ref 1), mn, ln, some (.ref 2), some (.str (S x)), x7, x8, x9, x10, x11, x12, x13, x14, x15, x16, x17, x18, x19] [s0, s1, .lst its]
        = evSs (cfN tb L con kitB m) k [sc, some (.ref 0), some (.ref 1), mn, ln, some (.ref 2), some (.str (S x)), x7, x8, x9, x10, x11, x12, some (.lst ds), x14, x15, x16, x17, x18, x19] [s0, s1', .lst its] := by
  obtain ⟨cd, t2, n2, cl, hc, e2⟩ := sp_law_claim_f (L := L) (kit := kitB) (at1 (s0 := s0) (x := .lst its) h1) hL (n := m) (by omega)
  obtain ⟨sb, hb, rfl⟩ := nx1 n2
  obtain ⟨bd, br, t3, n3, bl, hbd, hbr, e3⟩ := sp_law_proof (L := L) (kit := kitB) (b := false) (at1 (s0 := s0) (x := .lst its) h1) hL (n := m) (by omega)
  obtain ⟨sp, hsp, rfl⟩ := nx1 n3
  rcases hx with rfl | rfl | rfl | rfl
  · exact ⟨cd, sb, hb, fun _ => ⟨hc, cl⟩, by simp, by simp [e2]⟩
  · exact ⟨bd ++ br, sp, hsp, by simp, fun _ => bod_proof bl hbd hbr, by simp [e3]⟩
  · exact ⟨[.tup [.str (S "search"), .int 0]], sp, hsp, by simp, fun _ => bod_search, by simp [e3]⟩
  · exact ⟨bd ++ br, sp, hsp, by simp, by simp, by simp [e3]⟩
/-- references, one to nine -/
theorem refs_draw (hm : 5 ≤ m) (h0 : Src s0) {sl : Slots} {r : Int} (hr0 : 0 ≤ r) (hr1 : r < 9) (hs : ∀ d, ∃ sl', setG (.nm 15) d (wipeS sl [15]) = some sl' ∧ sl'[1]? = some (some (.ref 0))) :
    ∃ (xs : List Str) (s0' : D), Src s0' ∧ (∀ x ∈ xs, RefOk false x) ∧ 1 ≤ xs.length ∧ xs.length ≤ 9 ∧ lcLoop (lcBody (cfN tb L con kitB m) sl [15] (.nm 15) (.con (.bl true)) (.call true "_law_ref" (.cons (.var 1) (.cons (.con (.bl false)) .nil)))) .free (rngI 0 (1 + r)) [s0, s1, .lst its] = .ok (xs.map D.str) [s0', s1, .lst its] := by
  obtain ⟨ys, t1, n1, f1, e1⟩ := lc_draw (i := 0) (P := fun _ y => ∃ x, RefOk false x ∧ y = .str x) (ds := rngI 0 (1 + r)) (st := [s0, s1, .lst its])
    (f := lcBody (cfN tb L con kitB m) sl [15] (.nm 15) (.con (.bl true)) (.call true "_law_ref" (.cons (.var 1) (.cons (.con (.bl false)) .nil)))) (at0 h0) (by
      intro d hd s hs'
      obtain ⟨x, s1, n1, hx, e1⟩ := sp_ref (L := L) (kit := kitB) (b := false) hs' (n := m) (by omega)
      obtain ⟨sl', g1, g2⟩ := hs d
      refine ⟨_, s1, n1, ⟨x, hx, rfl⟩, ?_⟩
      rw [lcb, g1]
      simp [g2, e1])
  obtain ⟨s0', hs0, rfl⟩ := nx0 n1
  obtain ⟨xs, rfl, hx, hl⟩ := f2_strs f1
  rw [rngI_len] at hl
  exact ⟨xs, s0', hs0, hx, by omega, by omega, e1⟩
theorem ph_b (hm : 5 ≤ m) (h0 : Src s0) (h1 : Src s1) {wd : Option D} {k : ISs} :
    ∃ (xs : List Str) (s0' s1' : D), Src s0' ∧ Src s1' ∧ (∀ x ∈ xs, RefOk false x) ∧ 1 ≤ xs.length ∧ xs.length ≤ 9 ∧
      evSs (cfN tb L con kitB m) (.cons i_law_10 k) [sc, some (.ref 0), some (.ref 1), mn, ln, some (.ref 2), wd, x7, x8, x9, x10, x11, x12, x13, x14, x15, x16, x17, x18, x19] [s0, s1, .lst its]
        = evSs (cfN tb L con kitB m) k [sc, some (.ref 0), some (.ref 1), mn, ln, some (.ref 2), wd, x7, x8, x9, x10, x11, x12, x13, some (.lst (xs.map .str)), x15, x16, x17, x18, x19] [s0', s1', .lst its] := by
  obtain ⟨r, t1, n1, r0, r1, e1⟩ := sp_pickS (L := L) (kit := kitB) (at1 (s0 := s0) (x := .lst its) h1) (k := 9) (by decide) (by decide) (n := m) (by omega)
  obtain ⟨sa, ha, rfl⟩ := nx1 n1
  obtain ⟨xs, s0', hs0, hx, l1, l2, e2⟩ := refs_draw (L := L) (m := m) (s0 := s0) (s1 := sa) (its := its) (sl := [sc, some (.ref 0), some (.ref 1), mn, ln, some (.ref 2), wd, x7, x8, x9, x10, x11, x12, x13, x14, x15, x16, x17, x18, x19]) hm h0 r0 r1 (fun d => ⟨_, by simp; rfl, rfl⟩)
  refine ⟨xs, s0', sa, hs0, ha, hx, l1, l2, ?_⟩
  have rn := rng1_of (k := 1 + r) (by omega) (by omega)
  have ll : xs.length ≤ sizeLine := by unfold sizeLine; omega
  simp [e1, rn]
  rw [e2]
  simp [ll]
theorem ph_c (hm : 5 ≤ m) (h0 : Src s0) (h1 : Src s1) {x : String} {ks : List Str} (hk : ∀ x ∈ ks, RefOk false x) (k1 : 1 ≤ ks.length) (k2 : ks.length ≤ 9) {ds : List D} {k : ISs} :
    ∃ ds' s0' s1', Src s0' ∧ Src s1' ∧ (x ≠ "by" → ds' = ds) ∧ (x = "by" → Bod false ds') ∧
      evSs (cfN tb L con kitB m) (.cons i_law_9 k) [sc, some (.ref 0), some (.ref 1), mn, ln, some (.ref 2), some (.str (S x)), x7, x8, x9, x10, x11, x12, some (.lst ds), some (.lst (ks.map .str)), x15, x16, x17, x18, x19] [s0, s1, .lst its]
        = evSs (cfN tb L con kitB m) k [sc, some (.ref 0), some (.ref 1), mn, ln, some (.ref 2), some (.str (S x)), x7, x8, x9, x10, x11, x12, some (.lst ds'), some (.lst (ks.map .str)), x15, x16, x17, x18, x19] [s0', s1', .lst its] := by
  by_cases hx : x = "by"
  · subst hx
    obtain ⟨nm, t1, n1, hnm, e1⟩ := sp_name (L := L) (kit := kitB) (at1 (s0 := s0) (x := .lst its) h1) (n := m) (by omega)
    obtain ⟨sa, ha, rfl⟩ := nx1 n1
    obtain ⟨r, t2, n2, r0, r1, e2⟩ := sp_pickS (L := L) (kit := kitB) (at1 (s0 := s0) (x := .lst its) ha) (k := 9) (by decide) (by decide) (n := m) (by omega)
    obtain ⟨sb, hb, rfl⟩ := nx1 n2
    obtain ⟨ns, s0', hs0, hn, l1, l2, e3⟩ := refs_draw (L := L) (m := m) (s0 := s0) (s1 := sb) (its := its) (sl := [sc, some (.ref 0), some (.ref 1), mn, ln, some (.ref 2), some (.str (S "by")), x7, x8, x9, x10, x11, x12, some (.lst ds), some (.lst (ks.map .str)), x15, x16, x17, x18, x19]) hm h0 r0 r1 (fun d => ⟨_, by simp; rfl, rfl⟩)
    have hby := ByRow.mk (r := nm) (ks := ks) (ns := ns) hnm.2 hnm.1 hk hn (by intro z; subst z; simp at k1) (by intro z; subst z; simp at l1) (by omega)
    have hB := bod_by hby
    have rn := rng1_of (k := 1 + r) (by omega) (by omega)
    have ll : ns.length ≤ sizeLine := by unfold sizeLine; omega
    refine ⟨_, s0', sb, hs0, hb, fun z => absurd rfl z, fun _ => hB, ?_⟩
    simp [e1, e2, rn]
    rw [e3]
    simp [ll]
  · refine ⟨ds, s0, s1, h0, h1, fun _ => rfl, fun z => absurd z hx, ?_⟩
    simp [hx]
end
end Fg

set_option maxHeartbeats 4000000
/-! Plb: the law's items, all words. -/
namespace Fg
open PySem PySem.Spec PyProof.Rows L2 TL
section
variable {L : Nat} {m : Nat} {s0 s1 : D} {its : List D} {sc mn x7 x8 x9 x10 x11 x12 x13 x14 x15 x16 x17 x18 x19 : Option D} {bk mo : List Str} {q : Nat} {ws : List (List Str)}
/-- rows numbered, the head, the item, its lines -/
theorem ph_d (hm : 5 ≤ m) {ln : List D} {x : String} {hd : String} (hhd : hd = (if x = "claim" then "claim" else "proof")) {nm : Str} (hnm : NmOk nm) {ds : List D} (hsh : ∀ d ∈ ds, Shp d) (hdl : ds.length ≤ 20) {rws : List (List Str)} {vs : Int → List D} (hve : ∀ l, num l ds = vs l) (hrl : rws.length = ds.length)
    (hll : ∀ l, F2 (WL L kitB m "_law_line") (vs l) (Lns rws)) (hpl : ln.length ≤ 900) (hil : its.length ≤ 900) :
      ∃ y10 y13 y16, evSs (cfN tb L con kitB m) (.cons i_law_7 (.cons i_law_6 (.cons i_law_5 (.cons i_law_4 .nil)))) [sc, some (.ref 0), some (.ref 1), mn, some (.lst ln), some (.ref 2), some (.str (S x)), some (.str nm), some (.int (ln.length + 1)), x9, x10, x11, x12, some (.lst ds), x14, x15, x16, x17, x18, x19] [s0, s1, .lst its]
        = .nx [sc, some (.ref 0), some (.ref 1), mn, some (.lst (ln ++ (.str (lineOf [S hd, nm]) :: (Lns rws ++ [.str (lineOf [S "end", S hd])])))), some (.ref 2), some (.str (S x)), some (.str nm), some (.int (ln.length + 1)), x9, y10, x11, x12, y13, x14, x15, y16, x17, x18, x19] [s0, s1, .lst (its ++ [.tup [.str (S hd), .int (ln.length + 1), .str nm, .tup (vs (ln.length + 1 + 1))]])] := by
  have e5 := fun st => sp_numbered (L := L) (kit := kitB) (ds := ds) hsh (by omega) (l := (ln.length : Int) + 1 + 1) (n := m) (by omega) (st := st)
  rw [hve] at e5
  refine ⟨some (.tup (vs (ln.length + 1 + 1))), some (.lst ds), some (.str (S hd)), ?_⟩
  have hd20 : hd.length ≤ 20 := by rw [hhd]; split <;> decide
  have ap := bm_append (st := [s0, s1, .lst its]) (n := 2) (xs := its) (y := .tup [.str (S hd), .int (ln.length + 1), .str nm, .tup (vs (ln.length + 1 + 1))]) (c := false) rfl (by unfold sizeLine; omega)
  have e0 : (S " ").length = 1 := S_len " "
  have e1 := S_len hd
  have hp := hnm.1.1
  have a1 := add_str (x := S hd) (y := S " ") (by rw [e0, e1]; unfold sizeLine; omega)
  have a2 := add_str (x := S hd ++ S " ") (y := nm) (by rw [len_app, e0, e1]; unfold sizeLine; omega)
  have a3 := add_str (x := S "end ") (y := S hd) (by rw [e1, S_len]; show 4 + _ ≤ _; unfold sizeLine; omega)
  have l1 : S hd ++ S " " ++ nm = lineOf [S hd, nm] := by simp only [line_cons, line_one, app_assoc]
  have l2 : S "end " ++ S hd = lineOf [S "end", S hd] := by
    rw [← S_app]; exact end_line rfl
  rw [l1] at a2
  rw [l2] at a3
  have vl : (vs (ln.length + 1 + 1)).length = rws.length := by rw [← hve, num_len, hrl]
  have b1 := add_lst (xs := ln) (ys := [.str (lineOf [S hd, nm])]) (by simp; unfold sizeLine; omega)
  have b2 := add_lst (xs := ln ++ [.str (lineOf [S hd, nm])]) (ys := Lns rws) (by simp; unfold sizeLine; omega)
  have b3 := add_lst (xs := ln ++ [.str (lineOf [S hd, nm])] ++ Lns rws) (ys := [.str (lineOf [S "end", S hd])]) (by simp; unfold sizeLine; omega)
  have cll : rws.length ≤ sizeLine := by unfold sizeLine; omega
  have hcond : evS (cfN tb L con kitB m) i_law_6 [sc, some (.ref 0), some (.ref 1), mn, some (.lst ln), some (.ref 2), some (.str (S x)), some (.str nm), some (.int (ln.length + 1)), x9, some (.tup (vs (ln.length + 1 + 1))), x11, x12, some (.lst ds), x14, x15, x16, x17, x18, x19] [s0, s1, .lst its] = .nx [sc, some (.ref 0), some (.ref 1), mn, some (.lst ln), some (.ref 2), some (.str (S x)), some (.str nm), some (.int (ln.length + 1)), x9, some (.tup (vs (ln.length + 1 + 1))), x11, x12, some (.lst ds), x14, x15, some (.str (S hd)), x17, x18, x19] [s0, s1, .lst its] := by
    subst hhd
    by_cases hx : x = "claim"
    · simp [hx]
    · simp [hx]
  have h7 : evS (cfN tb L con kitB m) i_law_7 [sc, some (.ref 0), some (.ref 1), mn, some (.lst ln), some (.ref 2), some (.str (S x)), some (.str nm), some (.int (ln.length + 1)), x9, x10, x11, x12, some (.lst ds), x14, x15, x16, x17, x18, x19] [s0, s1, .lst its] = .nx [sc, some (.ref 0), some (.ref 1), mn, some (.lst ln), some (.ref 2), some (.str (S x)), some (.str nm), some (.int (ln.length + 1)), x9, some (.tup (vs (ln.length + 1 + 1))), x11, x12, some (.lst ds), x14, x15, x16, x17, x18, x19] [s0, s1, .lst its] := by
    simp [e5]
  rw [es_cons, h7, RS.seq_nx, es_cons, hcond, RS.seq_nx]
  simp at b1 b2 b3 ap
  simp [ap, a1, a2, a3, b1]
  rw [lc_f2 (ys := Lns rws) ((hll (ln.length + 1 + 1)).imp fun d y hy => ?_)]
  · simp [cll, b2, b3, a3]
  · obtain ⟨x, rfl, hy⟩ := hy
    simp [lcb, hy]
theorem it_other (hm : 5 ≤ m) (hL : 1000 ≤ L) (h0 : Src s0) (h1 : Src s1) (hi : Its q ws its) (hq : q ≤ 5) (hil : its.length = q) {x : String} (hx : x = "claim" ∨ x = "proof" ∨ x = "search" ∨ x = "by") :
    ∃ (s0' s1' : D) (y7 y8 y10 y13 y14 y16 : Option D) (w : List (List Str)) (v : Int → D), Src s0' ∧ Src s1' ∧ Its (q + 1) (ws ++ w) (its ++ [v (3 + ws.length)]) ∧
      evSs (cfN tb L con kitB m) wb_law_1 [sc, some (.ref 0), some (.ref 1), mn, some (.lst (Lns (bk :: mo :: ws))), some (.ref 2), some (.str (S x)), x7, x8, x9, x10, x11, x12, x13, x14, x15, x16, x17, x18, x19] [s0, s1, .lst its]
        = .nx [sc, some (.ref 0), some (.ref 1), mn, some (.lst (Lns (bk :: mo :: (ws ++ w)))), some (.ref 2), some (.str (S x)), y7, y8, x9, y10, x11, x12, y13, y14, x15, y16, x17, x18, x19] [s0', s1', .lst (its ++ [v (3 + ws.length)])] := by
  have hwl := hi.len
  obtain ⟨nm, t1, n1, hnm, e1⟩ := sp_name (L := L) (kit := kitB) (at1 (s0 := s0) (x := .lst its) h1) (n := m) (by omega)
  obtain ⟨sa, ha, rfl⟩ := nx1 n1
  generalize hP : Lns (bk :: mo :: ws) = P at *
  have hPl : P.length = ws.length + 2 := by rw [← hP]; simp
  have c1 : (P.length : Int) + 1 = 3 + ws.length := by omega
  have hxr : x ≠ "rule" := by rcases hx with rfl | rfl | rfl | rfl <;> decide
  obtain ⟨d1, sb, hsb, ga1, ga2, ea⟩ := ph_a (L := L) (m := m) (s0 := s0) (s1 := sa) (its := its) (sc := sc) (mn := mn) (ln := some (.lst P)) (x7 := some (.str nm)) (x8 := some (.int (P.length + 1))) (x9 := x9) (x10 := x10) (x11 := x11) (x12 := x12) (x13 := x13) (x14 := x14) (x15 := x15) (x16 := x16) (x17 := x17) (x18 := x18) (x19 := x19) hm hL h0 ha hx (k := .cons i_law_10 (.cons i_law_9 (.cons i_law_7 (.cons i_law_6 (.cons i_law_5 (.cons i_law_4 .nil))))))
  obtain ⟨ks, sc0, sc1, hsc0, hsc1, hks, k1, k2, eb⟩ := ph_b (L := L) (m := m) (s0 := s0) (s1 := sb) (its := its) (sc := sc) (mn := mn) (ln := some (.lst P)) (x7 := some (.str nm)) (x8 := some (.int (P.length + 1))) (x9 := x9) (x10 := x10) (x11 := x11) (x12 := x12) (x13 := some (.lst d1)) (x14 := x14) (x15 := x15) (x16 := x16) (x17 := x17) (x18 := x18) (x19 := x19) hm h0 hsb (wd := some (.str (S x))) (k := .cons i_law_9 (.cons i_law_7 (.cons i_law_6 (.cons i_law_5 (.cons i_law_4 .nil)))))
  obtain ⟨ds, sd0, sd1, hsd0, hsd1, gc1, gc2, ec⟩ := ph_c (L := L) (m := m) (s0 := sc0) (s1 := sc1) (its := its) (sc := sc) (mn := mn) (ln := some (.lst P)) (x7 := some (.str nm)) (x8 := some (.int (P.length + 1))) (x9 := x9) (x10 := x10) (x11 := x11) (x12 := x12) (x15 := x15) (x16 := x16) (x17 := x17) (x18 := x18) (x19 := x19) hm hsc0 hsc1 (x := x) hks k1 k2 (ds := d1) (k := .cons i_law_7 (.cons i_law_6 (.cons i_law_5 (.cons i_law_4 .nil))))
  have start : evSs (cfN tb L con kitB m) wb_law_1 [sc, some (.ref 0), some (.ref 1), mn, some (.lst P), some (.ref 2), some (.str (S x)), x7, x8, x9, x10, x11, x12, x13, x14, x15, x16, x17, x18, x19] [s0, s1, .lst its] = evSs (cfN tb L con kitB m) (.cons i_law_13 (.cons i_law_12 (.cons i_law_10 (.cons i_law_9 (.cons i_law_7 (.cons i_law_6 (.cons i_law_5 (.cons i_law_4 .nil)))))))) [sc, some (.ref 0), some (.ref 1), mn, some (.lst P), some (.ref 2), some (.str (S x)), some (.str nm), some (.int (P.length + 1)), x9, x10, x11, x12, x13, x14, x15, x16, x17, x18, x19] [s0, sa, .lst its] := by
    show evSs _ (.cons i_law_22 (.cons i_law_21 (.cons i_law_20 _))) _ _ = _
    have h22 : evS (cfN tb L con kitB m) i_law_22 [sc, some (.ref 0), some (.ref 1), mn, some (.lst P), some (.ref 2), some (.str (S x)), x7, x8, x9, x10, x11, x12, x13, x14, x15, x16, x17, x18, x19] [s0, s1, .lst its] = .nx [sc, some (.ref 0), some (.ref 1), mn, some (.lst P), some (.ref 2), some (.str (S x)), some (.str nm), x8, x9, x10, x11, x12, x13, x14, x15, x16, x17, x18, x19] [s0, sa, .lst its] := by simp [e1]
    have h21 : evS (cfN tb L con kitB m) i_law_21 [sc, some (.ref 0), some (.ref 1), mn, some (.lst P), some (.ref 2), some (.str (S x)), some (.str nm), x8, x9, x10, x11, x12, x13, x14, x15, x16, x17, x18, x19] [s0, sa, .lst its] = .nx [sc, some (.ref 0), some (.ref 1), mn, some (.lst P), some (.ref 2), some (.str (S x)), some (.str nm), some (.int (P.length + 1)), x9, x10, x11, x12, x13, x14, x15, x16, x17, x18, x19] [s0, sa, .lst its] := by simp
    have h20 : evS (cfN tb L con kitB m) i_law_20 [sc, some (.ref 0), some (.ref 1), mn, some (.lst P), some (.ref 2), some (.str (S x)), some (.str nm), some (.int (P.length + 1)), x9, x10, x11, x12, x13, x14, x15, x16, x17, x18, x19] [s0, sa, .lst its] = .nx [sc, some (.ref 0), some (.ref 1), mn, some (.lst P), some (.ref 2), some (.str (S x)), some (.str nm), some (.int (P.length + 1)), x9, x10, x11, x12, x13, x14, x15, x16, x17, x18, x19] [s0, sa, .lst its] := by simp [hxr]
    rw [es_cons, h22, RS.seq_nx, es_cons, h21, RS.seq_nx, es_cons, h20, RS.seq_nx]
  rw [start, ea, eb, ec]
  by_cases hcl : x = "claim"
  · subst hcl
    have hds := gc1 (by decide)
    subst hds
    obtain ⟨hraw, h7⟩ := ga1 rfl
    obtain ⟨cws, cvs, hcr, cwl, hce⟩ := raw_rows hraw
    have hItem := Item.claim hnm hcr (by omega)
    obtain ⟨v, hv⟩ : ∃ v : Int → D, v = fun l => .tup [.str (S "claim"), .int l, .str nm, .tup (cvs (l + 1))] := ⟨_, rfl⟩
    rw [← hv] at hItem
    have cvl := hcr.len (3 + (ws.length : Int) + 1)
    have hpl : Pl 4 (v (3 + ws.length)) := by
      rw [hv]
      refine .tup (fun d hd => ?_) (by simp)
      simp only [List.mem_cons, List.not_mem_nil, or_false] at hd
      rcases hd with rfl | rfl | rfl | rfl
      · exact pl_lit (by decide)
      · exact pl_line (by omega) (by omega)
      · exact pl_wd hnm.1
      · refine .tup (fun d hd => ?_) (by omega)
        exact (hcr.pl (fun w v h l h0 h1 => h.pl h0 h1) (l := 3 + (ws.length : Int) + 1) (by omega) (by omega) d hd).mono (by omega)
    have hIts := hi.snoc hItem (by simp; omega) (by
      intro r hr
      simp only [List.mem_cons, List.mem_append, List.not_mem_nil, or_false] at hr
      rcases hr with rfl | hr | rfl
      · exact gd2 wk_claim (wk_nm hnm)
      · exact hcr.gd (fun w v h => h.gd) r hr
      · exact gd2 wk_end wk_claim) hpl
    obtain ⟨y10, y13, y16, ed⟩ := ph_d (L := L) (m := m) (s0 := sd0) (s1 := sd1) (its := its) (sc := sc) (mn := mn) (x9 := x9) (x10 := x10) (x11 := x11) (x12 := x12) (x14 := some (.lst (ks.map .str))) (x15 := x15) (x16 := x16) (x17 := x17) (x18 := x18) (x19 := x19) hm (ln := P) (x := "claim") (hd := "claim") rfl hnm (fun d hd => clm_shp (hraw d hd)) (by omega) hce cwl (fun l => clm_ll (by omega) hcr l) (by omega) (by omega)
    refine ⟨sd0, sd1, some (.str nm), some (.int (P.length + 1)), y10, y13, some (.lst (ks.map .str)), y16, _, v, hsd0, hsd1, hIts, ?_⟩
    rw [ed]
    have er : Lns (bk :: mo :: (ws ++ ([S "claim", nm] :: (cws ++ [[S "end", S "claim"]])))) = P ++ (.str (lineOf [S "claim", nm]) :: (Lns cws ++ [.str (lineOf [S "end", S "claim"])])) := by rw [← hP]; simp
    rw [er, c1, hv]
  · have hB : Bod false ds := by
      by_cases hby : x = "by"
      · exact gc2 hby
      · rw [gc1 hby]
        exact ga2 (by rcases hx with rfl | rfl | rfl | rfl <;> simp_all)
    obtain ⟨cws, cvs, hcr, hce, cwl, hdl, hsh⟩ := hB
    have hItem := Item.proof hnm hcr
    obtain ⟨v, hv⟩ : ∃ v : Int → D, v = fun l => .tup [.str (S "proof"), .int l, .str nm, .tup (cvs (l + 1))] := ⟨_, rfl⟩
    rw [← hv] at hItem
    have cvl : (cvs (3 + (ws.length : Int) + 1)).length = ds.length := by rw [← hce, num_len]
    have hpl : Pl 4 (v (3 + ws.length)) := by
      rw [hv]
      refine .tup (fun d hd => ?_) (by simp)
      simp only [List.mem_cons, List.not_mem_nil, or_false] at hd
      rcases hd with rfl | rfl | rfl | rfl
      · exact pl_lit (by decide)
      · exact pl_line (by omega) (by omega)
      · exact pl_wd hnm.1
      · refine .tup (fun d hd => ?_) (by omega)
        exact hcr.pl (l := 3 + (ws.length : Int) + 1) (by omega) (by omega) d hd
    have hIts := hi.snoc hItem (by simp; omega) (by
      intro r hr
      simp only [List.mem_cons, List.mem_append, List.not_mem_nil, or_false] at hr
      rcases hr with rfl | hr | rfl
      · exact gd2 wk_proof (wk_nm hnm)
      · exact hcr.gd r hr
      · exact gd2 wk_end wk_proof) hpl
    obtain ⟨y10, y13, y16, ed⟩ := ph_d (L := L) (m := m) (s0 := sd0) (s1 := sd1) (its := its) (sc := sc) (mn := mn) (x9 := x9) (x10 := x10) (x11 := x11) (x12 := x12) (x14 := some (.lst (ks.map .str))) (x15 := x15) (x16 := x16) (x17 := x17) (x18 := x18) (x19 := x19) hm (ln := P) (x := x) (hd := "proof") (by rw [if_neg hcl]) hnm hsh (by omega) hce cwl (fun l => bod_ll (by omega) hcr l) (by omega) (by omega)
    refine ⟨sd0, sd1, some (.str nm), some (.int (P.length + 1)), y10, y13, some (.lst (ks.map .str)), y16, _, v, hsd0, hsd1, hIts, ?_⟩
    rw [ed]
    have er : Lns (bk :: mo :: (ws ++ ([S "proof", nm] :: (cws ++ [[S "end", S "proof"]])))) = P ++ (.str (lineOf [S "proof", nm]) :: (Lns cws ++ [.str (lineOf [S "end", S "proof"])])) := by rw [← hP]; simp
    rw [er, c1, hv]
end
end Fg

set_option maxHeartbeats 4000000
/-! Plc: the law holds. -/
namespace Fg
open PySem PySem.Spec PyProof.Rows L2 TL
section
variable {L : Nat} {m : Nat} {sc mn : Option D} {bk mo : List Str}
theorem loop_law (hm : 5 ≤ m) (hL : 1000 ≤ L) : ∀ {xs : List D} {q : Nat} {ws : List (List Str)} {its : List D} {s0 s1 : D} {x6 x7 x8 x9 x10 x11 x12 x13 x14 x15 x16 x17 x18 x19 : Option D}, (∀ d ∈ xs, d = .str (S "rule") ∨ ∃ x, d = .str (S x) ∧ (x = "claim" ∨ x = "proof" ∨ x = "search" ∨ x = "by")) → Src s0 → Src s1 → Its q ws its → its.length = q → q + xs.length ≤ 5 →
    ∃ (q' : Nat) (ws' : List (List Str)) (its' : List D) (s0' s1' : D) (y6 y7 y8 y9 y10 y11 y12 y13 y14 y15 y16 y17 y18 y19 : Option D), Src s0' ∧ Src s1' ∧ Its q' ws' its' ∧ its'.length = q' ∧ q' ≤ 5 ∧
      forL (evSs (cfN tb L con kitB m) wb_law_1) (.nm 6) .free xs [sc, some (.ref 0), some (.ref 1), mn, some (.lst (Lns (bk :: mo :: ws))), some (.ref 2), x6, x7, x8, x9, x10, x11, x12, x13, x14, x15, x16, x17, x18, x19] [s0, s1, .lst its]
        = .nx [sc, some (.ref 0), some (.ref 1), mn, some (.lst (Lns (bk :: mo :: ws'))), some (.ref 2), y6, y7, y8, y9, y10, y11, y12, y13, y14, y15, y16, y17, y18, y19] [s0', s1', .lst its'] := by
  intro xs
  induction xs with
  | nil =>
    intro q ws its s0 s1 x6 x7 x8 x9 x10 x11 x12 x13 x14 x15 x16 x17 x18 x19 _ h0 h1 hi hil hq
    exact ⟨q, ws, its, s0, s1, x6, x7, x8, x9, x10, x11, x12, x13, x14, x15, x16, x17, x18, x19, h0, h1, hi, hil, by simp at hq; omega, by rw [forL_nil (by simp)]⟩
  | cons d xs ih =>
    intro q ws its s0 s1 x6 x7 x8 x9 x10 x11 x12 x13 x14 x15 x16 x17 x18 x19 hx h0 h1 hi hil hq
    simp only [List.length_cons] at hq
    rcases hx d (by simp) with rfl | ⟨x, rfl, hx1⟩
    · obtain ⟨s0', s1', y7, y8, y9, y10, y11, y12, w, v, h0', h1', _, hi', e⟩ := it_rule (L := L) (m := m) (bk := bk) (mo := mo) (sc := sc) (mn := mn) (x7 := x7) (x8 := x8) (x9 := x9) (x10 := x10) (x11 := x11) (x12 := x12) (x13 := x13) (x14 := x14) (x15 := x15) (x16 := x16) (x17 := x17) (x18 := x18) (x19 := x19) hm hL h0 h1 hi (by omega) hil
      obtain ⟨q', ws', its', s0'', s1'', z6, z7, z8, z9, z10, z11, z12, z13, z14, z15, z16, z17, z18, z19, a1, a2, a3, a4, a5, a6⟩ := ih (q := q + 1) (ws := ws ++ w) (its := its ++ [v (3 + ws.length)]) (s0 := s0') (s1 := s1') (x6 := some (.str (S "rule"))) (x7 := y7) (x8 := y8) (x9 := y9) (x10 := y10) (x11 := y11) (x12 := y12) (x13 := x13) (x14 := x14) (x15 := x15) (x16 := x16) (x17 := x17) (x18 := x18) (x19 := x19) (fun d hd => hx d (by simp [hd])) h0' h1' hi' (by simp [hil]) (by omega)
      refine ⟨q', ws', its', s0'', s1'', z6, z7, z8, z9, z10, z11, z12, z13, z14, z15, z16, z17, z18, z19, a1, a2, a3, a4, a5, ?_⟩
      rw [forL_cons (sl1 := [sc, some (.ref 0), some (.ref 1), mn, some (.lst (Lns (bk :: mo :: ws))), some (.ref 2), some (.str (S "rule")), x7, x8, x9, x10, x11, x12, x13, x14, x15, x16, x17, x18, x19]) (by simp) (by simp), e, RS.turn_ct, a6]
    · obtain ⟨s0', s1', y7, y8, y10, y13, y14, y16, w, v, h0', h1', hi', e⟩ := it_other (L := L) (m := m) (bk := bk) (mo := mo) (sc := sc) (mn := mn) (x7 := x7) (x8 := x8) (x9 := x9) (x10 := x10) (x11 := x11) (x12 := x12) (x13 := x13) (x14 := x14) (x15 := x15) (x16 := x16) (x17 := x17) (x18 := x18) (x19 := x19) hm hL h0 h1 hi (by omega) hil hx1
      obtain ⟨q', ws', its', s0'', s1'', z6, z7, z8, z9, z10, z11, z12, z13, z14, z15, z16, z17, z18, z19, a1, a2, a3, a4, a5, a6⟩ := ih (q := q + 1) (ws := ws ++ w) (its := its ++ [v (3 + ws.length)]) (s0 := s0') (s1 := s1') (x6 := some (.str (S x))) (x7 := y7) (x8 := y8) (x9 := x9) (x10 := y10) (x11 := x11) (x12 := x12) (x13 := y13) (x14 := y14) (x15 := x15) (x16 := y16) (x17 := x17) (x18 := x18) (x19 := x19) (fun d hd => hx d (by simp [hd])) h0' h1' hi' (by simp [hil]) (by omega)
      refine ⟨q', ws', its', s0'', s1'', z6, z7, z8, z9, z10, z11, z12, z13, z14, z15, z16, z17, z18, z19, a1, a2, a3, a4, a5, ?_⟩
      rw [forL_cons (sl1 := [sc, some (.ref 0), some (.ref 1), mn, some (.lst (Lns (bk :: mo :: ws))), some (.ref 2), some (.str (S x)), x7, x8, x9, x10, x11, x12, x13, x14, x15, x16, x17, x18, x19]) (by simp) (by simp), e, RS.turn_nx, a6]
theorem join_ac {y : Str} (hy : Ac y) : ∀ {ps : List Str}, (∀ p ∈ ps, Ac p) → Ac (Txt.join y ps) := by
  intro ps
  rw [join_eq]
  induction ps with
  | nil => intro _ c hc; exact absurd hc (by simp [Str.join, Str.empty])
  | cons p ps ih =>
    intro h
    have h1 := h p (by simp)
    have h2 := ih fun q hq => h q (by simp [hq])
    cases ps with
    | nil => exact h1
    | cons q r =>
      intro c hc
      have hc' : c ∈ tl (p ++ y ++ Str.join y (q :: r)) := hc
      rw [tl_append, tl_append] at hc'
      rcases List.mem_append.mp hc' with hc' | hc'
      · rcases List.mem_append.mp hc' with hc' | hc'
        · exact h1 c hc'
        · exact hy c hc'
      · exact h2 c hc'
theorem text_ac {rows : List (List Str)} (h : TxtOk rows) : Ac (textOf rows) := by
  refine join_ac (fun c hc => ?_) fun p hp => ?_
  · rw [tl_ofString] at hc
    have : c = 10 := by simpa using hc
    omega
  · obtain ⟨r, hr, rfl⟩ := List.mem_map.mp hp
    refine join_ac (fun c hc => ?_) fun w hw => ((h.row r hr).2.2 w hw).1.2
    rw [tl_ofString] at hc
    have : c = 32 := by simpa using hc
    omega
theorem pl_text {k : Nat} {rows : List (List Str)} (h : TxtOk rows) : Pl k (.str (textOf rows)) := .str (by
  have := StrLaws.reprText_len (textOf rows) fun c hc => by have := text_ac h c hc; omega
  have := text_len h
  unfold sizeLine; omega)
theorem law_holds (hL : 1000 ≤ L) {n : Nat} (hn : 14 ≤ n) {ns : List Int} (hns : ns.length ≤ 63) : ∃ st, callN tb L con kitB n "" "law" [.scr (ns.map .int)] [] = .ok (.bl true) st := by
  obtain ⟨m, rfl, e⟩ := callN_at (n := n) (L := L) (con := con) (kit := kitB) (st := []) t_law (ds := [.scr (ns.map .int)]) rfl (by omega)
  rw [e]
  clear e
  have hm : 13 ≤ m := by omega
  obtain ⟨s0, h0, e0⟩ := sp_source (L := L) (kit := kitB) (st := []) (ns := ns) (k := 0) (by omega) (by omega) (n := m) (by omega)
  obtain ⟨s1, h1, e1⟩ := sp_source (L := L) (kit := kitB) (st := [s0]) (ns := ns) (k := 1) (by omega) (by omega) (n := m) (by omega)
  obtain ⟨mnm, t2, n2, hmn, e2⟩ := sp_name (L := L) (kit := kitB) (st := [s0, s1]) (i := 0) ⟨s0, rfl, h0⟩ (n := m) (by omega)
  obtain ⟨s0a, h0a, rfl⟩ : ∃ s, Src s ∧ t2 = [s, s1] := by obtain ⟨s, hs, rfl⟩ := n2; exact ⟨s, hs, rfl⟩
  obtain ⟨bnm, t3, n3, hbn, e3⟩ := sp_name (L := L) (kit := kitB) (st := [s0a, s1]) (i := 0) ⟨s0a, rfl, h0a⟩ (n := m) (by omega)
  obtain ⟨s0b, h0b, rfl⟩ : ∃ s, Src s ∧ t3 = [s, s1] := by obtain ⟨s, hs, rfl⟩ := n3; exact ⟨s, hs, rfl⟩
  have k1 := add_kw (k := "book") (c := "book ") (by decide) (by decide) hbn.1
  have k2 := add_kw (k := "module") (c := "module ") (by decide) (by decide) hmn.1
  obtain ⟨xs, t4, n4, pm, e4⟩ := sp_shuffled (L := L) (kit := kitB) (at0 (s1 := s1) (x := .lst []) h0b) (xs := [.str (S "claim"), .str (S "proof"), .str (S "search"), .str (S "by"), .str (S "rule")]) (by simp) (by simp) hL (n := m) (by omega)
  obtain ⟨s0c, h0c, rfl⟩ := nx0 n4
  have i0 : Its 0 [] [] := ⟨⟨_, .nil, rfl⟩, by simp, by simp, by simp⟩
  obtain ⟨q, ws, its, s0d, s1d, y6, y7, y8, y9, y10, y11, y12, y13, y14, y15, y16, y17, y18, y19, h0d, h1d, hi, hil, hq, e5⟩ := loop_law (L := L) (m := m) (sc := some (.scr (ns.map .int))) (mn := some (.str mnm)) (bk := [S "book", bnm]) (mo := [S "module", mnm]) (by omega) hL (xs := xs) (q := 0) (ws := []) (its := []) (s0 := s0c) (s1 := s1) (x6 := none) (x7 := none) (x8 := none) (x9 := none) (x10 := none) (x11 := none) (x12 := none) (x13 := none) (x14 := none) (x15 := none) (x16 := none) (x17 := none) (x18 := none) (x19 := none) (fun d hd => by
    have := pm.mem_iff.mp hd
    simp only [List.mem_cons, List.not_mem_nil, or_false] at this
    rcases this with rfl | rfl | rfl | rfl | rfl
    · exact .inr ⟨_, rfl, .inl rfl⟩
    · exact .inr ⟨_, rfl, .inr (.inl rfl)⟩
    · exact .inr ⟨_, rfl, .inr (.inr (.inl rfl))⟩
    · exact .inr ⟨_, rfl, .inr (.inr (.inr rfl))⟩
    · exact .inl rfl) h0c h1 i0 rfl (by rw [pm.length_eq]; simp)
  obtain ⟨⟨vs, hs, hvs⟩, hwl, hgd, hpl⟩ := hi
  obtain ⟨rows, hrows⟩ : ∃ rows, rows = [S "book", bnm] :: [S "module", mnm] :: (ws ++ [[S "end", S "module"], [S "end", S "book"]]) := ⟨_, rfl⟩
  have hrl : rows.length = ws.length + 4 := by rw [hrows]; simp
  have ht : TxtOk rows := by
    refine ⟨by rw [hrows]; simp, by omega, fun r hr => ?_⟩
    rw [hrows] at hr
    simp only [List.mem_cons, List.mem_append, List.not_mem_nil, or_false] at hr
    rcases hr with rfl | rfl | hr | rfl | rfl
    · exact gd2 wk_book (wk_nm hbn)
    · exact gd2 wk_module (wk_nm hmn)
    · exact hgd r hr
    · exact gd2 wk_end wk_module
    · exact gd2 wk_end wk_book
  have hM : Mods [mnm] ([S "module", mnm] :: (ws ++ [[S "end", S "module"]])) (fun l => [.tup [.str mnm, .tup (vs (l + 1))]]) := by
    have := Mods.cons (Mod.mk (nm := mnm) hmn hs (by omega)) Mods.nil
    simpa using this
  have er : rows = [S "book", bnm] :: (([S "module", mnm] :: (ws ++ [[S "end", S "module"]])) ++ [[S "end", S "book"]]) := by rw [hrows]; simp
  have e6 := fun st => sp_read_text (kit := kitB) hbn hM (by simp) (by simp) er ht hL (n := m) (by omega) (st := st)
  have e7 := fun st => sp_write_text (L := L) (kit := kitB) hbn hM (by simp) er ht (l := 2) (n := m) (by omega) (st := st)
  have hvs2 : vs (2 + 1) = its := hvs.symm
  simp only [hvs2] at e6 e7
  have nri : D.nrs its = true := by rw [hvs]; exact hs.nr (fun w v h l => h.nr l) 3
  have e8 := fun st => sp_items_of (L := L) (kit := kitB) (bn := bnm) (nm := mnm) (its := its) nri (n := m) (by omega) (st := st)
  have e9 := sp_same_ref (L := L) (k := 4) hpl (by omega) (n := m) (by omega) (st := [s0d, s1d, .lst its]) (p := 2) rfl
  have e10 := fun st => sp_same (L := L) (pl_text (k := 0) ht) (n := m) (by omega) (st := st)
  have b1 := add_lst (xs := Lns ([S "book", bnm] :: [S "module", mnm] :: ws)) (ys := [.str (lineOf [S "end", S "module"]), .str (lineOf [S "end", S "book"])]) (by simp; unfold sizeLine; omega)
  have eL : Lns ([S "book", bnm] :: [S "module", mnm] :: ws) ++ [.str (lineOf [S "end", S "module"]), .str (lineOf [S "end", S "book"])] = Lns rows := by rw [hrows]; simp
  rw [eL] at b1
  have k3 := end_line (k := "module") (c := "end module") (by decide)
  have k4 := end_line (k := "book") (c := "end book") (by decide)
  have j := fun st => show bmR "join" false (.str (S "\n")) st (bmV st "join" (.str (S "\n")) [.lst (Lns rows)]) = .ok (.str (textOf rows)) st from by
    refine bm_join (ws := rows.map lineOf) rfl ?_
    have h1 := sum_map_le (ws := rows) (M := 1640) fun r hr => line_len (ht.row r hr).2
    have e1 : (S "\n").length = 1 := S_len "\n"
    rw [e1, List.length_map]
    have : rows.length * 1640 ≤ 600 * 1640 := Nat.mul_le_mul_right _ ht.len
    have := ht.len
    omega
  generalize hLn : Lns ([S "book", bnm] :: [S "module", mnm] :: ws) = ln at *
  refine ⟨[s0d, s1d, .lst its], ?_⟩
  simp at e0 e1 e5
  simp [d_law, e0, e1, e2, e3, k1, k2, e4]
  rw [e5]
  simp [k3, k4, b1, j, e6]
  have rn : rng1Of (.int 2) = some [.int 0, .int 1] := by
    rw [rng1_of (by decide) (by decide)]; rfl
  have step : ∀ x : D, evSs (cfN tb L con kitB m) wb_law_0 [some (.scr (ns.map .int)), some (.ref 0), some (.ref 1), some (.str mnm), some (.lst ln), some (.ref 2), y6, y7, y8, y9, y10, y11, y12, y13, y14, y15, y16, some (.str (textOf rows)), some (.obj "Tree" [("called", .str bnm), ("blocks", .lst [.tup [.str mnm, .tup its]])]), some x] [s0d, s1d, .lst its]
      = .nx [some (.scr (ns.map .int)), some (.ref 0), some (.ref 1), some (.str mnm), some (.lst ln), some (.ref 2), y6, y7, y8, y9, y10, y11, y12, y13, y14, y15, y16, some (.str (textOf rows)), some (.obj "Tree" [("called", .str bnm), ("blocks", .lst [.tup [.str mnm, .tup its]])]), some x] [s0d, s1d, .lst its] := fun x => by
    simp [wb_law_0, lk_items, e8, nri, e9, e7, e10]
  simp [rn]
  rw [forL_cons (sl1 := [some (.scr (ns.map .int)), some (.ref 0), some (.ref 1), some (.str mnm), some (.lst ln), some (.ref 2), y6, y7, y8, y9, y10, y11, y12, y13, y14, y15, y16, some (.str (textOf rows)), some (.obj "Tree" [("called", .str bnm), ("blocks", .lst [.tup [.str mnm, .tup its]])]), some (.int 0)]) (by simp) (by simp), step, RS.turn_nx]
  rw [forL_cons (sl1 := [some (.scr (ns.map .int)), some (.ref 0), some (.ref 1), some (.str mnm), some (.lst ln), some (.ref 2), y6, y7, y8, y9, y10, y11, y12, y13, y14, y15, y16, some (.str (textOf rows)), some (.obj "Tree" [("called", .str bnm), ("blocks", .lst [.tup [.str mnm, .tup its]])]), some (.int 1)]) (by simp) (by simp), step, RS.turn_nx]
  simp
end
end Fg

set_option maxHeartbeats 0
/-! Xe: the head's run, the row. -/
namespace Fg
open PySem PySem.Spec PyProof.Rows L2
def tys : List TyK := tyB.map fun n => (false, n)
theorem kit_mem (a b : TyK) (r : Bool) (h : kitB a b = some r) : a ∈ tys ∧ b ∈ tys := by
  unfold kitB at h
  split at h
  · rename_i c
    obtain ⟨c1, c2, c3, c4⟩ := c
    have key : ∀ t : TyK, t.1 = false → tyB.contains t.2 = true → t ∈ tys := fun t h1 h2 => by
      obtain ⟨b, n⟩ := t
      cases h1
      exact List.mem_map.mpr ⟨n, List.contains_iff_mem.mp h2, rfl⟩
    exact ⟨key a c1 c3, key b c2 c4⟩
  · cases h
abbrev oR : PySem.W.OpenRow := PySem.W.OpenLaw.row PySem.Challenge.rw_forgood_k01_every_form_of_a_row_is_read
abbrev qv : Program := PySem.W.view oR.prog [place]
abbrev exA : PySem.W.Frag → Bool := exM tds cls fl cs kitB tys
abbrev hk : PySem.W.Hook := hookM 5 exA (tds.map TD.fnD)
def ob (s : PySem.W.SharedT) : He.Al := obsMG 5 exA (tds.map TD.fnD) (HandSHeadRun.getT s)
theorem ob_eq (s : PySem.W.SharedT) : ob s = hk.obs s.abs := obsMG_eq (HandSHeadRun.getT_eq s)
theorem run (w : World) : HandSHeadRun.RunEq oR qv hk ob 4000 names w := by
  intro os
  kernel_rfl
theorem tds_cl : ∀ t ∈ tds, (t.d.c = "" ∧ t.d.nm ≠ "__init__") ∨ (t.d.c ∈ cls ∧ t.d.c ≠ "") := by decide +kernel
theorem law_in : td_law ∈ tds := by
  unfold tds
  simp only [List.mem_cons, true_or, or_true]
end Fg
open PySem PySem.W PySem.Calls PyProof.Rows
set_option maxRecDepth 100000 in
set_option maxHeartbeats 0 in
theorem PySem.Challenge.cw_forgood_k01_every_form_of_a_row_is_read_holds : PySem.Challenge.rw_forgood_k01_every_form_of_a_row_is_read.Holds := by
  w_on; o_law
  refine HandSHeadRun.head_any (r := Fg.oR) (q := Fg.qv) (H := Fg.hk) (ob := Fg.ob) (M := 4000) (loose := Fg.names) (d := HandSHeadRun.topDef Fg.oR.prog Fg.place) (kwd := []) Fg.ob_eq
    (by kernel_rfl) (fun s => by kernel_rfl) Fg.run (by kernel_rfl) (by kernel_rfl) (by kernel_rfl) (by rfl) (by first | assumption | decide +kernel) (by decide +kernel) ⟨rfl, rfl, rfl, rfl, rfl, by decide +kernel⟩ ?hw ?hc
  case hw => w_witness2
  case hc =>
    exact Fg.end_of (l := PySem.Challenge.rw_forgood_k01_every_form_of_a_row_is_read) (tl := Fg.td_law) (m := 13) (L := 1000) (con := Fg.con) (tys := Fg.tys) (k := 2 * 13 + 3) rfl (by kernel_rfl) (by kernel_rfl) (by decide) rfl ⟨rfl, by decide, by decide⟩ Fg.tds_ok Fg.kit_mem
      (by decide +kernel) Fg.tds_cl (fun x d h => Fg.lk_mem h) Fg.law_in Fg.t_law rfl rfl rfl fun ns hns => Fg.law_holds (Nat.le_refl _) (by decide) hns
